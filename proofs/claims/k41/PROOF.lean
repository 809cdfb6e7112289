import PyProof.Rows.All
import Wide.All
import OpenK.AllK
import Wide.FinOn
import HandS.ForMost
import HandS.IsInst
import HandS.Conv
import HandS.Zip
import HandS.Style
import HandS.Wide
import HandS.TupSets
import HandS.Strs
import KE.SortData
import HandS.TupAny
import HandS.Flow
import HandS.SetFor
import PySem.Challenge.RW_emptybox_k41_how_far_up
set_option Elab.async false
set_option linter.all false
set_option maxRecDepth 100000
set_option maxHeartbeats 4000000
set_option maxRecDepth 100000
set_option maxHeartbeats 4000000
/-! Readings by plain data: a judgement over values that read as PyData, lists that a def owns by themselves. -/
namespace G
open PySem PySem.Spec PyProof.Rows L2

/-- what a name holds: nothing known, data that stays, a list of its own, a list of the caller's that is lent -/
inductive Slot where
  | un
  | dat (d : PyData)
  | own (ds : List PyData)
  | par (ds : List PyData)
abbrev Rho := List Slot
abbrev Sto := L2.St
def Sub (G H : Hp) : Prop := ∀ a o, G a = some o → H a = some o
theorem Sub.refl {G : Hp} : Sub G G := fun _ _ h => h
theorem Sub.trans {G H J : Hp} (a : Sub G H) (b : Sub H J) : Sub G J := fun x o h => b x o (a x o h)
theorem Sub.no {G H : Hp} (a : Sub G H) {x : Addr} (h : H x = none) : G x = none := by
  cases e : G x with
  | none => rfl
  | some o => rw [a x o e] at h; cases h
theorem Sub.upd {G H : Hp} (a : Sub G H) {p : Addr} {o : HO} (h : H p = none) : Sub G (L2.upd H p o) := fun x u e => by
  rw [upd_ne (ne_of_none (a x u e) h)]; exact a x u e
theorem Sub.upd2 {G H : Hp} (a : Sub G H) {p : Addr} {o : HO} : Sub (L2.upd G p o) (L2.upd H p o) := fun x u e => by
  by_cases hx : x = p
  · subst hx; rw [upd_same] at e ⊢; exact e
  · rw [upd_ne hx] at e ⊢; exact a x u e

theorem seqL_mono {K : PySem.W.Frag} {G H : Hp} {a : Addr} {xs : List V} (e : Sub G H) (h : SqL K G a xs) : SqL K H a xs := by
  rcases h with (h | ⟨o, h⟩) | h
  · exact .inl (.inl (e _ _ h))
  · exact .inl (.inr ⟨o, e _ _ h⟩)
  · exact .inr h
theorem seqT_mono {K : PySem.W.Frag} {G H : Hp} {a : Addr} {xs : List V} (e : Sub G H) (h : SqT K G a xs) : SqT K H a xs := by
  rcases h with (h | ⟨o, h⟩) | h
  · exact .inl (.inl (e _ _ h))
  · exact .inl (.inr ⟨o, e _ _ h⟩)
  · exact .inr h
theorem rd_mono {G H : Hp} {a : Addr} {u : HO} (e : Sub G H) (h : Rd G a u) : Rd H a u := by
  rcases h with h | ⟨o, h⟩
  · exact .inl (e _ _ h)
  · exact .inr ⟨o, e _ _ h⟩
/-! a value reads as data -/
mutual
inductive Dq (K : PySem.W.Frag) (H : Hp) : V → PyData → Prop
  | non : Dq K H .non .none
  | bl (b : Bool) : Dq K H (.bl b) (.bool b)
  | int (i : Int) : Dq K H (.int i) (.int i)
  | str (x : Str) : Dq K H (.str x) (.str x)
  | lst {a : Addr} {xs : List V} {ds : List PyData} : Rd H a (.lst xs) → DqAll K H xs ds → Dq K H (.ref a) (.list ds)
  | tup {a : Addr} {xs : List V} {ds : List PyData} : SqT K H a xs → DqAll K H xs ds → Dq K H (.ref a) (.tuple ds)
  /-- the script: a list of ints that is read alone (told as a dict) -/
  | scr {a : Addr} (ns : List Int) : SqL K H a (ns.map V.int) → Dq K H (.ref a) (.dict (ns.map fun n => (.int n, .none)))
inductive DqAll (K : PySem.W.Frag) (H : Hp) : List V → List PyData → Prop
  | nil : DqAll K H [] []
  | cons {v : V} {vs : List V} {d : PyData} {ds : List PyData} : Dq K H v d → DqAll K H vs ds → DqAll K H (v :: vs) (d :: ds)
end
mutual
theorem dp_of {K : PySem.W.Frag} {H : Hp} : ∀ {v : V} {d : PyData}, Dq K H v d → d.canLay0 = true → Dp K H v d
  | _, _, .non, _ => .non
  | _, _, .bl b, _ => .bl b
  | _, _, .int i, _ => .int i
  | _, _, .str x, _ => .str x
  | _, _, .lst h r, c => .lst (.inl h) (dpAll_of r (by simpa [PyData.canLay0] using c))
  | _, _, .tup h r, c => .tup h (dpAll_of r (by simpa [PyData.canLay0] using c))
  | _, _, .scr ns h, c => by simp [PyData.canLay0] at c
theorem dpAll_of {K : PySem.W.Frag} {H : Hp} : ∀ {vs : List V} {ds : List PyData}, DqAll K H vs ds → PyData.canLayAll0 ds = true → DpAll K H vs ds
  | _, _, .nil, _ => .nil
  | _, _, .cons (d := d) (ds := ds) h r, c => by
    have c' : d.canLay0 = true ∧ PyData.canLayAll0 ds = true := by simpa [PyData.canLayAll0] using c
    exact .cons (dp_of h c'.1) (dpAll_of r c'.2)
end
mutual
theorem dp_mono {K : PySem.W.Frag} {G H : Hp} (e : Sub G H) : ∀ {v : V} {d : PyData}, Dq K G v d → Dq K H v d
  | _, _, .non => .non
  | _, _, .bl b => .bl b
  | _, _, .int i => .int i
  | _, _, .str x => .str x
  | _, _, .lst h r => .lst (rd_mono e h) (dpAll_mono e r)
  | _, _, .tup h r => .tup (seqT_mono e h) (dpAll_mono e r)
  | _, _, .scr ns h => .scr ns (seqL_mono e h)
theorem dpAll_mono {K : PySem.W.Frag} {G H : Hp} (e : Sub G H) : ∀ {vs : List V} {ds : List PyData}, DqAll K G vs ds → DqAll K H vs ds
  | _, _, .nil => .nil
  | _, _, .cons h r => .cons (dp_mono e h) (dpAll_mono e r)
end
section
variable {K : PySem.W.Frag} {G : Hp}
theorem dpAll_len : ∀ {vs : List V} {ds : List PyData}, DqAll K G vs ds → vs.length = ds.length
  | _, _, .nil => rfl
  | _, _, .cons _ r => by rw [List.length_cons, List.length_cons, dpAll_len r]
theorem dpAll_app : ∀ {vs ws : List V} {ds es : List PyData}, DqAll K G vs ds → DqAll K G ws es → DqAll K G (vs ++ ws) (ds ++ es)
  | _, _, _, _, .nil, h => h
  | _, _, _, _, .cons a r, h => .cons a (dpAll_app r h)
theorem dpAll_get : ∀ {vs : List V} {ds : List PyData} {i : Nat} {d : PyData}, DqAll K G vs ds → ds[i]? = some d → ∃ v, vs[i]? = some v ∧ Dq K G v d
  | _, _, _, _, .nil, h => by simp at h
  | _, _, 0, _, .cons a r, h => by simp at h; subst h; exact ⟨_, rfl, a⟩
  | _, _, i + 1, _, .cons a r, h => by
    obtain ⟨v, h1, h2⟩ := dpAll_get (i := i) r (by simpa using h)
    exact ⟨v, by simpa using h1, h2⟩
theorem dpAll_getV : ∀ {vs : List V} {ds : List PyData} {i : Nat} {v : V}, DqAll K G vs ds → vs[i]? = some v → ∃ d, ds[i]? = some d ∧ Dq K G v d
  | _, _, _, _, .nil, h => by simp at h
  | _, _, 0, _, .cons a r, h => by simp at h; subst h; exact ⟨_, rfl, a⟩
  | _, _, i + 1, _, .cons a r, h => by
    obtain ⟨v, h1, h2⟩ := dpAll_getV (i := i) r (by simpa using h)
    exact ⟨v, by simpa using h1, h2⟩
theorem dpAll_take : ∀ {vs : List V} {ds : List PyData} (n : Nat), DqAll K G vs ds → DqAll K G (vs.take n) (ds.take n)
  | _, _, 0, _ => .nil
  | _, _, _ + 1, .nil => .nil
  | _, _, n + 1, .cons a r => .cons a (dpAll_take n r)
theorem dpAll_drop : ∀ {vs : List V} {ds : List PyData} (n : Nat), DqAll K G vs ds → DqAll K G (vs.drop n) (ds.drop n)
  | _, _, 0, r => r
  | _, _, _ + 1, .nil => .nil
  | _, _, n + 1, .cons _ r => dpAll_drop n r
theorem dpAll_set {v : V} {d : PyData} (h : Dq K G v d) : ∀ {vs : List V} {ds : List PyData} (n : Nat), DqAll K G vs ds → DqAll K G (vs.set n v) (ds.set n d)
  | _, _, _, .nil => .nil
  | _, _, 0, .cons _ r => .cons h r
  | _, _, n + 1, .cons a r => .cons a (dpAll_set h n r)
theorem dpAll_rev : ∀ {vs : List V} {ds : List PyData}, DqAll K G vs ds → DqAll K G vs.reverse ds.reverse
  | _, _, .nil => .nil
  | _, _, .cons a r => by
    rw [List.reverse_cons, List.reverse_cons]
    exact dpAll_app (dpAll_rev r) (.cons a .nil)
theorem dp_int {v : V} {i : Int} (h : Dq K G v (.int i)) : v = .int i := by cases h; rfl
theorem dp_bl {v : V} {i : Bool} (h : Dq K G v (.bool i)) : v = .bl i := by cases h; rfl
theorem dp_str {v : V} {i : Str} (h : Dq K G v (.str i)) : v = .str i := by cases h; rfl
theorem dp_non {v : V} (h : Dq K G v .none) : v = .non := by cases h; rfl
theorem dp_lst {v : V} {ds : List PyData} (h : Dq K G v (.list ds)) : ∃ a xs, v = .ref a ∧ Rd G a (.lst xs) ∧ DqAll K G xs ds := by
  cases h with
  | lst h r => exact ⟨_, _, rfl, h, r⟩
theorem dp_tup {v : V} {ds : List PyData} (h : Dq K G v (.tuple ds)) : ∃ a xs, v = .ref a ∧ SqT K G a xs ∧ DqAll K G xs ds := by
  cases h with
  | tup h r => exact ⟨_, _, rfl, h, r⟩
theorem dpAll_ints : ∀ {vs : List V} {ns : List Int}, DqAll K G vs (ns.map .int) → vs = ns.map .int
  | _, [], h => by cases h; rfl
  | _, n :: ns, h => by
    cases h with
    | cons a r =>
      cases a
      rw [dpAll_ints r]; rfl
theorem dpAll_strs : ∀ {vs : List V} {ns : List Str}, DqAll K G vs (ns.map .str) → vs = ns.map .str
  | _, [], h => by cases h; rfl
  | _, n :: ns, h => by
    cases h with
    | cons a r =>
      cases a
      rw [dpAll_strs r]; rfl
theorem dpAll_bls : ∀ {vs : List V} {ns : List Bool}, DqAll K G vs (ns.map .bool) → vs = ns.map .bl
  | _, [], h => by cases h; rfl
  | _, n :: ns, h => by
    cases h with
    | cons a r =>
      cases a
      rw [dpAll_bls r]; rfl
end

/-- fr: what must stay as it stands; lock: what must not become data -/
structure Bx where
  fr : Hp
  lock : Addr → Prop
  pat : Nat → Addr
/-- every list and tuple is in bounds -/
def HoB : HO → Prop
  | .lst xs => xs.length ≤ sizeLine
  | .tup xs => xs.length ≤ sizeLine
  | .frz _ u => HoB u
  | _ => True
def Bnd (H : Hp) : Prop := ∀ a o, H a = some o → HoB o

section
variable (K : PySem.W.Frag) (B : Bx)
def SlOk (G H : Hp) (i : Nat) : Slot → Option V → List Addr → Prop
  | .un, _, r => r = []
  | .dat d, v, r => r = [] ∧ ∃ x, v = some x ∧ Dq K G x d
  | .own ds, v, r => ∃ p xs, r = [p] ∧ v = some (.ref p) ∧ H p = some (.lst xs) ∧ G p = none ∧ ¬ B.lock p ∧ DqAll K G xs ds
  | .par ds, v, r => ∃ xs, r = [B.pat i] ∧ v = some (.ref (B.pat i)) ∧ H (B.pat i) = some (.lst xs) ∧ G (B.pat i) = none ∧ DqAll K G xs ds
structure Ok (G H : Hp) (R : Nat → List Addr) (ρ : Rho) (σ : Sto) : Prop where
  sub : Sub G H
  kept : Sub B.fr H
  grow : ∀ a, B.lock a → H a ≠ none
  rD : ∀ i j a, a ∈ R i → a ∈ R j → i = j
  rF : ∀ i a, a ∈ R i → B.fr a = none
  rO : ∀ i, ρ.length ≤ i → R i = []
  len : ρ.length = σ.length
  slot : ∀ (i : Nat) sl v, ρ[i]? = some sl → σ[i]? = some v → SlOk K B G H i sl v (R i)
end
/-- the heaps grow: what is new is new -/
structure Ext (G H G' H' : Hp) : Prop where
  g : Sub G G'
  s : Sub G' H'
  h : Sub H H'
  n : ∀ a, G' a ≠ none → G a ≠ none ∨ H a = none
/-- the data grow -/
structure Stp (B : Bx) (G G' : Hp) : Prop where
  g : Sub G G'
  n : ∀ a, G' a ≠ none → G a ≠ none ∨ ¬ B.lock a
theorem Stp.refl {B : Bx} {G : Hp} : Stp B G G := ⟨.refl, fun _ h => .inl h⟩
theorem Stp.trans {B : Bx} {G G' G'' : Hp} (a : Stp B G G') (b : Stp B G' G'') : Stp B G G'' :=
  ⟨a.g.trans b.g, fun x h => (b.n x h).elim (a.n x) .inr⟩
theorem Ext.refl {G H : Hp} (s : Sub G H) : Ext G H G H := ⟨.refl, s, .refl, fun _ h => .inl h⟩
theorem Ext.trans {G H G1 H1 G2 H2 : Hp} (a : Ext G H G1 H1) (b : Ext G1 H1 G2 H2) : Ext G H G2 H2 :=
  ⟨a.g.trans b.g, b.s, a.h.trans b.h, fun x h => (b.n x h).elim (a.n x) fun z => .inr (a.h.no z)⟩
theorem Ext.new {G H : Hp} {p : Addr} {o : HO} (s : Sub G H) (h : H p = none) : Ext G H (upd G p o) (upd H p o) :=
  ⟨s.no h |> fun g => Sub.upd .refl g, s.upd2, .upd .refl h, fun a q => by
    by_cases e : a = p
    · exact .inr (e ▸ h)
    · rw [upd_ne e] at q; exact .inl q⟩
theorem Ext.newH {G H : Hp} {p : Addr} {o : HO} (s : Sub G H) (h : H p = none) : Ext G H G (upd H p o) :=
  ⟨.refl, s.upd h, .upd .refl h, fun _ q => .inl q⟩
section
variable {K : PySem.W.Frag} {B : Bx} {G H G' H' : Hp} {R : Nat → List Addr} {ρ : Rho} {σ : Sto}
theorem SlOk.ext {i : Nat} {sl : Slot} {v : Option V} {r : List Addr} (h : SlOk K B G H i sl v r) (e : Ext G H G' H') : SlOk K B G' H' i sl v r := by
  have key : ∀ {p : Addr} {xs : List V}, H p = some (.lst xs) → G p = none → G' p = none := fun {p xs} h1 h2 => by
    cases q : G' p with
    | none => rfl
    | some o =>
      rcases e.n p (by rw [q]; simp) with z | z
      · exact absurd h2 z
      · rw [h1] at z; cases z
  cases sl with
  | un => exact h
  | dat d => obtain ⟨h0, x, h1, h2⟩ := h; exact ⟨h0, x, h1, dp_mono e.g h2⟩
  | own ds => obtain ⟨p, xs, h1, h2, h3, h4, h5, h6⟩ := h; exact ⟨p, xs, h1, h2, e.h _ _ h3, key h3 h4, h5, dpAll_mono e.g h6⟩
  | par ds => obtain ⟨xs, h1, h2, h3, h4, h6⟩ := h; exact ⟨xs, h1, h2, e.h _ _ h3, key h3 h4, dpAll_mono e.g h6⟩
theorem Ok.ext (o : Ok K B G H R ρ σ) (e : Ext G H G' H') : Ok K B G' H' R ρ σ :=
  ⟨e.s, o.kept.trans e.h, fun a l z => o.grow a l (e.h.no z), o.rD, o.rF, o.rO, o.len, fun i sl v h1 h2 => (o.slot i sl v h1 h2).ext e⟩
theorem Ok.stp (o : Ok K B G H R ρ σ) (e : Ext G H G' H') : Stp B G G' :=
  ⟨e.g, fun a q => (e.n a q).elim .inl fun z => .inr fun l => o.grow a l z⟩
theorem Ok.dat (o : Ok K B G H R ρ σ) {i : Nat} {d : PyData} (h : ρ[i]? = some (.dat d)) : ∃ x, σ[i]? = some (some x) ∧ Dq K G x d := by
  have hl : i < σ.length := by rw [← o.len]; exact (List.getElem?_eq_some_iff.mp h).1
  obtain ⟨_, x, e, q⟩ := o.slot i _ _ h (List.getElem?_eq_getElem hl)
  exact ⟨x, by rw [List.getElem?_eq_getElem hl, e], q⟩
theorem Ok.ownAt (o : Ok K B G H R ρ σ) {i : Nat} {ds : List PyData} (h : ρ[i]? = some (.own ds)) : ∃ p xs, R i = [p] ∧ σ[i]? = some (some (V.ref p)) ∧ H p = some (.lst xs) ∧ G p = none ∧ ¬ B.lock p ∧ DqAll K G xs ds := by
  have hl : i < σ.length := by rw [← o.len]; exact (List.getElem?_eq_some_iff.mp h).1
  obtain ⟨p, xs, e1, e2, e3, e4, e5, e6⟩ := o.slot i _ _ h (List.getElem?_eq_getElem hl)
  exact ⟨p, xs, e1, by rw [List.getElem?_eq_getElem hl, e2], e3, e4, e5, e6⟩
theorem Ok.parAt (o : Ok K B G H R ρ σ) {i : Nat} {ds : List PyData} (h : ρ[i]? = some (.par ds)) : ∃ xs, R i = [B.pat i] ∧ σ[i]? = some (some (V.ref (B.pat i))) ∧ H (B.pat i) = some (.lst xs) ∧ G (B.pat i) = none ∧ DqAll K G xs ds := by
  have hl : i < σ.length := by rw [← o.len]; exact (List.getElem?_eq_some_iff.mp h).1
  obtain ⟨xs, e1, e2, e3, e4, e6⟩ := o.slot i _ _ h (List.getElem?_eq_getElem hl)
  exact ⟨xs, e1, by rw [List.getElem?_eq_getElem hl, e2], e3, e4, e6⟩
/-- a slot is stored: what it holds owns r -/
theorem Ok.set (o : Ok K B G H R ρ σ) {i : Nat} {sl : Slot} {v : Option V} {r : List Addr} (h : SlOk K B G H i sl v r) (hr : ∀ a ∈ r, B.fr a = none ∧ ∀ j, j ≠ i → a ∉ R j) (hi : r = [] ∨ i < ρ.length) :
    Ok K B G H (fun j => if j = i then r else R j) (ρ.set i sl) (σ.set i v) := by
  refine ⟨o.sub, o.kept, o.grow, fun j l a h1 h2 => ?_, fun j a h1 => ?_, fun j hj => ?_, by rw [List.length_set, List.length_set, o.len], fun j sl' v' h1 h2 => ?_⟩
  · by_cases e1 : j = i
    · by_cases e2 : l = i
      · rw [e1, e2]
      · rw [if_pos e1] at h1; rw [if_neg e2] at h2; exact absurd h2 ((hr a h1).2 l e2)
    · by_cases e2 : l = i
      · rw [if_neg e1] at h1; rw [if_pos e2] at h2; exact absurd h1 ((hr a h2).2 j e1)
      · rw [if_neg e1] at h1; rw [if_neg e2] at h2; exact o.rD j l a h1 h2
  · by_cases e1 : j = i
    · rw [if_pos e1] at h1; exact (hr a h1).1
    · rw [if_neg e1] at h1; exact o.rF j a h1
  · rw [List.length_set] at hj
    by_cases e1 : j = i
    · rw [if_pos e1]
      rcases hi with z | z
      · exact z
      · omega
    · rw [if_neg e1]; exact o.rO j hj
  · by_cases e1 : j = i
    · subst e1
      rw [if_pos rfl]
      have l1 : j < ρ.length := by
        have := (List.getElem?_eq_some_iff.mp h1).1
        rwa [List.length_set] at this
      rw [List.getElem?_set_self l1] at h1
      rw [List.getElem?_set_self (by rw [← o.len]; exact l1)] at h2
      cases h1; cases h2
      exact h
    · rw [if_neg e1]
      rw [List.getElem?_set_ne (Ne.symm e1)] at h1 h2
      exact o.slot j _ _ h1 h2
theorem Ok.setDat (o : Ok K B G H R ρ σ) {i : Nat} {d : PyData} {v : V} (h : Dq K G v d) : Ok K B G H (fun j => if j = i then [] else R j) (ρ.set i (.dat d)) (σ.set i (some v)) :=
  o.set ⟨rfl, v, rfl, h⟩ (fun a z => nomatch z) (.inl rfl)
theorem Ok.setUn (o : Ok K B G H R ρ σ) {i : Nat} {v : Option V} : Ok K B G H (fun j => if j = i then [] else R j) (ρ.set i .un) (σ.set i v) :=
  o.set (v := v) rfl (fun a z => nomatch z) (.inl rfl)
/-- a slot's list is written: p is what slot i holds -/
theorem Ok.write (o : Ok K B G H R ρ σ) {i : Nat} {p : Addr} {xs ys : List V} {sl : Slot} (hR : R i = [p]) (hH : H p = some (.lst xs)) (hG : G p = none)
    (h : ∀ v, σ[i]? = some v → SlOk K B G (upd H p (.lst ys)) i sl v [p]) : Ok K B G (upd H p (.lst ys)) R (ρ.set i sl) σ := by
  refine ⟨fun a u q => ?_, fun a u q => ?_, fun a l => ?_, o.rD, o.rF, fun j hj => o.rO j (by rwa [List.length_set] at hj), by rw [List.length_set, o.len], fun j sl' v h1 h2 => ?_⟩
  · rw [upd_ne (fun z => by rw [z, hG] at q; cases q)]; exact o.sub a u q
  · rw [upd_ne (fun z => by
      have := o.rF i p (by rw [hR]; simp)
      rw [z, this] at q; cases q)]
    exact o.kept a u q
  · by_cases e : a = p
    · rw [e, upd_same]; simp
    · rw [upd_ne e]; exact o.grow a l
  · by_cases e : j = i
    · subst e
      have l1 : j < ρ.length := by
        have := (List.getElem?_eq_some_iff.mp h1).1
        rwa [List.length_set] at this
      rw [List.getElem?_set_self l1] at h1
      cases h1
      rw [hR]; exact h v h2
    · rw [List.getElem?_set_ne (Ne.symm e)] at h1
      have q := o.slot j _ _ h1 h2
      have ne : ∀ q', q' ∈ R j → q' ≠ p := fun q' m z => e (o.rD j i p (z ▸ m) (by rw [hR]; simp))
      cases sl' with
      | un => exact q
      | dat d => exact q
      | own ds =>
        obtain ⟨p', xs', e1, e2, e3, e4, e5, e6⟩ := q
        exact ⟨p', xs', e1, e2, by rw [upd_ne (ne p' (by rw [e1]; simp))]; exact e3, e4, e5, e6⟩
      | par ds =>
        obtain ⟨xs', e1, e2, e3, e4, e6⟩ := q
        exact ⟨xs', e1, e2, by rw [upd_ne (ne _ (by rw [e1]; simp))]; exact e3, e4, e6⟩
/-- a slot's list becomes data -/
theorem Ok.freeze (o : Ok K B G H R ρ σ) {i : Nat} {ds : List PyData} (h : ρ[i]? = some (.own ds)) : ∃ p xs, R i = [p] ∧ σ[i]? = some (some (V.ref p)) ∧
    Ok K B (upd G p (.lst xs)) H (fun j => if j = i then [] else R j) (ρ.set i (.dat (.list ds))) σ ∧ Stp B G (upd G p (.lst xs)) ∧ Dq K (upd G p (.lst xs)) (.ref p) (.list ds) := by
  obtain ⟨p, xs, e1, e2, e3, e4, e5, e6⟩ := o.ownAt h
  have sg : Sub G (upd G p (.lst xs)) := Sub.upd .refl e4
  have dp : Dq K (upd G p (.lst xs)) (.ref p) (.list ds) := .lst (.inl upd_same) (dpAll_mono sg e6)
  refine ⟨p, xs, e1, e2, ⟨fun a u q => ?_, o.kept, o.grow, fun j l a h1 h2 => ?_, fun j a h1 => ?_, fun j hj => ?_, by rw [List.length_set, o.len], fun j sl v h1 h2 => ?_⟩, ⟨sg, fun a q => ?_⟩, dp⟩
  · by_cases z : a = p
    · subst z; rw [upd_same] at q; cases q; exact e3
    · rw [upd_ne z] at q; exact o.sub a u q
  · by_cases z1 : j = i
    · rw [if_pos z1] at h1; cases h1
    · by_cases z2 : l = i
      · rw [if_pos z2] at h2; cases h2
      · rw [if_neg z1] at h1; rw [if_neg z2] at h2; exact o.rD j l a h1 h2
  · by_cases z1 : j = i
    · rw [if_pos z1] at h1; cases h1
    · rw [if_neg z1] at h1; exact o.rF j a h1
  · rw [List.length_set] at hj
    by_cases z1 : j = i
    · rw [if_pos z1]
    · rw [if_neg z1]; exact o.rO j hj
  · by_cases z : j = i
    · subst z
      have l1 : j < ρ.length := (List.getElem?_eq_some_iff.mp h).1
      rw [List.getElem?_set_self l1] at h1
      cases h1
      rw [if_pos rfl]
      rw [e2] at h2; cases h2
      exact ⟨rfl, _, rfl, dp⟩
    · rw [List.getElem?_set_ne (Ne.symm z)] at h1
      rw [if_neg z]
      have q := o.slot j _ _ h1 h2
      have ne : ∀ q', q' ∈ R j → q' ≠ p := fun q' m y => z (o.rD j i p (y ▸ m) (by rw [e1]; simp))
      cases sl with
      | un => exact q
      | dat d => obtain ⟨a1, x, a2, a3⟩ := q; exact ⟨a1, x, a2, dp_mono sg a3⟩
      | own es =>
        obtain ⟨p', xs', a1, a2, a3, a4, a5, a6⟩ := q
        exact ⟨p', xs', a1, a2, a3, by rw [upd_ne (ne p' (by rw [a1]; simp))]; exact a4, a5, dpAll_mono sg a6⟩
      | par es =>
        obtain ⟨xs', a1, a2, a3, a4, a6⟩ := q
        exact ⟨xs', a1, a2, a3, by rw [upd_ne (ne _ (by rw [a1]; simp))]; exact a4, dpAll_mono sg a6⟩
  · by_cases z : a = p
    · exact .inr (z ▸ e5)
    · rw [upd_ne z] at q; exact .inl q
end
end G

set_option maxRecDepth 100000
set_option maxHeartbeats 4000000
namespace G
open PySem PySem.Spec PyProof.Rows L2
/-! ### bounds may be used -/
theorem hoB_of {P : Program} {w : World} {H : Hp} {h : Heap} {a : Addr} : ∀ {o : HO}, ObjOk P w H h a o → HoB o
  | .lst xs, x => x.1
  | .tup xs, x => x.1
  | .frz _ u, x => hoB_of (o := u) x.2
  | .dK _, _ => trivial
  | .dT _, _ => trivial
  | .set _ _, _ => trivial
  | .ins _ _ _, _ => trivial
  | .own _, _ => trivial
  | .xd _, _ => trivial
  | .met _ _, _ => trivial
  | .rng _ _, _ => trivial
  | .tbl _, _ => trivial
  | .ext _, _ => trivial
theorem bnd_of {X : Cx} {pins : List (Addr × Obj)} {σ : Sto} {H : Hp} {s : Shared} (I : Inv X pins σ H s) : Bnd H := fun a o e => hoB_of (I.hok a o e)
theorem PE.to {X : Cx} {e : Expr} {t u : TE} (h : PE X e t) (k : ∀ σ H Q, Bnd H → u σ H Q → t σ H (fun v H' => Bnd H' → Q v H')) : PE X e u := ⟨fun pins s σ H Q I q =>
  thn (h.run pins s σ H _ I (k σ H Q (bnd_of I) q)) fun _ _ ⟨v, H', I', r, q'⟩ => ⟨v, H', I', r, q' (bnd_of I')⟩⟩
theorem PT.to {X : Cx} {e : Expr} {t u : TT} (h : PT X e t) (k : ∀ σ H Q, Bnd H → u σ H Q → t σ H (fun v H' => Bnd H' → Q v H')) : PT X e u := ⟨fun pins s σ H Q I q =>
  thn (h.run pins s σ H _ I (k σ H Q (bnd_of I) q)) fun _ _ ⟨H', I', q'⟩ => ⟨H', I', q' (bnd_of I')⟩⟩
theorem PW.to {X : Cx} {e : Expr} {t u : TT} (h : PW X e t) (k : ∀ σ H Q, Bnd H → u σ H Q → t σ H (fun v H' => Bnd H' → Q v H')) : PW X e u := ⟨fun wh pins s σ H Q I q =>
  thn (h.run wh pins s σ H _ I (k σ H Q (bnd_of I) q)) fun _ _ ⟨H', I', q'⟩ => ⟨H', I', q' (bnd_of I')⟩⟩
theorem PA.to {X : Cx} {es : List Expr} {t u : TA} (h : PA X es t) (k : ∀ σ H Q, Bnd H → u σ H Q → t σ H (fun v H' => Bnd H' → Q v H')) : PA X es u := ⟨fun pos pins s σ H Q I q =>
  thn (h.run pos pins s σ H _ I (k σ H Q (bnd_of I) q)) fun _ _ ⟨v, H', I', r, q'⟩ => ⟨v, H', I', r, q' (bnd_of I')⟩⟩
theorem PTs.to {X : Cx} {es : List Expr} {t u : TT} (h : PTs X es t) (k : ∀ σ H Q, Bnd H → u σ H Q → t σ H (fun v H' => Bnd H' → Q v H')) : PTs X es u := ⟨fun pins s σ H Q I q =>
  thn (h.run pins s σ H _ I (k σ H Q (bnd_of I) q)) fun _ _ ⟨H', I', q'⟩ => ⟨H', I', q' (bnd_of I')⟩⟩
theorem PG.to {X : Cx} {e : Expr} {t u : TG} (h : PG X e t) (k : ∀ v σ H Q, Bnd H → u v σ H Q → t v σ H (fun σ' H' => Bnd H' → Q σ' H')) : PG X e u := ⟨fun pins s σ H v w Q I r q =>
  thn (h.run pins s σ H v w _ I r (k v σ H Q (bnd_of I) q)) fun _ _ ⟨σ', H', I', q'⟩ => ⟨σ', H', I', q' (bnd_of I')⟩⟩
theorem PGs.to {X : Cx} {es : List Expr} {t u : TGs} (h : PGs X es t) (k : ∀ v σ H Q, Bnd H → u v σ H Q → t v σ H (fun σ' H' => Bnd H' → Q σ' H')) : PGs X es u := ⟨fun pins s σ H v w Q I r q =>
  thn (h.run pins s σ H v w _ I r (k v σ H Q (bnd_of I) q)) fun _ _ ⟨σ', H', I', q'⟩ => ⟨σ', H', I', q' (bnd_of I')⟩⟩
theorem PI.to {X : Cx} {tg e : Expr} {t u : TI} (h : PI X tg e t) (k : ∀ σ H R, Bnd H → u σ H R → t σ H (fun J H' => Bnd H' → R J H')) : PI X tg e u := ⟨fun pins s σ H R I q =>
  thn (h.run pins s σ H _ I (k σ H R (bnd_of I) q)) fun _ _ h2 => thn h2 fun _ _ ⟨it, fp, tn, J, H', e, I', T, t0, f, r⟩ => ⟨it, fp, tn, J, H', e, I', T, t0, f, r (bnd_of I')⟩⟩
def bndE (D : Ends) : Ends := ⟨fun σ H => Bnd H → D.nx σ H, fun v H => Bnd H → D.rt v H, fun σ H => Bnd H → D.bk σ H, fun σ H => Bnd H → D.ct σ H⟩
theorem SP.bnd {X : Cx} {pins : List (Addr × Obj)} {D : Ends} {f : Flow} {s : Shared} (h : SP X pins (bndE D) f s) : SP X pins D f s := by
  cases f with
  | next => obtain ⟨σ', H', I, q⟩ := h; exact ⟨σ', H', I, q (bnd_of I)⟩
  | brk => obtain ⟨σ', H', I, q⟩ := h; exact ⟨σ', H', I, q (bnd_of I)⟩
  | cont => obtain ⟨σ', H', I, q⟩ := h; exact ⟨σ', H', I, q (bnd_of I)⟩
  | ret u => obtain ⟨v, σ', H', I, r, q⟩ := h; exact ⟨v, σ', H', I, r, q (bnd_of I)⟩
theorem PS.to {X : Cx} {st : Stmt} {t u : TS} (h : PS X st t) (k : ∀ D σ H, Bnd H → u D σ H → t (bndE D) σ H) : PS X st u := ⟨fun pins s σ H D I q =>
  thn (h.run pins s σ H _ I (k D σ H (bnd_of I) q)) fun _ _ z => SP.bnd z⟩
theorem PSs.to {X : Cx} {st : List Stmt} {t u : TS} (h : PSs X st t) (k : ∀ D σ H, Bnd H → u D σ H → t (bndE D) σ H) : PSs X st u := ⟨fun pins s σ H D I q =>
  thn (h.run pins s σ H _ I (k D σ H (bnd_of I) q)) fun _ _ z => SP.bnd z⟩

/-! ### what an expression, a test, an argument list tells -/
abbrev Ex := Rho → Option (PyData × Rho)
abbrev Te := Rho → Option (Bool × Rho)
abbrev Exs := Rho → Option (List PyData × Rho)
def tD (K : PySem.W.Frag) (f : Ex) : TE := fun σ H Q => ∃ B G R ρ d ρ', Ok K B G H R ρ σ ∧ f ρ = some (d, ρ') ∧ ∀ G' H' R' v, Stp B G G' → Ok K B G' H' R' ρ' σ → Dq K G' v d → Q v H'
def tT (K : PySem.W.Frag) (f : Te) : TT := fun σ H Q => ∃ B G R ρ b ρ', Ok K B G H R ρ σ ∧ f ρ = some (b, ρ') ∧ ∀ G' H' R', Stp B G G' → Ok K B G' H' R' ρ' σ → Q b H'
def tA (K : PySem.W.Frag) (f : Exs) : TA := fun σ H Q => ∃ B G R ρ ds ρ', Ok K B G H R ρ σ ∧ f ρ = some (ds, ρ') ∧ ∀ G' H' R' vs, Stp B G G' → Ok K B G' H' R' ρ' σ → DqAll K G' vs ds → Q vs H'
/-- a list of one's own, new -/
structure Fresh (K : PySem.W.Frag) (B : Bx) (G H : Hp) (R : Nat → List Addr) (p : Addr) (ds : List PyData) : Prop where
  at_ : ∃ xs, H p = some (.lst xs) ∧ DqAll K G xs ds
  g : G p = none
  l : ¬ B.lock p
  f : B.fr p = none
  r : ∀ i, p ∉ R i
def tO (K : PySem.W.Frag) (f : Exs) : TE := fun σ H Q => ∃ B G R ρ ds ρ', Ok K B G H R ρ σ ∧ f ρ = some (ds, ρ') ∧ ∀ G' H' R' p, Stp B G G' → Ok K B G' H' R' ρ' σ → Fresh K B G' H' R' p ds → Q (.ref p) H'
def PEd (X : Cx) (e : Expr) (f : Ex) : Prop := PE X e (tD X.K f)
def PEo (X : Cx) (e : Expr) (f : Exs) : Prop := PE X e (tO X.K f)
def PTd (X : Cx) (e : Expr) (f : Te) : Prop := PT X e (tT X.K f)
def PWd (X : Cx) (e : Expr) (f : Te) : Prop := PW X e (tT X.K f)
def PAd (X : Cx) (es : List Expr) (f : Exs) : Prop := PA X es (tA X.K f)

/-! ### names, constants -/
def nameE (i : Nat) : Ex := fun ρ => match ρ[i]? with
  | some (.dat d) => some (d, ρ)
  | some (.own ds) => some (.list ds, ρ.set i (.dat (.list ds)))
  | _ => none
def conE (d : PyData) : Ex := fun ρ => some (d, ρ)
section
variable {X : Cx} {pos : Pos}
theorem pd_name {i : Nat} {x : Str} (h : PE X (.Name x pos) (tVar i)) : PEd X (.Name x pos) (nameE i) := PE.to h fun σ H Q _ q => by
  obtain ⟨B, G, R, ρ, d, ρ', o, e, k⟩ := q
  unfold nameE at e
  cases e1 : ρ[i]? with
  | none => rw [e1] at e; cases e
  | some sl =>
    rw [e1] at e
    cases sl with
    | un => cases e
    | par ds => cases e
    | dat d' =>
      cases e
      obtain ⟨x, e2, dp⟩ := o.dat e1
      exact ⟨x, e2, fun _ => k G H R x .refl o dp⟩
    | own ds =>
      cases e
      obtain ⟨p, xs, _, e2, o2, st, dp⟩ := o.freeze e1
      exact ⟨_, e2, fun _ => k _ H _ _ st o2 dp⟩
theorem pd_con {e : Expr} {v : V} {d : PyData} (h : PE X e (tC v)) (hd : ∀ G, Dq X.K G v d) : PEd X e (conE d) := PE.to h fun σ H Q _ q => by
  obtain ⟨B, G, R, ρ, d, ρ', o, e, k⟩ := q
  cases e
  exact fun _ => k G H R v .refl o (hd G)
theorem pd_int {i : Int} {j : Nat} : PEd X (.Constant (.int i) j pos) (conE (.int i)) := pd_con pe_int fun _ => .int i
theorem pd_bl {b : Bool} {j : Nat} : PEd X (.Constant (.bool b) j pos) (conE (.bool b)) := pd_con pe_bl fun _ => .bl b
theorem pd_non {j : Nat} : PEd X (.Constant .none j pos) (conE .none) := pd_con pe_non fun _ => .non
theorem pd_str {x : Str} {j : Nat} : PEd X (.Constant (.str x) j pos) (conE (.str x)) := pd_con pe_str fun _ => .str x
end

/-! ### by values -/
def rD (K : PySem.W.Frag) (m : PyData → PyData → Option PyData) : R2 := fun x y H Q => ∃ G d e r, Sub G H ∧ Dq K G x d ∧ Dq K G y e ∧ m d e = some r ∧ ∀ G' H' v, Ext G H G' H' → Dq K G' v r → Q v H'
def rB (K : PySem.W.Frag) (m : PyData → PyData → Option Bool) : R2 := fun x y H Q => ∃ G d e r, Sub G H ∧ Dq K G x d ∧ Dq K G y e ∧ m d e = some r ∧ Q (.bl r) H
def rU (K : PySem.W.Frag) (m : PyData → Option PyData) : V → Hp → VK → Prop := fun x H Q => ∃ G d r, Sub G H ∧ Dq K G x d ∧ m d = some r ∧ ∀ G' H' v, Ext G H G' H' → Dq K G' v r → Q v H'
def rN (K : PySem.W.Frag) (m : List PyData → Option PyData) : List V → Hp → VK → Prop := fun xs H Q => ∃ G ds r, Sub G H ∧ DqAll K G xs ds ∧ m ds = some r ∧ ∀ G' H' v, Ext G H G' H' → Dq K G' v r → Q v H'
/-- .. a new list -/
def rNO (K : PySem.W.Frag) (m : List PyData → Option (List PyData)) : List V → Hp → VK → Prop := fun xs H Q => ∃ G ds r, Sub G H ∧ DqAll K G xs ds ∧ m ds = some r ∧ ∀ G' H' p zs, Ext G H G' H' → H p = none → H' p = some (.lst zs) → G' p = none → DqAll K G' zs r → Q (.ref p) H'
def rDO (K : PySem.W.Frag) (m : PyData → PyData → Option (List PyData)) : R2 := fun x y H Q => ∃ G d e r, Sub G H ∧ Dq K G x d ∧ Dq K G y e ∧ m d e = some r ∧ ∀ G' H' p zs, Ext G H G' H' → H p = none → H' p = some (.lst zs) → G' p = none → DqAll K G' zs r → Q (.ref p) H'
theorem fresh_of {K : PySem.W.Frag} {B : Bx} {G H G' H' : Hp} {R : Nat → List Addr} {ρ : Rho} {σ : Sto} {p : Addr} {zs : List V} {ds : List PyData} (o : Ok K B G H R ρ σ) (h0 : H p = none) (h1 : H' p = some (.lst zs)) (h2 : G' p = none) (h3 : DqAll K G' zs ds) : Fresh K B G' H' R p ds := by
  refine ⟨⟨zs, h1, h3⟩, h2, fun l => o.grow p l h0, o.kept.no h0, fun i hi => ?_⟩
  by_cases hlt : i < ρ.length
  · have q := o.slot i _ _ (List.getElem?_eq_getElem hlt) (List.getElem?_eq_getElem (by rw [← o.len]; exact hlt))
    revert q
    generalize ρ[i] = sl
    intro q
    cases sl with
    | un => have q : R i = [] := q; rw [q] at hi; cases hi
    | dat d => obtain ⟨q, _⟩ := q; rw [q] at hi; cases hi
    | own es =>
      obtain ⟨p', xs', a1, a2, a3, _⟩ := q
      rw [a1] at hi
      have : p = p' := by simpa using hi
      subst this
      rw [h0] at a3; cases a3
    | par es =>
      obtain ⟨xs', a1, a2, a3, _⟩ := q
      rw [a1] at hi
      have : p = B.pat i := by simpa using hi
      rw [← this, h0] at a3; cases a3
  · rw [o.rO i (by omega)] at hi; cases hi
end G

set_option maxRecDepth 100000
set_option maxHeartbeats 4000000
namespace G
open PySem PySem.Spec PyProof.Rows L2
/-! ### what operators make of data -/
abbrev Dt := PyData
def fits (n : Nat) : Bool := decide (n ≤ sizeLine)
def addD : Dt → Dt → Option Dt
  | .int a, .int b => some (.int (a + b))
  | .str a, .str b => if a.length + b.length ≤ sizeLine then some (.str (a ++ b)) else none
  | .tuple a, .tuple b => if a.length + b.length ≤ sizeLine then some (.tuple (a ++ b)) else none
  | .list a, .list b => if a.length + b.length ≤ sizeLine then some (.list (a ++ b)) else none
  | _, _ => none
def catD : Dt → Dt → Option (List Dt)
  | .list a, .list b => if a.length + b.length ≤ sizeLine then some (a ++ b) else none
  | _, _ => none
def repD : Dt → Dt → Option (List Dt)
  | .list a, .int k => if a.length * k.toNat ≤ sizeLine ∧ -(2 ^ 63) ≤ k ∧ k < 2 ^ 63 then some (List.replicate k.toNat a).flatten else none
  | _, _ => none
def subD : Dt → Dt → Option Dt
  | .int a, .int b => some (.int (a - b))
  | _, _ => none
def mulD : Dt → Dt → Option Dt
  | .int a, .int b => if (-(2 ^ 64) < a ∧ a < 2 ^ 64) ∨ (-(2 ^ 64) < b ∧ b < 2 ^ 64) then some (.int (a * b)) else none
  | _, _ => none
def divD : Dt → Dt → Option Dt
  | .int a, .int b => if 0 < b ∧ b < 1073741824 then some (.int (a / b)) else none
  | _, _ => none
def modD : Dt → Dt → Option Dt
  | .int a, .int b => if 0 < b then some (.int (a % b)) else none
  | _, _ => none
def powD : Dt → Dt → Option Dt
  | .int a, .int b => if 0 ≤ b ∧ b ≤ 1000000 ∧ a.natAbs < 2 ^ 64 then some (.int (a ^ b.toNat)) else none
  | _, _ => none
def ltD : Dt → Dt → Option Bool
  | .int a, .int b => some (decide (a < b))
  | _, _ => none
def leD : Dt → Dt → Option Bool
  | .int a, .int b => some (decide (a ≤ b))
  | _, _ => none
def gtD : Dt → Dt → Option Bool
  | .int a, .int b => some (decide (b < a))
  | _, _ => none
def geD : Dt → Dt → Option Bool
  | .int a, .int b => some (decide (b ≤ a))
  | _, _ => none
def eqD : Dt → Dt → Option Bool
  | .str a, .str b => some (decide (a = b))
  | .int a, .int b => some (decide (a = b))
  | a, b => if SeqAt.shaped a = true ∧ SeqAt.shaped b = true then some (PyData.eqv a b) else none
def neD (a b : Dt) : Option Bool := (eqD a b).map (!·)
def isD : Dt → Dt → Option Bool
  | .none, .none => some true
  | _, .none => some false
  | .bool a, .bool b => some (decide (a = b))
  | _, _ => none
def isNotD (a b : Dt) : Option Bool := (isD a b).map (!·)
/-- t in xs: by ==, one after another -/
def inD (a : Dt) : Dt → Option Bool
  | .list xs => if SeqAt.shaped a = true ∧ xs.all SeqAt.shaped = true then some (xs.any fun x => PyData.eqv x a) else none
  | .tuple xs => if SeqAt.shaped a = true ∧ xs.all SeqAt.shaped = true then some (xs.any fun x => PyData.eqv x a) else none
  | _ => none
def negD : Dt → Option Dt
  | .int a => some (.int (-a))
  | _ => none
def truD : Dt → Option Bool
  | .none => some false
  | .bool b => some b
  | .int i => some (i != 0)
  | .str y => if y.length ≤ sizeLine then some ((y.length : Int) != 0) else none
  | .list xs => some (!xs.isEmpty)
  | .tuple xs => some (!xs.isEmpty)
  | _ => none
def itemD : Dt → Dt → Option Dt
  | .list xs, .int i => atI xs i
  | .tuple xs, .int i => atI xs i
  | .str z, .int i => if z.length ≤ sizeLine then (atI z.cps.toList i).map fun c => .str ⟨#[c]⟩ else none
  | .dict xs, .int i => atI (xs.map (·.1)) i
  | _, _ => none
def cutD (xs : List Dt) (lo hi : Option Int) : List Dt := (xs.drop (HT.sIx xs.length 0 lo)).take (HT.sIx xs.length xs.length hi - HT.sIx xs.length 0 lo)
def sliceD : Dt → Option Int → Option Int → Option Dt
  | .list xs, lo, hi => some (.list (cutD xs lo hi))
  | .tuple xs, lo, hi => some (.tuple (cutD xs lo hi))
  | _, _, _ => none

theorem opt_map' {α β : Type} {o : Option α} {f : α → β} {r : β} (h : o.map f = some r) : ∃ a, o = some a ∧ f a = r := by
  cases o with
  | none => cases h
  | some a => exact ⟨a, rfl, Option.some.inj h⟩
theorem atI_map {α β : Type} {f : α → β} {xs : List α} {i : Int} : atI (xs.map f) i = (atI xs i).map f := by
  unfold atI
  rw [List.length_map]
  cases ixN xs.length i with
  | none => rfl
  | some j => simp
theorem atI_dp {K : PySem.W.Frag} {G : Hp} {vs : List V} {ds : List Dt} {i : Int} {d : Dt} (h : DqAll K G vs ds) (e : atI ds i = some d) : ∃ v, atI vs i = some v ∧ Dq K G v d := by
  unfold atI at e ⊢
  rw [dpAll_len h]
  cases q : ixN ds.length i with
  | none => rw [q] at e; cases e
  | some j =>
    rw [q] at e
    exact dpAll_get h e
theorem cut_dp {K : PySem.W.Frag} {G : Hp} {vs : List V} {ds : List Dt} {lo hi : Option Int} (h : DqAll K G vs ds) : DqAll K G (cutV vs lo hi) (cutD ds lo hi) := by
  unfold cutV cutD
  rw [dpAll_len h]
  exact dpAll_take _ (dpAll_drop _ h)
theorem cut_all {xs : List V} {lo hi : Option Int} (h : HT.sIx xs.length 0 lo = 0 ∧ HT.sIx xs.length xs.length hi = xs.length) : cutV xs lo hi = xs := by
  unfold cutV
  rw [h.1, h.2]; simp
/-! ### the rules by values -/
section
variable {X : Cx}
theorem OpR.imp {f : Value → Value → Sem Value} {r r' : R2} (h : OpR X f r) (k : ∀ x y H Q, Bnd H → r' x y H Q → r x y H Q) : OpR X f r' :=
  fun pins s σ H x y v u Q I rx ry q => h pins s σ H x y v u Q I rx ry (k x y H Q (bnd_of I) q)
theorem rd_bd {H : Hp} {a : Addr} {u : HO} (b : Bnd H) (h : Rd H a u) : HoB u := by
  rcases h with h | ⟨o, h⟩
  · exact b _ _ h
  · exact (show HoB (HO.frz o u) from b _ _ h)
theorem seqT_bd {K : PySem.W.Frag} {H : Hp} {a : Addr} {xs : List V} (b : Bnd H) (h : SqT K H a xs) : xs.length ≤ sizeLine := by
  rcases h with h | ⟨o, its, n, _, _, _, hz, r⟩
  · exact rd_bd b h
  · rw [r.length]; simpa using hz
theorem cat_rd : OpR X (binaryOp .Add) (fun x y H Q => ∃ l b xs zs, x = .ref l ∧ y = .ref b ∧ Rd H l (.lst xs) ∧ Rd H b (.lst zs) ∧ xs.length + zs.length ≤ sizeLine ∧ ∀ p, H p = none → Q (.ref p) (upd H p (.lst (xs ++ zs)))) := by
  intro pins s σ H x y v u Q I rx ry h
  obtain ⟨l, b, xs, zs, rfl, rfl, hH, hB, hz, q⟩ := h
  cases rx
  cases ry
  obtain ⟨z, its, n, r, e⟩ := hH.ok I.hok
  obtain ⟨z2, its2, n2, r2, e2⟩ := hB.ok I.hok
  have l1 := r.length
  have l2 := r2.length
  refine PySem.P.add_list e e2 ?_ (by rw [List.size_toArray, List.size_toArray]; omega)
  have ea : its.toArray ++ its2.toArray = (its ++ its2).toArray := by simp
  rw [ea]
  exact ⟨.ref _, _, I.lnew (t' := s.toks) (r.append r2) (by rw [List.length_append]; omega), rfl, q _ I.fresh⟩
theorem catO : OpR X (binaryOp .Add) (rDO X.K catD) := OpR.imp cat_rd fun x y H Q b h => by
  obtain ⟨G, d, e, r, s, h1, h2, h3, k⟩ := h
  unfold catD at h3
  split at h3
  · rename_i xs ys
    obtain ⟨p, us, rfl, a1, a2⟩ := dp_lst h1
    obtain ⟨q, ws, rfl, b1, b2⟩ := dp_lst h2
    by_cases hl : xs.length + ys.length ≤ sizeLine
    · rw [if_pos hl] at h3; cases h3
      refine ⟨p, q, us, ws, rfl, rfl, rd_mono s a1, rd_mono s b1, by rw [dpAll_len a2, dpAll_len b2]; exact hl, fun t ht => ?_⟩
      exact k G _ t _ (.newH s ht) ht upd_same (s.no ht) (dpAll_app a2 b2)
    · rw [if_neg hl] at h3; cases h3
  · cases h3
theorem addOp : OpR X (binaryOp .Add) (rD X.K addD) := by
  refine OpR.imp (OpR.or op_add (OpR.or op_add_str (OpR.or op_catA cat_rd))) fun x y H Q b h => ?_
  obtain ⟨G, d, e, r, s, h1, h2, h3, k⟩ := h
  unfold addD at h3
  split at h3
  · cases h1; cases h2; cases h3
    exact .inl ⟨_, _, rfl, rfl, k G H _ (.refl s) (.int _)⟩
  · rename_i x y
    cases h1; cases h2
    by_cases hl : x.length + y.length ≤ sizeLine
    · rw [if_pos hl] at h3; cases h3
      exact .inr (.inl ⟨_, _, rfl, rfl, hl, k G H _ (.refl s) (.str _)⟩)
    · rw [if_neg hl] at h3; cases h3
  · rename_i xs ys
    obtain ⟨p, us, rfl, a1, a2⟩ := dp_tup h1
    obtain ⟨q, ws, rfl, b1, b2⟩ := dp_tup h2
    by_cases hl : xs.length + ys.length ≤ sizeLine
    · rw [if_pos hl] at h3; cases h3
      refine .inr (.inr (.inl ⟨p, q, us, ws, rfl, rfl, seqT_mono s a1, seqT_mono s b1, by rw [dpAll_len a2, dpAll_len b2]; exact hl, fun e => ?_, fun e1 e => ?_, fun _ _ t ht => ?_⟩))
      · subst e
        have : xs = [] := by cases a2; rfl
        subst this
        exact k G H _ (.refl s) h2
      · subst e
        have : ys = [] := by cases b2; rfl
        subst this
        exact k G H _ (.refl s) (by rw [List.append_nil]; exact h1)
      · exact k _ _ _ (.new s ht) (.tup (.of upd_same) (dpAll_mono (Sub.upd .refl (s.no ht)) (dpAll_app a2 b2)))
    · rw [if_neg hl] at h3; cases h3
  · rename_i xs ys
    obtain ⟨p, us, rfl, a1, a2⟩ := dp_lst h1
    obtain ⟨q, ws, rfl, b1, b2⟩ := dp_lst h2
    by_cases hl : xs.length + ys.length ≤ sizeLine
    · rw [if_pos hl] at h3; cases h3
      refine .inr (.inr (.inr ⟨p, q, us, ws, rfl, rfl, rd_mono s a1, rd_mono s b1, by rw [dpAll_len a2, dpAll_len b2]; exact hl, fun t ht => ?_⟩))
      exact k _ _ _ (.new s ht) (.lst (.of upd_same) (dpAll_mono (Sub.upd .refl (s.no ht)) (dpAll_app a2 b2)))
    · rw [if_neg hl] at h3; cases h3
  · cases h3
theorem subOp : OpR X (binaryOp .Sub) (rD X.K subD) := OpR.imp op_sub fun x y H Q b h => by
  obtain ⟨G, d, e, r, s, h1, h2, h3, k⟩ := h
  unfold subD at h3
  split at h3
  · cases h1; cases h2; cases h3
    exact ⟨_, _, rfl, rfl, k G H _ (.refl s) (.int _)⟩
  · cases h3
theorem mulOp : OpR X (binaryOp .Mult) (rD X.K mulD) := OpR.imp op_mul fun x y H Q b h => by
  obtain ⟨G, d, e, r, s, h1, h2, h3, k⟩ := h
  unfold mulD at h3
  split at h3
  · rename_i a c
    cases h1; cases h2
    by_cases hl : (-(2 ^ 64) < a ∧ a < 2 ^ 64) ∨ (-(2 ^ 64) < c ∧ c < 2 ^ 64)
    · rw [if_pos hl] at h3; cases h3
      exact ⟨_, _, rfl, rfl, hl, k G H _ (.refl s) (.int _)⟩
    · rw [if_neg hl] at h3; cases h3
  · cases h3
theorem divOp : OpR X (binaryOp .FloorDiv) (rD X.K divD) := OpR.imp op_fdiv fun x y H Q b h => by
  obtain ⟨G, d, e, r, s, h1, h2, h3, k⟩ := h
  unfold divD at h3
  split at h3
  · rename_i a c
    cases h1; cases h2
    by_cases hl : 0 < c ∧ c < 1073741824
    · rw [if_pos hl] at h3; cases h3
      exact ⟨_, _, rfl, rfl, hl, k G H _ (.refl s) (.int _)⟩
    · rw [if_neg hl] at h3; cases h3
  · cases h3
theorem modOp : OpR X (binaryOp .Mod) (rD X.K modD) := OpR.imp op_mod fun x y H Q b h => by
  obtain ⟨G, d, e, r, s, h1, h2, h3, k⟩ := h
  unfold modD at h3
  split at h3
  · rename_i a c
    cases h1; cases h2
    by_cases hl : 0 < c
    · rw [if_pos hl] at h3; cases h3
      exact ⟨_, _, rfl, rfl, hl, k G H _ (.refl s) (.int _)⟩
    · rw [if_neg hl] at h3; cases h3
  · cases h3
theorem powOp : OpR X (binaryOp .Pow) (rD X.K powD) := OpR.imp op_pow fun x y H Q b h => by
  obtain ⟨G, d, e, r, s, h1, h2, h3, k⟩ := h
  unfold powD at h3
  split at h3
  · rename_i a c
    cases h1; cases h2
    by_cases hl : 0 ≤ c ∧ c ≤ 1000000 ∧ a.natAbs < 2 ^ 64
    · rw [if_pos hl] at h3; cases h3
      exact ⟨_, _, rfl, rfl, hl, k G H _ (.refl s) (.int _)⟩
    · rw [if_neg hl] at h3; cases h3
  · cases h3
theorem cmpI {op : CmpOp} {g : Int → Int → Bool} {m : Dt → Dt → Option Bool} (h : OpR X (compareOp op) (rI0 fun i j => .bl (g i j))) (hm : ∀ d e r, m d e = some r → ∃ i j, d = .int i ∧ e = .int j ∧ r = g i j) : OpR X (compareOp op) (rB X.K m) :=
  OpR.imp h fun x y H Q b h => by
    obtain ⟨G, d, e, r, s, h1, h2, h3, k⟩ := h
    obtain ⟨i, j, rfl, rfl, rfl⟩ := hm _ _ _ h3
    cases h1; cases h2
    exact ⟨i, j, rfl, rfl, k⟩
theorem ltOp : OpR X (compareOp .Lt) (rB X.K ltD) := cmpI op_lt fun d e r h => by
  unfold ltD at h; split at h
  · cases h; exact ⟨_, _, rfl, rfl, rfl⟩
  · cases h
theorem leOp : OpR X (compareOp .LtE) (rB X.K leD) := cmpI op_le fun d e r h => by
  unfold leD at h; split at h
  · cases h; exact ⟨_, _, rfl, rfl, rfl⟩
  · cases h
theorem gtOp : OpR X (compareOp .Gt) (rB X.K gtD) := cmpI op_gt fun d e r h => by
  unfold gtD at h; split at h
  · cases h; exact ⟨_, _, rfl, rfl, rfl⟩
  · cases h
theorem geOp : OpR X (compareOp .GtE) (rB X.K geD) := cmpI op_ge fun d e r h => by
  unfold geD at h; split at h
  · cases h; exact ⟨_, _, rfl, rfl, rfl⟩
  · cases h
theorem eqOp (hu : X.A.units + 64 < cLine) : OpR X (compareOp .Eq) (rB X.K eqD) := OpR.imp (OpR.or op_eq (op_eqD hu)) fun x y H Q b h => by
  obtain ⟨G, d, e, r, s, h1, h2, h3, k⟩ := h
  unfold eqD at h3
  split at h3
  · cases h1; cases h2; cases h3
    refine .inl ⟨rfl, ?_⟩
    rw [dec_str, Bool.beq_eq_decide_eq]; exact k
  · cases h1; cases h2; cases h3
    refine .inl ⟨rfl, ?_⟩
    rw [dec_int, Bool.beq_eq_decide_eq]; exact k
  · split at h3
    · rename_i hs
      cases h3
      exact .inr ⟨_, _, dp_of (dp_mono s h1) (SeqAt.canLay_of_shaped hs.1), dp_of (dp_mono s h2) (SeqAt.canLay_of_shaped hs.2), hs.1, hs.2, k⟩
    · cases h3
theorem neOp (hu : X.A.units + 64 < cLine) : OpR X (compareOp .NotEq) (rB X.K neD) := OpR.imp (OpR.or op_ne (op_neD hu)) fun x y H Q b h => by
  obtain ⟨G, d, e, r, s, h1, h2, h30, k⟩ := h
  obtain ⟨z, h3, h4⟩ := opt_map' h30
  subst h4
  unfold eqD at h3
  split at h3
  · cases h1; cases h2; cases h3
    refine .inl ⟨rfl, ?_⟩
    rw [dec_str, Bool.beq_eq_decide_eq]; exact k
  · cases h1; cases h2; cases h3
    refine .inl ⟨rfl, ?_⟩
    rw [dec_int, Bool.beq_eq_decide_eq]; exact k
  · split at h3
    · rename_i hs
      cases h3
      exact .inr ⟨_, _, dp_of (dp_mono s h1) (SeqAt.canLay_of_shaped hs.1), dp_of (dp_mono s h2) (SeqAt.canLay_of_shaped hs.2), hs.1, hs.2, k⟩
    · cases h3
theorem is_dec {K : PySem.W.Frag} {G : Hp} {x : V} {d : Dt} (h : Dq K G x d) : (decide (x = V.non)) = (match d with | .none => true | _ => false) := by
  cases h <;> simp
theorem isOp : OpR X (compareOp .Is) (rB X.K isD) := OpR.imp (OpR.or op_isN op_isBl) fun x y H Q b h => by
  obtain ⟨G, d, e, r, s, h1, h2, h3, k⟩ := h
  unfold isD at h3
  split at h3
  · cases h1; cases h2; cases h3
    exact .inl ⟨rfl, k⟩
  · rename_i hd
    cases h2; cases h3
    refine .inl ⟨rfl, ?_⟩
    rw [is_dec h1]
    cases d with
    | none => exact (hd rfl).elim
    | _ => exact k
  · cases h1; cases h2; cases h3
    exact .inr ⟨_, _, rfl, rfl, k⟩
  · cases h3
theorem isNotOp : OpR X (compareOp .IsNot) (rB X.K isNotD) := OpR.imp (OpR.or op_notN op_notBl) fun x y H Q b h => by
  obtain ⟨G, d, e, r, s, h1, h2, h3, k⟩ := h
  unfold isNotD isD at h3
  split at h3
  · cases h1; cases h2; cases h3
    exact .inl ⟨rfl, k⟩
  · rename_i hd
    cases h2; cases h3
    refine .inl ⟨rfl, ?_⟩
    rw [is_dec h1]
    cases d with
    | none => exact (hd rfl).elim
    | _ => exact k
  · cases h1; cases h2; cases h3
    exact .inr ⟨_, _, rfl, rfl, k⟩
  · cases h3
theorem itemOp : IxR X (rD X.K itemD) := by
  intro value slice pins s σ H x y v u Q I rx ry h hs
  obtain ⟨G, d, e, r, sb, h1, h2, h3, k⟩ := h
  refine ix_seq value slice pins s σ H x y v u Q I rx ry ?_ hs
  unfold itemD at h3
  split at h3
  · obtain ⟨p, us, rfl, a1, a2⟩ := dp_lst h1
    cases h2
    obtain ⟨w, b1, b2⟩ := atI_dp a2 h3
    exact .inl ⟨p, us, _, w, rfl, rfl, .inl (rd_mono sb a1), b1, k G H w (.refl sb) b2⟩
  · obtain ⟨p, us, rfl, a1, a2⟩ := dp_tup h1
    cases h2
    obtain ⟨w, b1, b2⟩ := atI_dp a2 h3
    exact .inr (.inl ⟨p, us, _, w, rfl, rfl, seqT_mono sb a1, b1, k G H w (.refl sb) b2⟩)
  · rename_i z i
    cases h1; cases h2
    by_cases hz : z.length ≤ sizeLine
    · rw [if_pos hz] at h3
      cases q : atI z.cps.toList i with
      | none => rw [q] at h3; cases h3
      | some c =>
        rw [q] at h3; cases h3
        exact .inr (.inr ⟨z, i, c, rfl, rfl, hz, q, k G H _ (.refl sb) (.str _)⟩)
    · rw [if_neg hz] at h3; cases h3
  · cases h2
    cases h1 with
    | scr ns hs =>
      rw [List.map_map] at h3
      have h3 : atI (ns.map PyData.int) _ = some r := h3
      rw [atI_map] at h3
      obtain ⟨n, e1, e2⟩ := opt_map' h3
      subst e2
      exact .inl ⟨_, _, _, .int n, rfl, rfl, seqL_mono sb hs, by rw [atI_map, e1]; rfl, k G H _ (.refl sb) (.int n)⟩
  · cases h3
end
end G

set_option maxRecDepth 100000
set_option maxHeartbeats 4000000
namespace G
open PySem PySem.Spec PyProof.Rows L2
def binE (m : Dt → Dt → Option Dt) (f g : Ex) : Ex := fun ρ => (f ρ).bind fun p => (g p.2).bind fun q => (m p.1 q.1).map fun d => (d, q.2)
def binO (m : Dt → Dt → Option (List Dt)) (f g : Ex) : Exs := fun ρ => (f ρ).bind fun p => (g p.2).bind fun q => (m p.1 q.1).map fun d => (d, q.2)
def cmpT (m : Dt → Dt → Option Bool) (f g : Ex) : Te := fun ρ => (f ρ).bind fun p => (g p.2).bind fun q => (m p.1 q.1).map fun d => (d, q.2)
def boolE (f : Te) : Ex := fun ρ => (f ρ).map fun p => (.bool p.1, p.2)
def cmp2T (m m' : Dt → Dt → Option Bool) (f g h : Ex) : Te := fun ρ => (f ρ).bind fun p => (g p.2).bind fun q => (m p.1 q.1).bind fun d =>
  if d = true then (h q.2).bind fun r => (m' q.1 r.1).map fun d => (d, r.2) else some (false, q.2)
def cmp3T (m m' m'' : Dt → Dt → Option Bool) (f g h l : Ex) : Te := fun ρ => (f ρ).bind fun p => (g p.2).bind fun q => (m p.1 q.1).bind fun d =>
  if d = true then (h q.2).bind fun r => (m' q.1 r.1).bind fun d => if d = true then (l r.2).bind fun u => (m'' r.1 u.1).map fun d => (d, u.2) else some (false, r.2) else some (false, q.2)
def unE (m : Dt → Option Dt) (f : Ex) : Ex := fun ρ => (f ρ).bind fun p => (m p.1).map fun d => (d, p.2)
def truT (f : Ex) : Te := fun ρ => (f ρ).bind fun p => (truD p.1).map fun d => (d, p.2)
def notT (f : Te) : Te := fun ρ => (f ρ).map fun p => (!p.1, p.2)
def andT (f g : Te) : Te := fun ρ => (f ρ).bind fun p => if p.1 = true then g p.2 else some (false, p.2)
def orT (f g : Te) : Te := fun ρ => (f ρ).bind fun p => if p.1 = true then some (true, p.2) else g p.2
def ifE (c : Te) (f g : Ex) : Ex := fun ρ => (c ρ).bind fun p => if p.1 = true then f p.2 else g p.2
def ifO (c : Te) (f g : Exs) : Exs := fun ρ => (c ρ).bind fun p => if p.1 = true then f p.2 else g p.2
def nilA : Exs := fun ρ => some ([], ρ)
def consA (f : Ex) (g : Exs) : Exs := fun ρ => (f ρ).bind fun p => (g p.2).map fun q => (p.1 :: q.1, q.2)
def tupE (f : Exs) : Ex := fun ρ => (f ρ).bind fun p => if p.1.length ≤ sizeLine then some (.tuple p.1, p.2) else none
def lstO (f : Exs) : Exs := fun ρ => (f ρ).bind fun p => if p.1.length ≤ sizeLine then some (p.1, p.2) else none
def lstE (f : Exs) : Ex := fun ρ => (f ρ).map fun p => (.list p.1, p.2)
def bltE (m : List Dt → Option Dt) (f : Exs) : Ex := fun ρ => (f ρ).bind fun p => (m p.1).map fun d => (d, p.2)
def bltO (m : List Dt → Option (List Dt)) (f : Exs) : Exs := fun ρ => (f ρ).bind fun p => (m p.1).map fun d => (d, p.2)
section
variable {X : Cx} {pos : Pos} {a b c e : Expr} {es : List Expr} {f g : Ex}
/-- from one reading to two -/
theorem opt_bind {α β : Type} {o : Option α} {f : α → Option β} {r : β} (h : o.bind f = some r) : ∃ a, o = some a ∧ f a = some r := by
  cases o with
  | none => cases h
  | some a => exact ⟨a, rfl, h⟩
theorem opt_map {α β : Type} {o : Option α} {f : α → β} {r : β} (h : o.map f = some r) : ∃ a, o = some a ∧ f a = r := by
  cases o with
  | none => cases h
  | some a => exact ⟨a, rfl, Option.some.inj h⟩
theorem pd_bin {op : Operator} {m : Dt → Dt → Option Dt} (ho : OpR X (binaryOp op) (rD X.K m)) (ha : PEd X a f) (hb : PEd X b g) : PEd X (.BinOp a op b pos) (binE m f g) := PE.to (pe_op ho ha hb) fun σ H Q _ q => by
  obtain ⟨B, G, R, ρ, d, ρ', o, e, k⟩ := q
  obtain ⟨p, e1, e⟩ := opt_bind e
  obtain ⟨q, e2, e⟩ := opt_bind e
  obtain ⟨r, e3, e⟩ := opt_map e
  cases e
  exact ⟨B, G, R, ρ, p.1, p.2, o, e1, fun G1 H1 R1 v s1 o1 d1 => ⟨B, G1, R1, p.2, q.1, q.2, o1, e2, fun G2 H2 R2 w s2 o2 d2 =>
    ⟨G2, _, _, _, o2.sub, dp_mono s2.g d1, d2, e3, fun G3 H3 u x3 d3 _ => k G3 H3 R2 u ((s1.trans s2).trans (o2.stp x3)) (o2.ext x3) d3⟩⟩⟩
theorem po_bin {op : Operator} {m : Dt → Dt → Option (List Dt)} (ho : OpR X (binaryOp op) (rDO X.K m)) (ha : PEd X a f) (hb : PEd X b g) : PEo X (.BinOp a op b pos) (binO m f g) := PE.to (pe_op ho ha hb) fun σ H Q _ q => by
  obtain ⟨B, G, R, ρ, d, ρ', o, e, k⟩ := q
  obtain ⟨p, e1, e⟩ := opt_bind e
  obtain ⟨q, e2, e⟩ := opt_bind e
  obtain ⟨r, e3, e⟩ := opt_map e
  cases e
  exact ⟨B, G, R, ρ, p.1, p.2, o, e1, fun G1 H1 R1 v s1 o1 d1 => ⟨B, G1, R1, p.2, q.1, q.2, o1, e2, fun G2 H2 R2 w s2 o2 d2 =>
    ⟨G2, _, _, _, o2.sub, dp_mono s2.g d1, d2, e3, fun G3 H3 t zs x3 n3 l3 g3 d3 _ => k G3 H3 R2 t ((s1.trans s2).trans (o2.stp x3)) (o2.ext x3) (fresh_of o2 n3 l3 g3 d3)⟩⟩⟩
theorem pd_cmp {op : CmpOp} {m : Dt → Dt → Option Bool} (ho : OpR X (compareOp op) (rB X.K m)) (ha : PEd X a f) (hb : PEd X b g) (hm : behindInMarks op b = false) : PEd X (.Compare a [op] [b] pos) (boolE (cmpT m f g)) := PE.to (pe_cmpR ho ha hb hm) fun σ H Q _ q => by
  obtain ⟨B, G, R, ρ, d, ρ', o, e, k⟩ := q
  obtain ⟨z, e, ez⟩ := opt_map e
  obtain ⟨p, e1, e⟩ := opt_bind e
  obtain ⟨q, e2, e⟩ := opt_bind e
  obtain ⟨r, e3, e⟩ := opt_map e
  cases e; cases ez
  exact ⟨B, G, R, ρ, p.1, p.2, o, e1, fun G1 H1 R1 v s1 o1 d1 => ⟨B, G1, R1, p.2, q.1, q.2, o1, e2, fun G2 H2 R2 w s2 o2 d2 =>
    ⟨G2, _, _, _, o2.sub, dp_mono s2.g d1, d2, e3, fun _ => k G2 H2 R2 _ (s1.trans s2) o2 (.bl _)⟩⟩⟩
theorem pt_cmp {op : CmpOp} {m : Dt → Dt → Option Bool} (ho : OpR X (compareOp op) (rB X.K m)) (ha : PEd X a f) (hb : PEd X b g) (hm : behindInMarks op b = false) : PTd X (.Compare a [op] [b] pos) (cmpT m f g) := PT.to (pt_cmpR ho ha hb hm) fun σ H Q _ q => by
  obtain ⟨B, G, R, ρ, d, ρ', o, e, k⟩ := q
  obtain ⟨p, e1, e⟩ := opt_bind e
  obtain ⟨q, e2, e⟩ := opt_bind e
  obtain ⟨r, e3, e⟩ := opt_map e
  cases e
  exact ⟨B, G, R, ρ, p.1, p.2, o, e1, fun G1 H1 R1 v s1 o1 d1 => ⟨B, G1, R1, p.2, q.1, q.2, o1, e2, fun G2 H2 R2 w s2 o2 d2 =>
    ⟨G2, _, _, _, o2.sub, dp_mono s2.g d1, d2, e3, ⟨_, rfl, fun _ => k G2 H2 R2 (s1.trans s2) o2⟩⟩⟩⟩
theorem pd_cmp2 {op op' : CmpOp} {m m' : Dt → Dt → Option Bool} {h : Ex} (ho : OpR X (compareOp op) (rB X.K m)) (ho' : OpR X (compareOp op') (rB X.K m')) (ha : PEd X a f) (hb : PEd X b g) (hc : PEd X c h) (hm : lastMarks [op, op'] [b, c] = false := by with_unfolding_all rfl) :
    PEd X (.Compare a [op, op'] [b, c] pos) (boolE (cmp2T m m' f g h)) := PE.to (pe_chain ho ho' ha hb hc hm) fun σ H Q _ q => by
  obtain ⟨B, G, R, ρ, d, ρ', o, e, k⟩ := q
  obtain ⟨z, e, ez⟩ := opt_map e
  obtain ⟨p, e1, e⟩ := opt_bind e
  obtain ⟨q, e2, e⟩ := opt_bind e
  obtain ⟨r, e3, e⟩ := opt_bind e
  refine ⟨B, G, R, ρ, p.1, p.2, o, e1, fun G1 H1 R1 v s1 o1 d1 => ⟨B, G1, R1, p.2, q.1, q.2, o1, e2, fun G2 H2 R2 w s2 o2 d2 =>
    ⟨G2, _, _, _, o2.sub, dp_mono s2.g d1, d2, e3, ⟨_, rfl, ?_⟩⟩⟩⟩
  cases r with
  | false =>
    rw [if_neg Bool.false_ne_true] at e ⊢
    cases e; cases ez
    exact fun _ => k G2 H2 R2 _ (s1.trans s2) o2 (.bl _)
  | true =>
    rw [if_pos rfl] at e ⊢
    obtain ⟨u, e4, e⟩ := opt_bind e
    obtain ⟨y, e5, e⟩ := opt_map e
    cases e; cases ez
    exact ⟨B, G2, R2, q.2, u.1, u.2, o2, e4, fun G3 H3 R3 w3 s3 o3 d3 => ⟨G3, _, _, _, o3.sub, dp_mono s3.g d2, d3, e5, fun _ => k G3 H3 R3 _ ((s1.trans s2).trans s3) o3 (.bl _)⟩⟩
theorem pt_cmp2 {op op' : CmpOp} {m m' : Dt → Dt → Option Bool} {h : Ex} (ho : OpR X (compareOp op) (rB X.K m)) (ho' : OpR X (compareOp op') (rB X.K m')) (ha : PEd X a f) (hb : PEd X b g) (hc : PEd X c h) (hm : lastMarks [op, op'] [b, c] = false := by with_unfolding_all rfl) :
    PTd X (.Compare a [op, op'] [b, c] pos) (cmp2T m m' f g h) := PT.to (pt_chain ho ho' ha hb hc hm) fun σ H Q _ q => by
  obtain ⟨B, G, R, ρ, d, ρ', o, e, k⟩ := q
  obtain ⟨p, e1, e⟩ := opt_bind e
  obtain ⟨q, e2, e⟩ := opt_bind e
  obtain ⟨r, e3, e⟩ := opt_bind e
  refine ⟨B, G, R, ρ, p.1, p.2, o, e1, fun G1 H1 R1 v s1 o1 d1 => ⟨B, G1, R1, p.2, q.1, q.2, o1, e2, fun G2 H2 R2 w s2 o2 d2 =>
    ⟨G2, _, _, _, o2.sub, dp_mono s2.g d1, d2, e3, ⟨_, rfl, ?_⟩⟩⟩⟩
  cases r with
  | false =>
    rw [if_neg Bool.false_ne_true] at e ⊢
    cases e
    exact ⟨_, rfl, fun _ => k G2 H2 R2 (s1.trans s2) o2⟩
  | true =>
    rw [if_pos rfl] at e ⊢
    obtain ⟨u, e4, e⟩ := opt_bind e
    obtain ⟨y, e5, e⟩ := opt_map e
    cases e
    exact ⟨B, G2, R2, q.2, u.1, u.2, o2, e4, fun G3 H3 R3 w3 s3 o3 d3 => ⟨G3, _, _, _, o3.sub, dp_mono s3.g d2, d3, e5, ⟨_, rfl, fun _ => k G3 H3 R3 ((s1.trans s2).trans s3) o3⟩⟩⟩
/-- a op b op' c op'' d: the reading -/
def tChain3 (r r' r'' : R2) (ta tb tc td : TE) : TE := fun σ H Q => ta σ H fun x H1 => tb σ H1 fun y H2 => r x y H2 fun z H3 => ∃ k, z = .bl k ∧
  (if k = true then tc σ H3 fun w' H4 => r' y w' H4 fun z2 H5 => ∃ k2, z2 = .bl k2 ∧ (if k2 = true then td σ H5 fun w2 H6 => r'' w' w2 H6 Q else Q (.bl false) H5) else Q (.bl false) H3)
theorem pe_chain3 {op op' op'' : CmpOp} {r r' r'' : R2} {ta tb tc td : TE} {d : Expr} (ho : OpR X (compareOp op) r) (ho' : OpR X (compareOp op') r') (ho'' : OpR X (compareOp op'') r'') (ha : PE X a ta) (hb : PE X b tb) (hc : PE X c tc) (hd : PE X d td)
    (hm : lastMarks [op, op', op''] [b, c, d] = false := by with_unfolding_all rfl) : PE X (.Compare a [op, op', op''] [b, c, d] pos) (tChain3 r r' r'' ta tb tc td) := by
  refine ⟨fun pins s σ H Q I h => ?_⟩
  refine Compare_chain (thn (ha.run pins s σ H _ I h) fun v s1 ⟨x, H1, I1, r1, q1⟩ => chain_link (thn (hb.run pins s1 σ H1 _ I1 q1) fun u s2 ⟨y, H2, I2, r2, q2⟩ =>
    thn (ho pins s2 σ H2 x y v u _ I2 r1 r2 q2) fun d s3 ⟨z, H3, I3, r3, k, e, q3⟩ => ?_)) hm
  subst e
  cases r3
  refine wpAny_truthy_bool ?_
  cases k with
  | false => exact ite_ff ⟨.bl false, H3, I3, rfl, q3⟩
  | true =>
    refine ite_tt (chain_link (thn (hc.run pins s3 σ H3 _ I3 q3) fun w' s4 ⟨z', H4, I4, r4, q4⟩ => thn (ho' pins s4 σ H4 y z' u w' _ I4 r2 r4 q4) fun d s5 ⟨z2, H5, I5, r5, k2, e2, q5⟩ => ?_))
    subst e2
    cases r5
    refine wpAny_truthy_bool ?_
    cases k2 with
    | false => exact ite_ff ⟨.bl false, H5, I5, rfl, q5⟩
    | true => exact ite_tt (chain_last (thn (hd.run pins s5 σ H5 _ I5 q5) fun w2 s6 ⟨z3, H6, I6, r6, q6⟩ => ho'' pins s6 σ H6 z' z3 w' w2 Q I6 r4 r6 q6))
theorem pt_chain3 {op op' op'' : CmpOp} {r r' r'' : R2} {ta tb tc td : TE} {d : Expr} (ho : OpR X (compareOp op) r) (ho' : OpR X (compareOp op') r') (ho'' : OpR X (compareOp op'') r'') (ha : PE X a ta) (hb : PE X b tb) (hc : PE X c tc) (hd : PE X d td)
    (hm : lastMarks [op, op', op''] [b, c, d] = false := by with_unfolding_all rfl) : PT X (.Compare a [op, op', op''] [b, c, d] pos) (tTest (tChain3 r r' r'' ta tb tc td)) := by
  refine ⟨fun pins s σ H Q I h => ?_⟩
  refine isTrue_chain (thn (ha.run pins s σ H _ I h) fun v s1 ⟨x, H1, I1, r1, q1⟩ => test_link (thn (hb.run pins s1 σ H1 _ I1 q1) fun u s2 ⟨y, H2, I2, r2, q2⟩ =>
    thn (ho pins s2 σ H2 x y v u _ I2 r1 r2 q2) fun d s3 ⟨z, H3, I3, r3, k, e, q3⟩ => ?_)) hm
  subst e
  cases r3
  refine wpAny_truthy_bool ?_
  cases k with
  | false =>
    obtain ⟨k', e', q'⟩ := q3
    cases e'
    exact ite_ff ⟨H3, I3, q'⟩
  | true =>
    refine ite_tt (test_link (thn (hc.run pins s3 σ H3 _ I3 q3) fun w' s4 ⟨z', H4, I4, r4, q4⟩ => thn (ho' pins s4 σ H4 y z' u w' _ I4 r2 r4 q4) fun d s5 ⟨z2, H5, I5, r5, k2, e2, q5⟩ => ?_))
    subst e2
    cases r5
    refine wpAny_truthy_bool ?_
    cases k2 with
    | false =>
      obtain ⟨k', e', q'⟩ := q5
      cases e'
      exact ite_ff ⟨H5, I5, q'⟩
    | true =>
      refine ite_tt (test_last (thn (hd.run pins s5 σ H5 _ I5 q5) fun w2 s6 ⟨z3, H6, I6, r6, q6⟩ => thn (ho'' pins s6 σ H6 z' z3 w' w2 _ I6 r4 r6 q6) fun d' s7 ⟨z4, H7, I7, r7, k3, e3, q7⟩ => ?_))
      subst e3
      cases r7
      exact wpAny_truthy_bool ⟨H7, I7, q7⟩
theorem chain3_of {K : PySem.W.Frag} {m m' m'' : Dt → Dt → Option Bool} {f g h l : Ex} {σ : Sto} {H : Hp} {Q : VK} (q : tT K (cmp3T m m' m'' f g h l) σ H fun b H' => Q (.bl b) H') :
    tChain3 (rB K m) (rB K m') (rB K m'') (tD K f) (tD K g) (tD K h) (tD K l) σ H Q := by
  obtain ⟨B, G, R, ρ, d, ρ', o, e, k⟩ := q
  obtain ⟨p, e1, e⟩ := opt_bind e
  obtain ⟨q, e2, e⟩ := opt_bind e
  obtain ⟨r, e3, e⟩ := opt_bind e
  refine ⟨B, G, R, ρ, p.1, p.2, o, e1, fun G1 H1 R1 v s1 o1 d1 => ⟨B, G1, R1, p.2, q.1, q.2, o1, e2, fun G2 H2 R2 w s2 o2 d2 =>
    ⟨G2, _, _, _, o2.sub, dp_mono s2.g d1, d2, e3, ⟨_, rfl, ?_⟩⟩⟩⟩
  cases r with
  | false =>
    rw [if_neg Bool.false_ne_true] at e ⊢
    cases e
    exact k G2 H2 R2 (s1.trans s2) o2
  | true =>
    rw [if_pos rfl] at e ⊢
    obtain ⟨u, e4, e⟩ := opt_bind e
    obtain ⟨y, e5, e⟩ := opt_bind e
    refine ⟨B, G2, R2, q.2, u.1, u.2, o2, e4, fun G3 H3 R3 w3 s3 o3 d3 => ⟨G3, _, _, _, o3.sub, dp_mono s3.g d2, d3, e5, ⟨_, rfl, ?_⟩⟩⟩
    cases y with
    | false =>
      rw [if_neg Bool.false_ne_true] at e ⊢
      cases e
      exact k G3 H3 R3 ((s1.trans s2).trans s3) o3
    | true =>
      rw [if_pos rfl] at e ⊢
      obtain ⟨u4, e6, e⟩ := opt_bind e
      obtain ⟨y4, e7, e⟩ := opt_map e
      cases e
      exact ⟨B, G3, R3, u.2, u4.1, u4.2, o3, e6, fun G4 H4 R4 w4 s4 o4 d4 => ⟨G4, _, _, _, o4.sub, dp_mono s4.g d3, d4, e7, k G4 H4 R4 (((s1.trans s2).trans s3).trans s4) o4⟩⟩
theorem tT_of_bool {K : PySem.W.Frag} {f : Te} {σ : Sto} {H : Hp} {Q : VK} (q : tD K (boolE f) σ H Q) : tT K f σ H fun b H' => Q (.bl b) H' := by
  obtain ⟨B, G, R, ρ, d, ρ', o, e0, k⟩ := q
  obtain ⟨z, e, ez⟩ := opt_map e0
  cases ez
  exact ⟨B, G, R, ρ, z.1, z.2, o, e, fun G' H' R' s' o' => k G' H' R' _ s' o' (.bl _)⟩
theorem tT_mono {K : PySem.W.Frag} {f : Te} {σ : Sto} {H : Hp} {Q Q' : Bool → Hp → Prop} (q : tT K f σ H Q) (h : ∀ b H', Q b H' → Q' b H') : tT K f σ H Q' := by
  obtain ⟨B, G, R, ρ, d, ρ', o, e, k⟩ := q
  exact ⟨B, G, R, ρ, d, ρ', o, e, fun G' H' R' s' o' => h _ _ (k G' H' R' s' o')⟩
theorem tD_mono {K : PySem.W.Frag} {f : Ex} {σ : Sto} {H : Hp} {Q Q' : VK} (q : tD K f σ H Q) (h : ∀ b H', Q b H' → Q' b H') : tD K f σ H Q' := by
  obtain ⟨B, G, R, ρ, d, ρ', o, e, k⟩ := q
  exact ⟨B, G, R, ρ, d, ρ', o, e, fun G' H' R' v s' o' dp => h _ _ (k G' H' R' v s' o' dp)⟩
theorem pd_cmp3 {op op' op'' : CmpOp} {m m' m'' : Dt → Dt → Option Bool} {h l : Ex} {d : Expr} (ho : OpR X (compareOp op) (rB X.K m)) (ho' : OpR X (compareOp op') (rB X.K m')) (ho'' : OpR X (compareOp op'') (rB X.K m'')) (ha : PEd X a f) (hb : PEd X b g) (hc : PEd X c h) (hd : PEd X d l)
    (hm : lastMarks [op, op', op''] [b, c, d] = false := by with_unfolding_all rfl) : PEd X (.Compare a [op, op', op''] [b, c, d] pos) (boolE (cmp3T m m' m'' f g h l)) :=
  PE.to (pe_chain3 ho ho' ho'' ha hb hc hd hm) fun σ H Q _ q => chain3_of (tT_mono (tT_of_bool q) fun _ _ z _ => z)
theorem pt_cmp3 {op op' op'' : CmpOp} {m m' m'' : Dt → Dt → Option Bool} {h l : Ex} {d : Expr} (ho : OpR X (compareOp op) (rB X.K m)) (ho' : OpR X (compareOp op') (rB X.K m')) (ho'' : OpR X (compareOp op'') (rB X.K m'')) (ha : PEd X a f) (hb : PEd X b g) (hc : PEd X c h) (hd : PEd X d l)
    (hm : lastMarks [op, op', op''] [b, c, d] = false := by with_unfolding_all rfl) : PTd X (.Compare a [op, op', op''] [b, c, d] pos) (cmp3T m m' m'' f g h l) :=
  PT.to (pt_chain3 ho ho' ho'' ha hb hc hd hm) fun σ H Q _ q => chain3_of (tT_mono q fun _ _ z => ⟨_, rfl, fun _ => z⟩)
/-! ### tests -/
theorem pt_not {f : Te} (h : PTd X a f) : PTd X (.UnaryOp .Not a pos) (notT f) := PT.to (L2.pt_not h) fun σ H Q _ q => by
  obtain ⟨B, G, R, ρ, d, ρ', o, e0, k⟩ := q
  obtain ⟨z, e, ez⟩ := opt_map e0
  cases ez
  exact ⟨B, G, R, ρ, z.1, z.2, o, e, fun G' H' R' s' o' _ => k G' H' R' s' o'⟩
theorem tru_of {K : PySem.W.Frag} {G H : Hp} {x : V} {d : Dt} {b : Bool} (s : Sub G H) (h : Dq K G x d) (e : truD d = some b) : TruV K x H b := by
  unfold truD at e
  split at e
  · cases h; cases e; rfl
  · cases h; cases e; rfl
  · cases h; cases e; rfl
  · rename_i y
    cases h
    by_cases hl : y.length ≤ sizeLine
    · rw [if_pos hl] at e; cases e; exact ⟨hl, rfl⟩
    · rw [if_neg hl] at e; cases e
  · obtain ⟨p, us, rfl, a1, a2⟩ := dp_lst h
    cases e
    refine .inl ⟨us, .inl (rd_mono s a1), ?_⟩
    cases a2 <;> rfl
  · obtain ⟨p, us, rfl, a1, a2⟩ := dp_tup h
    cases e
    refine .inr (.inl ⟨us, seqT_mono s a1, ?_⟩)
    cases a2 <;> rfl
  · cases e
theorem pt_tru {f : Ex} (h : PEd X a f) (he : ∀ whole, isTrue a X.env whole = (do let v ← whole; standAt a.pos; holding [v] (truthy v)) := by intro _; rfl) : PTd X a (truT f) := PT.to (pt_truth h he) fun σ H Q _ q => by
  obtain ⟨B, G, R, ρ, d, ρ', o, e0, k⟩ := q
  obtain ⟨p, e1, e⟩ := opt_bind e0
  obtain ⟨t, e2, e⟩ := opt_map e
  cases e
  exact ⟨B, G, R, ρ, p.1, p.2, o, e1, fun G' H' R' v s' o' dp => ⟨_, tru_of o'.sub dp e2, fun _ => k G' H' R' s' o'⟩⟩
def andV (f g : Ex) : Ex := fun ρ => (f ρ).bind fun p => (truD p.1).bind fun b => if b = true then g p.2 else some p
def orV (f g : Ex) : Ex := fun ρ => (f ρ).bind fun p => (truD p.1).bind fun b => if b = true then some p else g p.2
theorem pd_not {f : Ex} (h : PEd X a f) : PEd X (.UnaryOp .Not a pos) (boolE (notT (truT f))) := PE.to (pe_notT h) fun σ H Q _ q => by
  obtain ⟨B, G, R, ρ, d, ρ', o, e0, k⟩ := q
  obtain ⟨z, e, ez⟩ := opt_map e0
  obtain ⟨y, e, ey⟩ := opt_map e
  obtain ⟨p, e1, e⟩ := opt_bind e
  obtain ⟨t, e2, e⟩ := opt_map e
  cases e; cases ey; cases ez
  exact ⟨B, G, R, ρ, p.1, p.2, o, e1, fun G' H' R' v s' o' dp => ⟨_, tru_of o'.sub dp e2, fun _ => k G' H' R' _ s' o' (.bl _)⟩⟩
theorem pd_one {op} (h : PEd X a f) : PEd X (.BoolOp op [a] pos) f := PE.to (pe_one h) fun σ H Q _ q => tD_mono q fun _ _ z _ => z
theorem pd_and {rest : List Expr} (ha : PEd X a f) (hb : PEd X (.BoolOp .And (b :: rest) pos) g) : PEd X (.BoolOp .And (a :: b :: rest) pos) (andV f g) := PE.to (pe_andT ha hb) fun σ H Q _ q => by
  obtain ⟨B, G, R, ρ, d, ρ', o, e0, k⟩ := q
  obtain ⟨p, e1, e⟩ := opt_bind e0
  obtain ⟨t, e2, e⟩ := opt_bind e
  refine ⟨B, G, R, ρ, p.1, p.2, o, e1, fun G' H' R' v s' o' dp => ⟨_, tru_of o'.sub dp e2, ?_⟩⟩
  cases t with
  | true => exact ⟨B, G', R', p.2, d, ρ', o', e, fun G2 H2 R2 w s2 o2 d2 _ => k G2 H2 R2 w (s'.trans s2) o2 d2⟩
  | false => cases e; exact fun _ => k G' H' R' v s' o' dp
theorem pd_or {rest : List Expr} (ha : PEd X a f) (hb : PEd X (.BoolOp .Or (b :: rest) pos) g) : PEd X (.BoolOp .Or (a :: b :: rest) pos) (orV f g) := PE.to (pe_orT ha hb) fun σ H Q _ q => by
  obtain ⟨B, G, R, ρ, d, ρ', o, e0, k⟩ := q
  obtain ⟨p, e1, e⟩ := opt_bind e0
  obtain ⟨t, e2, e⟩ := opt_bind e
  refine ⟨B, G, R, ρ, p.1, p.2, o, e1, fun G' H' R' v s' o' dp => ⟨_, tru_of o'.sub dp e2, ?_⟩⟩
  cases t with
  | false => exact ⟨B, G', R', p.2, d, ρ', o', e, fun G2 H2 R2 w s2 o2 d2 _ => k G2 H2 R2 w (s'.trans s2) o2 d2⟩
  | true => cases e; exact fun _ => k G' H' R' v s' o' dp
theorem pw_and1 {f : Te} (ha : PTd X a f) : PWd X (.BoolOp .And [a] pos) f := PW.to (L2.pw_and1 ha) fun σ H Q _ q => tT_mono q fun _ _ z _ => z
theorem pw_or1 {f : Te} (ha : PTd X a f) : PWd X (.BoolOp .Or [a] pos) f := PW.to (L2.pw_or1 ha) fun σ H Q _ q => tT_mono q fun _ _ z _ => z
theorem pw_and {f g : Te} {rest : List Expr} (ha : PTd X a f) (hb : PWd X (.BoolOp .And (b :: rest) pos) g) : PWd X (.BoolOp .And (a :: b :: rest) pos) (andT f g) := PW.to (L2.pw_and ha hb) fun σ H Q _ q => by
  obtain ⟨B, G, R, ρ, d, ρ', o, e0, k⟩ := q
  obtain ⟨p, e1, e⟩ := opt_bind e0
  refine ⟨B, G, R, ρ, p.1, p.2, o, e1, fun G' H' R' s' o' => ?_⟩
  obtain ⟨p1, p2⟩ := p
  cases p1 with
  | true => exact ⟨B, G', R', p2, d, ρ', o', e, fun G2 H2 R2 s2 o2 _ => k G2 H2 R2 (s'.trans s2) o2⟩
  | false => cases e; exact fun _ => k G' H' R' s' o'
theorem pw_or {f g : Te} {rest : List Expr} (ha : PTd X a f) (hb : PWd X (.BoolOp .Or (b :: rest) pos) g) : PWd X (.BoolOp .Or (a :: b :: rest) pos) (orT f g) := PW.to (L2.pw_or ha hb) fun σ H Q _ q => by
  obtain ⟨B, G, R, ρ, d, ρ', o, e0, k⟩ := q
  obtain ⟨p, e1, e⟩ := opt_bind e0
  refine ⟨B, G, R, ρ, p.1, p.2, o, e1, fun G' H' R' s' o' => ?_⟩
  obtain ⟨p1, p2⟩ := p
  cases p1 with
  | false => exact ⟨B, G', R', p2, d, ρ', o', e, fun G2 H2 R2 s2 o2 _ => k G2 H2 R2 (s'.trans s2) o2⟩
  | true => cases e; exact fun _ => k G' H' R' s' o'
theorem pt_w {f : Te} (h : PWd X a f) : PTd X a f := PW.pt h
theorem pd_if {t : Te} (hc : PTd X c t) (ha : PEd X a f) (hb : PEd X b g) : PEd X (.IfExp c a b pos) (ifE t f g) := PE.to (pe_ifExp hc ha hb) fun σ H Q _ q => by
  obtain ⟨B, G, R, ρ, d, ρ', o, e0, k⟩ := q
  obtain ⟨p, e1, e⟩ := opt_bind e0
  refine ⟨B, G, R, ρ, p.1, p.2, o, e1, fun G' H' R' s' o' => ?_⟩
  obtain ⟨p1, p2⟩ := p
  cases p1 with
  | true => exact ⟨B, G', R', p2, d, ρ', o', e, fun G2 H2 R2 w s2 o2 d2 _ => k G2 H2 R2 w (s'.trans s2) o2 d2⟩
  | false => exact ⟨B, G', R', p2, d, ρ', o', e, fun G2 H2 R2 w s2 o2 d2 _ => k G2 H2 R2 w (s'.trans s2) o2 d2⟩
theorem po_if {t : Te} {f g : Exs} (hc : PTd X c t) (ha : PEo X a f) (hb : PEo X b g) : PEo X (.IfExp c a b pos) (ifO t f g) := PE.to (pe_ifExp hc ha hb) fun σ H Q _ q => by
  obtain ⟨B, G, R, ρ, d, ρ', o, e0, k⟩ := q
  obtain ⟨p, e1, e⟩ := opt_bind e0
  refine ⟨B, G, R, ρ, p.1, p.2, o, e1, fun G' H' R' s' o' => ?_⟩
  obtain ⟨p1, p2⟩ := p
  cases p1 with
  | true => exact ⟨B, G', R', p2, d, ρ', o', e, fun G2 H2 R2 w s2 o2 d2 _ => k G2 H2 R2 w (s'.trans s2) o2 d2⟩
  | false => exact ⟨B, G', R', p2, d, ρ', o', e, fun G2 H2 R2 w s2 o2 d2 _ => k G2 H2 R2 w (s'.trans s2) o2 d2⟩
theorem pd_neg (ha : PEd X a f) : PEd X (.UnaryOp .USub a pos) (unE negD f) := PE.to (pe_un un_neg ha) fun σ H Q _ q => by
  obtain ⟨B, G, R, ρ, d, ρ', o, e0, k⟩ := q
  obtain ⟨p, e1, e⟩ := opt_bind e0
  obtain ⟨t, e2, e⟩ := opt_map e
  cases e
  refine ⟨B, G, R, ρ, p.1, p.2, o, e1, fun G' H' R' v s' o' dp => ?_⟩
  unfold negD at e2
  split at e2
  · rename_i i hp
    rw [hp] at dp
    cases dp; cases e2
    exact ⟨_, rfl, fun _ => k G' H' R' _ s' o' (.int _)⟩
  · cases e2
/-! ### a new list becomes data -/
theorem fresh_freeze {K : PySem.W.Frag} {B : Bx} {G H : Hp} {R : Nat → List Addr} {ρ : Rho} {σ : Sto} {p : Addr} {ds : List Dt} (o : Ok K B G H R ρ σ) (h : Fresh K B G H R p ds) :
    ∃ xs, Stp B G (upd G p (.lst xs)) ∧ Ok K B (upd G p (.lst xs)) H R ρ σ ∧ Dq K (upd G p (.lst xs)) (.ref p) (.list ds) := by
  obtain ⟨xs, h1, h2⟩ := h.at_
  have sg : Sub G (upd G p (.lst xs)) := Sub.upd .refl h.g
  refine ⟨xs, ⟨sg, fun a q => ?_⟩, ⟨fun a u q => ?_, o.kept, o.grow, o.rD, o.rF, o.rO, o.len, fun i sl v e1 e2 => ?_⟩, .lst (.of upd_same) (dpAll_mono sg h2)⟩
  · by_cases z : a = p
    · exact .inr (z ▸ h.l)
    · rw [upd_ne z] at q; exact .inl q
  · by_cases z : a = p
    · subst z; rw [upd_same] at q; cases q; exact h1
    · rw [upd_ne z] at q; exact o.sub a u q
  · have q := o.slot i sl v e1 e2
    have ne : ∀ q', q' ∈ R i → q' ≠ p := fun q' m z => h.r i (z ▸ m)
    cases sl with
    | un => exact q
    | dat d => obtain ⟨a1, x, a2, a3⟩ := q; exact ⟨a1, x, a2, dp_mono sg a3⟩
    | own es =>
      obtain ⟨p', xs', a1, a2, a3, a4, a5, a6⟩ := q
      exact ⟨p', xs', a1, a2, a3, by rw [upd_ne (ne p' (by rw [a1]; simp))]; exact a4, a5, dpAll_mono sg a6⟩
    | par es =>
      obtain ⟨xs', a1, a2, a3, a4, a6⟩ := q
      exact ⟨xs', a1, a2, a3, by rw [upd_ne (ne _ (by rw [a1]; simp))]; exact a4, dpAll_mono sg a6⟩
theorem po_d {f : Exs} (h : PEo X e f) : PEd X e (lstE f) := PE.to h fun σ H Q _ q => by
  obtain ⟨B, G, R, ρ, d, ρ', o, e0, k⟩ := q
  obtain ⟨p, e1, e⟩ := opt_map e0
  cases e
  refine ⟨B, G, R, ρ, p.1, p.2, o, e1, fun G' H' R' t s' o' fr => ?_⟩
  obtain ⟨xs, s2, o2, d2⟩ := fresh_freeze o' fr
  exact fun _ => k _ H' R' _ (s'.trans s2) o2 d2
/-! ### arguments, displays -/
theorem pa_nil : PAd X [] nilA := PA.to L2.pa_nil fun σ H Q _ q => by
  obtain ⟨B, G, R, ρ, d, ρ', o, e, k⟩ := q
  cases e
  exact fun _ => k G H R [] .refl o .nil
theorem pa_cons {g : Exs} (ha : PEd X e f) (hr : PAd X es g) (hs : starEach (e :: es) X.env = (false, eval e X.env) :: starEach es X.env := by rfl) : PAd X (e :: es) (consA f g) := PA.to (L2.pa_cons ha hr hs) fun σ H Q _ q => by
  obtain ⟨B, G, R, ρ, d, ρ', o, e0, k⟩ := q
  obtain ⟨p, e1, e⟩ := opt_bind e0
  obtain ⟨q, e2, e⟩ := opt_map e
  cases e
  exact ⟨B, G, R, ρ, p.1, p.2, o, e1, fun G1 H1 R1 v s1 o1 d1 => ⟨B, G1, R1, p.2, q.1, q.2, o1, e2, fun G2 H2 R2 vs s2 o2 d2 _ => k G2 H2 R2 _ (s1.trans s2) o2 (.cons (dp_mono s2.g d1) d2)⟩⟩
theorem pd_tup {g : Exs} {x1} (h : PAd X es g) : PEd X (.Tuple es x1 pos) (tupE g) := PE.to (pe_tup h) fun σ H Q _ q => by
  obtain ⟨B, G, R, ρ, d, ρ', o, e0, k⟩ := q
  obtain ⟨p, e1, e⟩ := opt_bind e0
  by_cases hl : p.1.length ≤ sizeLine
  · rw [if_pos hl] at e; cases e
    exact ⟨B, G, R, ρ, p.1, p.2, o, e1, fun G' H' R' vs s' o' dp => ⟨by rw [dpAll_len dp]; exact hl, fun t ht _ =>
      k _ _ R' _ (s'.trans (o'.stp (.new o'.sub ht))) (o'.ext (.new o'.sub ht)) (.tup (.of upd_same) (dpAll_mono (Sub.upd .refl (o'.sub.no ht)) dp))⟩⟩
  · rw [if_neg hl] at e; cases e
theorem po_lst {g : Exs} (h : PAd X es g) : PEo X (.List es pos) (lstO g) := PE.to (pe_lst h) fun σ H Q _ q => by
  obtain ⟨B, G, R, ρ, d, ρ', o, e0, k⟩ := q
  obtain ⟨p, e1, e⟩ := opt_bind e0
  by_cases hl : p.1.length ≤ sizeLine
  · rw [if_pos hl] at e; cases e
    exact ⟨B, G, R, ρ, p.1, p.2, o, e1, fun G' H' R' vs s' o' dp => ⟨by rw [dpAll_len dp]; exact hl, fun t ht _ =>
      k G' _ R' t (s'.trans (o'.stp (.newH (o := .lst vs) o'.sub ht))) (o'.ext (.newH o'.sub ht)) (fresh_of o' ht upd_same (o'.sub.no ht) dp)⟩⟩
  · rw [if_neg hl] at e; cases e
/-! ### subscripts -/
theorem pd_item (ha : PEd X a f) (hb : PEd X b g) (hs : PlainIx b) : PEd X (.Subscript a b pos) (binE itemD f g) := PE.to (pe_ix itemOp ha hb hs) fun σ H Q _ q => by
  obtain ⟨B, G, R, ρ, d, ρ', o, e0, k⟩ := q
  obtain ⟨p, e1, e⟩ := opt_bind e0
  obtain ⟨q, e2, e⟩ := opt_bind e
  obtain ⟨r, e3, e⟩ := opt_map e
  cases e
  exact ⟨B, G, R, ρ, p.1, p.2, o, e1, fun G1 H1 R1 v s1 o1 d1 => ⟨B, G1, R1, p.2, q.1, q.2, o1, e2, fun G2 H2 R2 w s2 o2 d2 =>
    ⟨G2, _, _, _, o2.sub, dp_mono s2.g d1, d2, e3, fun G3 H3 u x3 d3 _ => k G3 H3 R2 u ((s1.trans s2).trans (o2.stp x3)) (o2.ext x3) d3⟩⟩⟩
abbrev Pa := Rho → Option (Option Int × Rho)
def noP : Pa := fun ρ => some (none, ρ)
def somP (f : Ex) : Pa := fun ρ => (f ρ).bind fun p => match p.1 with | .int i => some (some i, p.2) | _ => none
def tPa (K : PySem.W.Frag) (f : Pa) : TO := fun σ H Q => ∃ B G R ρ d ρ', Ok K B G H R ρ σ ∧ f ρ = some (d, ρ') ∧ ∀ G' H' R', Stp B G G' → Ok K B G' H' R' ρ' σ → Q d H'
theorem PO.to {o : Option Expr} {t u : TO} (h : PO X o t) (k : ∀ σ H Q, u σ H Q → t σ H Q) : PO X o u := ⟨fun pins s σ H Q I q => h.run pins s σ H Q I (k σ H Q q)⟩
def POd (X : Cx) (o : Option Expr) (f : Pa) : Prop := PO X o (tPa X.K f)
theorem po_none : POd X none noP := PO.to L2.po_none fun σ H Q q => by
  obtain ⟨B, G, R, ρ, d, ρ', o, e, k⟩ := q
  cases e
  exact k G H R .refl o
theorem po_some (h : PEd X e f) : POd X (some e) (somP f) := PO.to (L2.po_some h) fun σ H Q q => by
  obtain ⟨B, G, R, ρ, d, ρ', o, e0, k⟩ := q
  obtain ⟨p, e1, e⟩ := opt_bind e0
  obtain ⟨p1, p2⟩ := p
  cases p1 with
  | int i =>
    cases e
    exact ⟨B, G, R, ρ, _, _, o, e1, fun G' H' R' v s' o' dp => ⟨i, dp_int dp, k G' H' R' s' o'⟩⟩
  | _ => cases e
def sliceE (f : Ex) (lo hi : Pa) : Ex := fun ρ => (f ρ).bind fun p => (lo p.2).bind fun q => (hi q.2).bind fun r => (sliceD p.1 q.1 r.1).map fun d => (d, r.2)
theorem pd_slice {p2 : Pos} {lo hi : Option Expr} {g h : Pa} (ha : PEd X a f) (hl : POd X lo g) (hh : POd X hi h) : PEd X (.Subscript a (.Slice lo hi none p2) pos) (sliceE f g h) := PE.to (pe_slice (SlR.or sl_list sl_tupA) ha hl hh) fun σ H Q _ q => by
  obtain ⟨B, G, R, ρ, d, ρ', o, e0, k⟩ := q
  obtain ⟨p, e1, e⟩ := opt_bind e0
  obtain ⟨q, e2, e⟩ := opt_bind e
  obtain ⟨r, e3, e⟩ := opt_bind e
  obtain ⟨t, e4, e⟩ := opt_map e
  cases e
  refine ⟨B, G, R, ρ, p.1, p.2, o, e1, fun G1 H1 R1 v s1 o1 d1 => ⟨B, G1, R1, p.2, q.1, q.2, o1, e2, fun G2 H2 R2 s2 o2 => ⟨B, G2, R2, q.2, r.1, r.2, o2, e3, fun G3 H3 R3 s3 o3 => ?_⟩⟩⟩
  have d3 := dp_mono (s2.g.trans s3.g) d1
  have st := (s1.trans s2).trans s3
  unfold sliceD at e4
  split at e4
  · rename_i hp
    rw [hp] at d3
    obtain ⟨b, us, rfl, a1, a2⟩ := dp_lst d3
    cases e4
    exact .inl ⟨b, us, rfl, .inl (rd_mono o3.sub a1), fun t ht _ => k _ _ R3 _ (st.trans (o3.stp (.new o3.sub ht))) (o3.ext (.new o3.sub ht)) (.lst (.of upd_same) (dpAll_mono (Sub.upd .refl (o3.sub.no ht)) (cut_dp a2)))⟩
  · rename_i hp
    rw [hp] at d3
    obtain ⟨b, us, rfl, a1, a2⟩ := dp_tup d3
    cases e4
    refine .inr ⟨b, us, rfl, seqT_mono o3.sub a1, fun hw _ => ?_, fun _ t ht _ => k _ _ R3 _ (st.trans (o3.stp (.new o3.sub ht))) (o3.ext (.new o3.sub ht)) (.tup (.of upd_same) (dpAll_mono (Sub.upd .refl (o3.sub.no ht)) (cut_dp a2)))⟩
    refine k G3 H3 R3 _ st o3 (.tup a1 ?_)
    have := cut_dp (lo := q.1) (hi := r.1) a2
    rwa [cut_all hw] at this
  · cases e4
/-! ### builtins -/
theorem pd_callB {x : Str} {id : String} {p : Pos} {m : List Dt → Option Dt} {g : Exs} (hc : CallR X (.builtin id) (rN X.K m)) (hg : Gl X x) (hm : X.mg x = none) (hv : bootBuiltins x = some (.builtin id)) (ha : PAd X (e :: es) g) (hn : x ≠ "__name__" := by decide) (hdb : (x == ("__debug__" : Str)) = false := by decide)
    (he : starEach (e :: es) X.env = (false, eval e X.env) :: starEach es X.env := by rfl) (hpl : (backTo pos (starEach es X.env)).any (·.1) = false := by rfl) : PEd X (.Call (.Name x p) (e :: es) [] pos) (bltE m g) := PE.to (L2.pe_callB hc hg hm hv ha hn hdb he hpl) fun σ H Q _ q => by
  obtain ⟨B, G, R, ρ, d, ρ', o, e0, k⟩ := q
  obtain ⟨p, e1, e⟩ := opt_bind e0
  obtain ⟨r, e2, e⟩ := opt_map e
  cases e
  exact ⟨B, G, R, ρ, p.1, p.2, o, e1, fun G1 H1 R1 vs s1 o1 d1 => ⟨G1, _, _, o1.sub, d1, e2, fun G3 H3 u x3 d3 _ => k G3 H3 R1 u (s1.trans (o1.stp x3)) (o1.ext x3) d3⟩⟩
theorem pd_callTy {x : Str} {T : String} {p : Pos} {m : List Dt → Option Dt} {g : Exs} (hc : CallR X (.type T) (rN X.K m)) (hg : Gl X x) (hm : X.mg x = none) (hv : bootBuiltins x = some (.type T)) (ha : PAd X (e :: es) g) (hn : x ≠ "__name__" := by decide) (hdb : (x == ("__debug__" : Str)) = false := by decide)
    (he : starEach (e :: es) X.env = (false, eval e X.env) :: starEach es X.env := by rfl) (hpl : (backTo pos (starEach es X.env)).any (·.1) = false := by rfl) : PEd X (.Call (.Name x p) (e :: es) [] pos) (bltE m g) := PE.to (L2.pe_callTy hc hg hm hv ha hn hdb he hpl) fun σ H Q _ q => by
  obtain ⟨B, G, R, ρ, d, ρ', o, e0, k⟩ := q
  obtain ⟨p, e1, e⟩ := opt_bind e0
  obtain ⟨r, e2, e⟩ := opt_map e
  cases e
  exact ⟨B, G, R, ρ, p.1, p.2, o, e1, fun G1 H1 R1 vs s1 o1 d1 => ⟨G1, _, _, o1.sub, d1, e2, fun G3 H3 u x3 d3 _ => k G3 H3 R1 u (s1.trans (o1.stp x3)) (o1.ext x3) d3⟩⟩
theorem po_callB {x : Str} {id : String} {p : Pos} {m : List Dt → Option (List Dt)} {g : Exs} (hc : CallR X (.builtin id) (rNO X.K m)) (hg : Gl X x) (hm : X.mg x = none) (hv : bootBuiltins x = some (.builtin id)) (ha : PAd X (e :: es) g) (hn : x ≠ "__name__" := by decide) (hdb : (x == ("__debug__" : Str)) = false := by decide)
    (he : starEach (e :: es) X.env = (false, eval e X.env) :: starEach es X.env := by rfl) (hpl : (backTo pos (starEach es X.env)).any (·.1) = false := by rfl) : PEo X (.Call (.Name x p) (e :: es) [] pos) (bltO m g) := PE.to (L2.pe_callB hc hg hm hv ha hn hdb he hpl) fun σ H Q _ q => by
  obtain ⟨B, G, R, ρ, d, ρ', o, e0, k⟩ := q
  obtain ⟨p, e1, e⟩ := opt_bind e0
  obtain ⟨r, e2, e⟩ := opt_map e
  cases e
  exact ⟨B, G, R, ρ, p.1, p.2, o, e1, fun G1 H1 R1 vs s1 o1 d1 => ⟨G1, _, _, o1.sub, d1, e2, fun G3 H3 t zs x3 n3 l3 g3 d3 _ => k G3 H3 R1 t (s1.trans (o1.stp x3)) (o1.ext x3) (fresh_of o1 n3 l3 g3 d3)⟩⟩
theorem po_callTy {x : Str} {T : String} {p : Pos} {m : List Dt → Option (List Dt)} {g : Exs} (hc : CallR X (.type T) (rNO X.K m)) (hg : Gl X x) (hm : X.mg x = none) (hv : bootBuiltins x = some (.type T)) (ha : PAd X (e :: es) g) (hn : x ≠ "__name__" := by decide) (hdb : (x == ("__debug__" : Str)) = false := by decide)
    (he : starEach (e :: es) X.env = (false, eval e X.env) :: starEach es X.env := by rfl) (hpl : (backTo pos (starEach es X.env)).any (·.1) = false := by rfl) : PEo X (.Call (.Name x p) (e :: es) [] pos) (bltO m g) := PE.to (L2.pe_callTy hc hg hm hv ha hn hdb he hpl) fun σ H Q _ q => by
  obtain ⟨B, G, R, ρ, d, ρ', o, e0, k⟩ := q
  obtain ⟨p, e1, e⟩ := opt_bind e0
  obtain ⟨r, e2, e⟩ := opt_map e
  cases e
  exact ⟨B, G, R, ρ, p.1, p.2, o, e1, fun G1 H1 R1 vs s1 o1 d1 => ⟨G1, _, _, o1.sub, d1, e2, fun G3 H3 t zs x3 n3 l3 g3 d3 _ => k G3 H3 R1 t (s1.trans (o1.stp x3)) (o1.ext x3) (fresh_of o1 n3 l3 g3 d3)⟩⟩
end
end G

set_option maxRecDepth 100000
set_option maxHeartbeats 4000000
namespace G
open PySem PySem.Spec PyProof.Rows L2
/-! ### targets -/
abbrev Tg := Dt → Rho → Option Rho
abbrev Tgs := List Dt → Rho → Option Rho
def tG (K : PySem.W.Frag) (f : Tg) (ws : List Nat) : TG := fun v σ H Q => ∃ B G R ρ d ρ', Ok K B G H R ρ σ ∧ Dq K G v d ∧ f d ρ = some ρ' ∧ ∀ G' H' R' σ', Stp B G G' → Ok K B G' H' R' ρ' σ' → σ'.length = σ.length → (∀ j : Nat, j ∉ ws → σ'[j]? = σ[j]?) → Q σ' H'
def tGs (K : PySem.W.Frag) (f : Tgs) (ws : List Nat) : TGs := fun v σ H Q => ∃ B G R ρ d ρ', Ok K B G H R ρ σ ∧ DqAll K G v d ∧ f d ρ = some ρ' ∧ ∀ G' H' R' σ', Stp B G G' → Ok K B G' H' R' ρ' σ' → σ'.length = σ.length → (∀ j : Nat, j ∉ ws → σ'[j]? = σ[j]?) → Q σ' H'
def PGd (X : Cx) (e : Expr) (f : Tg) (ws : List Nat) : Prop := PG X e (tG X.K f ws)
def PGsd (X : Cx) (es : List Expr) (f : Tgs) (ws : List Nat) : Prop := PGs X es (tGs X.K f ws)
def nameG (i : Nat) : Tg := fun d ρ => some (ρ.set i (.dat d))
def tupG (n : Nat) (f : Tgs) : Tg := fun d ρ => match d with
  | .tuple ds => if ds.length = n then f ds ρ else none
  | _ => none
def nilG : Tgs := fun ds ρ => match ds with
  | [] => some ρ
  | _ :: _ => none
def consG (f : Tg) (g : Tgs) : Tgs := fun ds ρ => match ds with
  | [] => none
  | d :: r => (f d ρ).bind fun ρ' => g r ρ'
section
variable {X : Cx} {pos : Pos} {e : Expr} {es : List Expr}
theorem pg_name {i : Nat} {x : Str} (h : PG X (.Name x pos) (gName i)) : PGd X (.Name x pos) (nameG i) [i] := PG.to h fun v σ H Q _ q => by
  obtain ⟨B, G, R, ρ, d, ρ', o, dp, e, k⟩ := q
  cases e
  refine fun _ => k G H _ _ .refl (o.setDat dp) (by rw [List.length_set]) fun j hj => ?_
  rw [List.getElem?_set_ne (fun z => hj (by rw [z]; simp))]
theorem pgs_nil : PGsd X [] nilG [] := PGs.to L2.pgs_nil fun v σ H Q _ q => by
  obtain ⟨B, G, R, ρ, d, ρ', o, dp, e, k⟩ := q
  unfold nilG at e
  split at e
  · cases e; cases dp
    exact ⟨rfl, fun _ => k G H R σ .refl o rfl fun _ _ => rfl⟩
  · cases e
theorem pgs_cons {f : Tg} {g : Tgs} {w1 w2 : List Nat} (h1 : PGd X e f w1) (h2 : PGsd X es g w2)
    (hs : (assignEach (e :: es) X.env).map (·.2) = assign e X.env :: (assignEach es X.env).map (·.2) := by rfl) : PGsd X (e :: es) (consG f g) (w1 ++ w2) := PGs.to (L2.pgs_cons h1 h2 hs) fun v σ H Q _ q => by
  obtain ⟨B, G, R, ρ, d, ρ', o, dp, e, k⟩ := q
  unfold consG at e
  split at e
  · cases e
  · obtain ⟨ρ1, e1, e2⟩ := opt_bind e
    cases dp with
    | cons d1 d2 =>
      refine ⟨_, _, rfl, B, G, R, ρ, _, ρ1, o, d1, e1, fun G1 H1 R1 σ1 s1 o1 l1 k1 => ⟨B, G1, R1, ρ1, _, ρ', o1, dpAll_mono s1.g d2, e2, fun G2 H2 R2 σ2 s2 o2 l2 k2 _ => ?_⟩⟩
      refine k G2 H2 R2 σ2 (s1.trans s2) o2 (l2.trans l1) fun j hj => ?_
      rw [List.mem_append, not_or] at hj
      rw [k2 j hj.2, k1 j hj.1]
theorem pg_tup {k n : Nat} {g : Tgs} {ws : List Nat} (hc : X.calm = true) (h : PGsd X es g ws)
    (hn : (assignEach es X.env).length = n := by rfl) (hst : (assignEach es X.env).findIdx? (·.1) = none := by rfl) : PGd X (.Tuple es k pos) (tupG n g) ws := PG.to (L2.pg_tup hc h hn hst) fun v σ H Q _ q => by
  obtain ⟨B, G, R, ρ, d, ρ', o, dp, e, k⟩ := q
  unfold tupG at e
  split at e
  · rename_i ds
    by_cases hl : ds.length = n
    · rw [if_pos hl] at e
      obtain ⟨p, us, rfl, a1, a2⟩ := dp_tup dp
      exact ⟨p, us, rfl, seqT_mono o.sub a1, by rw [dpAll_len a2]; exact hl, B, G, R, ρ, ds, ρ', o, a2, e, fun G' H' R' σ' s' o' l' k' _ => k G' H' R' σ' s' o' l' k'⟩
    · rw [if_neg hl] at e; cases e
  · cases e
end
/-! ### statements -/
inductive Out where
  | nx (ρ : Rho)
  | rt (d : Dt) (ρ : Rho)
  | ro (ds : List Dt) (ρ : Rho)
  | bk (ρ : Rho)
  | ct (ρ : Rho)
abbrev Sm := Rho → Option Out
def OutOk (K : PySem.W.Frag) (B : Bx) (G : Hp) (D : Ends) : Out → Prop
  | .nx ρ' => ∀ G' H' R' σ', Stp B G G' → Ok K B G' H' R' ρ' σ' → D.nx σ' H'
  | .rt d ρ' => ∀ G' H' R' σ' v, Stp B G G' → Ok K B G' H' R' ρ' σ' → Dq K G' v d → D.rt v H'
  | .ro ds ρ' => ∀ G' H' R' σ' p, Stp B G G' → Ok K B G' H' R' ρ' σ' → Fresh K B G' H' R' p ds → D.rt (.ref p) H'
  | .bk ρ' => ∀ G' H' R' σ', Stp B G G' → Ok K B G' H' R' ρ' σ' → D.bk σ' H'
  | .ct ρ' => ∀ G' H' R' σ', Stp B G G' → Ok K B G' H' R' ρ' σ' → D.ct σ' H'
def tS (K : PySem.W.Frag) (f : Sm) : TS := fun D σ H => ∃ B G R ρ o, Ok K B G H R ρ σ ∧ f ρ = some o ∧ OutOk K B G D o
def PSd (X : Cx) (st : Stmt) (f : Sm) : Prop := PS X st (tS X.K f)
def PSsd (X : Cx) (st : List Stmt) (f : Sm) : Prop := PSs X st (tS X.K f)
theorem OutOk.after {K : PySem.W.Frag} {B : Bx} {G G1 : Hp} {D : Ends} {o : Out} (h : OutOk K B G D o) (s : Stp B G G1) : OutOk K B G1 D o := by
  cases o with
  | nx ρ => exact fun G' H' R' σ' s' o' => h G' H' R' σ' (s.trans s') o'
  | rt d ρ => exact fun G' H' R' σ' v s' o' => h G' H' R' σ' v (s.trans s') o'
  | ro d ρ => exact fun G' H' R' σ' v s' o' => h G' H' R' σ' v (s.trans s') o'
  | bk ρ => exact fun G' H' R' σ' s' o' => h G' H' R' σ' (s.trans s') o'
  | ct ρ => exact fun G' H' R' σ' s' o' => h G' H' R' σ' (s.trans s') o'
theorem OutOk.bnd {K : PySem.W.Frag} {B : Bx} {G : Hp} {D : Ends} {o : Out} (h : OutOk K B G D o) : OutOk K B G (bndE D) o := by
  cases o with
  | nx ρ => exact fun G' H' R' σ' s' o' _ => h G' H' R' σ' s' o'
  | rt d ρ => exact fun G' H' R' σ' v s' o' d _ => h G' H' R' σ' v s' o' d
  | ro d ρ => exact fun G' H' R' σ' v s' o' d _ => h G' H' R' σ' v s' o' d
  | bk ρ => exact fun G' H' R' σ' s' o' _ => h G' H' R' σ' s' o'
  | ct ρ => exact fun G' H' R' σ' s' o' _ => h G' H' R' σ' s' o'
def nilS : Sm := fun ρ => some (.nx ρ)
def thenO (o : Option Out) (g : Sm) : Option Out := match o with
  | some (.nx ρ) => g ρ
  | o => o
def seqS (f g : Sm) : Sm := fun ρ => thenO (f ρ) g
def retS (f : Ex) : Sm := fun ρ => (f ρ).map fun p => .rt p.1 p.2
def retO (f : Exs) : Sm := fun ρ => (f ρ).map fun p => .ro p.1 p.2
def exprS (f : Ex) : Sm := fun ρ => (f ρ).map fun p => .nx p.2
def ifS (c : Te) (f g : Sm) : Sm := fun ρ => (c ρ).bind fun p => if p.1 = true then f p.2 else g p.2
def asgS (i : Nat) (f : Ex) : Sm := fun ρ => (f ρ).map fun p => .nx (p.2.set i (.dat p.1))
def asgO (i : Nat) (f : Exs) : Sm := fun ρ => (f ρ).bind fun p => if i < p.2.length then some (.nx (p.2.set i (.own p.1))) else none
def asgT (g : Tg) (f : Ex) : Sm := fun ρ => (f ρ).bind fun p => (g p.1 p.2).map fun ρ' => .nx ρ'
def parS (i j : Nat) (f : Exs) : Sm := fun ρ => (f ρ).bind fun p => match p.1 with
  | [d, e] => some (.nx ((p.2.set i (.dat d)).set j (.dat e)))
  | _ => none
def par3S (i j l : Nat) (f : Exs) : Sm := fun ρ => (f ρ).bind fun p => match p.1 with
  | [d, e, g] => some (.nx (((p.2.set i (.dat d)).set j (.dat e)).set l (.dat g)))
  | _ => none
def augS (i : Nat) (m : Dt → Dt → Option Dt) (f : Ex) : Sm := fun ρ => match ρ[i]? with
  | some (.dat d) => (f ρ).bind fun p => (m d p.1).map fun r => .nx (p.2.set i (.dat r))
  | _ => none
/-- the list that a name owns, or was lent -/
def lsAt (ρ : Rho) (i : Nat) : Option (List Dt) := match ρ[i]? with
  | some (.own ds) => some ds
  | some (.par ds) => some ds
  | _ => none
def lsSet (ρ : Rho) (i : Nat) (ds : List Dt) : Rho := match ρ[i]? with
  | some (.own _) => ρ.set i (.own ds)
  | some (.par _) => ρ.set i (.par ds)
  | _ => ρ
section
variable {X : Cx} {pos : Pos} {e : Expr} {es : List Expr} {st : Stmt} {rest : List Stmt} {f : Ex} {a b : List Stmt}
theorem pss_nil : PSsd X [] nilS := PSs.to L2.pss_nil fun D σ H _ q => by
  obtain ⟨B, G, R, ρ, o, ok, e, k⟩ := q
  cases e
  exact fun _ => k G H R σ .refl ok
theorem pss_cons {f g : Sm} (h1 : PSd X st f) (h2 : PSsd X rest g) : PSsd X (st :: rest) (seqS f g) := PSs.to (L2.pss_cons h1 h2) fun D σ H _ q => by
  obtain ⟨B, G, R, ρ, o, ok, e, k⟩ := q
  unfold seqS thenO at e
  have kb := k.bnd
  cases e1 : f ρ with
  | none => rw [e1] at e; cases e
  | some o1 =>
    refine ⟨B, G, R, ρ, o1, ok, e1, ?_⟩
    rw [e1] at e
    cases o1 with
    | nx ρ1 => exact fun G' H' R' σ' s' o' => ⟨B, G', R', ρ1, o, o', e, kb.after s'⟩
    | rt d ρ1 => cases e; exact fun G' H' R' σ' v s' o' => kb G' H' R' σ' v s' o'
    | ro d ρ1 => cases e; exact fun G' H' R' σ' v s' o' => kb G' H' R' σ' v s' o'
    | bk ρ1 => cases e; exact fun G' H' R' σ' s' o' => kb G' H' R' σ' s' o'
    | ct ρ1 => cases e; exact fun G' H' R' σ' s' o' => kb G' H' R' σ' s' o'
theorem pss_one {f : Sm} (h1 : PSd X st f) : PSsd X [st] f := PSs.to (L2.pss_one h1) fun D σ H _ q => by
  obtain ⟨B, G, R, ρ, o, ok, e, k⟩ := q
  exact ⟨B, G, R, ρ, o, ok, e, k.bnd⟩
theorem ps_ret (h : PEd X e f) : PSd X (.Return (some e) pos) (retS f) := PS.to (L2.ps_ret h) fun D σ H _ q => by
  obtain ⟨B, G, R, ρ, o, ok, e0, k⟩ := q
  obtain ⟨p, e1, e2⟩ := opt_map e0
  cases e2
  exact ⟨B, G, R, ρ, p.1, p.2, ok, e1, fun G' H' R' v s' o' d' _ => k G' H' R' σ v s' o' d'⟩
theorem ps_retO {f : Exs} (h : PEo X e f) : PSd X (.Return (some e) pos) (retO f) := PS.to (L2.ps_ret h) fun D σ H _ q => by
  obtain ⟨B, G, R, ρ, o, ok, e0, k⟩ := q
  obtain ⟨p, e1, e2⟩ := opt_map e0
  cases e2
  exact ⟨B, G, R, ρ, p.1, p.2, ok, e1, fun G' H' R' v s' o' d' _ => k G' H' R' σ v s' o' d'⟩
theorem ps_expr (h : PEd X e f) (hs : swapsWith e none pos.line X.env = pure false := by rfl) : PSd X (.Expr e pos) (exprS f) := PS.to (L2.ps_expr h hs) fun D σ H _ q => by
  obtain ⟨B, G, R, ρ, o, ok, e0, k⟩ := q
  obtain ⟨p, e1, e2⟩ := opt_map e0
  cases e2
  exact ⟨B, G, R, ρ, p.1, p.2, ok, e1, fun G' H' R' v s' o' d' _ => k G' H' R' σ s' o'⟩
theorem ps_if {c : Expr} {t : Te} {f g : Sm} (hc : PTd X c t) (ha : PSsd X a f) (hb : PSsd X b g) : PSd X (.If c a b pos) (ifS t f g) := PS.to (L2.ps_if hc ha hb) fun D σ H _ q => by
  obtain ⟨B, G, R, ρ, o, ok, e0, k⟩ := q
  obtain ⟨p, e1, e2⟩ := opt_bind e0
  refine ⟨B, G, R, ρ, p.1, p.2, ok, e1, fun G' H' R' s' o' => ?_⟩
  obtain ⟨p1, p2⟩ := p
  cases p1 with
  | true => exact ⟨B, G', R', p2, o, o', e2, (k.after s').bnd⟩
  | false => exact ⟨B, G', R', p2, o, o', e2, (k.after s').bnd⟩
/-- code that the proof never comes to -/
def neverS : Sm := fun _ => none
theorem ps_never : PSd X st neverS := PS.to L2.ps_never fun D σ H _ q => by
  obtain ⟨B, G, R, ρ, o, ok, e0, k⟩ := q
  cases e0
def bkS : Sm := fun ρ => some (.bk ρ)
def ctS : Sm := fun ρ => some (.ct ρ)
theorem ps_break : PSd X (.Break pos) bkS := PS.to L2.ps_break fun D σ H _ q => by
  obtain ⟨B, G, R, ρ, o, ok, e, k⟩ := q
  cases e
  exact fun _ => k G H R σ .refl ok
theorem ps_continue : PSd X (.Continue pos) ctS := PS.to L2.ps_continue fun D σ H _ q => by
  obtain ⟨B, G, R, ρ, o, ok, e, k⟩ := q
  cases e
  exact fun _ => k G H R σ .refl ok
theorem ps_pass : PSd X (.Pass pos) nilS := PS.to L2.ps_pass fun D σ H _ q => by
  obtain ⟨B, G, R, ρ, o, ok, e, k⟩ := q
  cases e
  exact fun _ => k G H R σ .refl ok
theorem ps_set {i : Nat} {x : Str} {p : Pos} (h : ∀ t, PE X e t → PS X (.Assign [.Name x p] e pos) (tAsg t (gName i))) (he : PEd X e f) : PSd X (.Assign [.Name x p] e pos) (asgS i f) := PS.to (h _ he) fun D σ H _ q => by
  obtain ⟨B, G, R, ρ, o, ok, e0, k⟩ := q
  obtain ⟨p, e1, e2⟩ := opt_map e0
  cases e2
  exact ⟨B, G, R, ρ, p.1, p.2, ok, e1, fun G' H' R' v s' o' d' _ => k G' H' _ _ s' (o'.setDat d')⟩
theorem Ok.setOwn {K : PySem.W.Frag} {B : Bx} {G H : Hp} {R : Nat → List Addr} {ρ : Rho} {σ : Sto} {p : Addr} {ds : List Dt} {i : Nat} (o : Ok K B G H R ρ σ) (h : Fresh K B G H R p ds) (hi : i < ρ.length) :
    Ok K B G H (fun j => if j = i then [p] else R j) (ρ.set i (.own ds)) (σ.set i (some (.ref p))) := by
  obtain ⟨xs, h1, h2⟩ := h.at_
  refine o.set ⟨p, xs, rfl, rfl, h1, h.g, h.l, h2⟩ (fun a ha => ?_) (.inr hi)
  have : a = p := by simpa using ha
  subst this
  exact ⟨h.f, fun j _ => h.r j⟩
theorem ps_setO {i : Nat} {x : Str} {p : Pos} {f : Exs} (h : ∀ t, PE X e t → PS X (.Assign [.Name x p] e pos) (tAsg t (gName i))) (he : PEo X e f) : PSd X (.Assign [.Name x p] e pos) (asgO i f) := PS.to (h _ he) fun D σ H _ q => by
  obtain ⟨B, G, R, ρ, o, ok, e0, k⟩ := q
  obtain ⟨p, e1, e2⟩ := opt_bind e0
  by_cases hi : i < p.2.length
  · rw [if_pos hi] at e2
    cases e2
    exact ⟨B, G, R, ρ, p.1, p.2, ok, e1, fun G' H' R' v s' o' d' _ => k G' H' _ _ s' (o'.setOwn d' hi)⟩
  · rw [if_neg hi] at e2; cases e2
theorem ps_asg {tg : Expr} {g : Tg} {ws : List Nat} (h : ∀ t u, PE X e t → PG X tg u → PS X (.Assign [tg] e pos) (tAsg t u)) (he : PEd X e f) (hg : PGd X tg g ws) : PSd X (.Assign [tg] e pos) (asgT g f) := PS.to (h _ _ he hg) fun D σ H _ q => by
  obtain ⟨B, G, R, ρ, o, ok, e0, k⟩ := q
  obtain ⟨p, e1, e2⟩ := opt_bind e0
  obtain ⟨ρ1, e4, e3⟩ := opt_map e2
  cases e3
  exact ⟨B, G, R, ρ, p.1, p.2, ok, e1, fun G' H' R' v s' o' d' => ⟨B, G', R', p.2, p.1, ρ1, o', d', e4, fun G2 H2 R2 σ2 s2 o2 _ _ _ => k G2 H2 R2 σ2 (s'.trans s2) o2⟩⟩
theorem ps_par {i j : Nat} {g : Exs} {tg v : Expr} (h : ∀ ta, PA X es ta → PS X (.Assign [tg] v pos) (tPar i j ta)) (ha : PAd X es g) : PSd X (.Assign [tg] v pos) (parS i j g) := PS.to (h _ ha) fun D σ H _ q => by
  obtain ⟨B, G, R, ρ, o, ok, e0, k⟩ := q
  obtain ⟨p, e1, e2⟩ := opt_bind e0
  refine ⟨B, G, R, ρ, p.1, p.2, ok, e1, fun G' H' R' vs s' o' d' => ?_⟩
  split at e2
  · rename_i d e hp
    rw [hp] at d'
    cases e2
    cases d' with
    | cons d1 d2 =>
      cases d2 with
      | cons d2 d3 =>
        cases d3
        exact ⟨_, _, rfl, fun _ => k G' H' _ _ s' ((o'.setDat d1).setDat d2)⟩
  · cases e2
theorem ps_par3 {i j l : Nat} {g : Exs} {tg v : Expr} (h : ∀ ta, PA X es ta → PS X (.Assign [tg] v pos) (tPar3 i j l ta)) (ha : PAd X es g) : PSd X (.Assign [tg] v pos) (par3S i j l g) := PS.to (h _ ha) fun D σ H _ q => by
  obtain ⟨B, G, R, ρ, o, ok, e0, k⟩ := q
  obtain ⟨p, e1, e2⟩ := opt_bind e0
  refine ⟨B, G, R, ρ, p.1, p.2, ok, e1, fun G' H' R' vs s' o' d' => ?_⟩
  split at e2
  · rename_i d e g' hp
    rw [hp] at d'
    cases e2
    cases d' with
    | cons d1 d2 =>
      cases d2 with
      | cons d2 d3 =>
        cases d3 with
        | cons d3 d4 =>
          cases d4
          exact ⟨_, _, _, rfl, fun _ => k G' H' _ _ s' (((o'.setDat d1).setDat d2).setDat d3)⟩
  · cases e2
theorem ps_aug {i : Nat} {x : Str} {p : Pos} {op : Operator} {m : Dt → Dt → Option Dt} (ho : OpR X (inplaceOp op) (rD X.K m)) (h : ∀ t u, PE X e t → PIp X op u → PS X (.AugAssign (.Name x p) op e pos) (tAug i t u)) (he : PEd X e f) : PSd X (.AugAssign (.Name x p) op e pos) (augS i m f) :=
  PS.to (h _ _ he ho) fun D σ H _ q => by
    obtain ⟨B, G, R, ρ, o, ok, e0, k⟩ := q
    unfold augS at e0
    split at e0
    · rename_i d hd
      obtain ⟨x, hx, dx⟩ := ok.dat hd
      obtain ⟨p, e1, e2⟩ := opt_bind e0
      obtain ⟨r, e4, e3⟩ := opt_map e2
      cases e3
      exact ⟨x, hx, B, G, R, ρ, p.1, p.2, ok, e1, fun G' H' R' v s' o' d' => ⟨G', _, _, _, o'.sub, dp_mono s'.g dx, d', e4, fun G3 H3 u x3 d3 _ => k G3 H3 _ _ (s'.trans (o'.stp x3)) ((o'.ext x3).setDat d3)⟩⟩
    · cases e0
def iaddD : Dt → Dt → Option Dt
  | .int a, .int b => some (.int (a + b))
  | .str a, .str b => if a.length + b.length ≤ sizeLine then some (.str (a ++ b)) else none
  | _, _ => none
theorem iaddOp : OpR X (inplaceOp .Add) (rD X.K iaddD) := OpR.imp (OpR.or iop_add iop_add_str) fun x y H Q b h => by
  obtain ⟨G, d, e, r, s, h1, h2, h3, k⟩ := h
  unfold iaddD at h3
  split at h3
  · cases h1; cases h2; cases h3
    exact .inl ⟨_, _, rfl, rfl, k G H _ (.refl s) (.int _)⟩
  · rename_i x y
    cases h1; cases h2
    by_cases hl : x.length + y.length ≤ sizeLine
    · rw [if_pos hl] at h3; cases h3
      exact .inr ⟨_, _, rfl, rfl, hl, k G H _ (.refl s) (.str _)⟩
    · rw [if_neg hl] at h3; cases h3
  · cases h3
/-! ### a list of one's own, or lent, is written -/
theorem Ok.lay {K : PySem.W.Frag} {B : Bx} {G H : Hp} {R : Nat → List Addr} {ρ : Rho} {σ : Sto} {i : Nat} {ds : List Dt} (o : Ok K B G H R ρ σ) (h : lsAt ρ i = some ds) :
    ∃ p xs, σ[i]? = some (some (V.ref p)) ∧ H p = some (.lst xs) ∧ DqAll K G xs ds ∧ ∀ ys es, DqAll K G ys es → Ok K B G (upd H p (.lst ys)) R (lsSet ρ i es) σ := by
  unfold lsAt at h
  split at h
  · rename_i es' he
    cases h
    obtain ⟨p, xs, a1, a2, a3, a4, a5, a6⟩ := o.ownAt he
    refine ⟨p, xs, a2, a3, a6, fun ys es d' => ?_⟩
    have q := o.write (sl := .own es) (ys := ys) a1 a3 a4 fun v hv => by
      rw [a2] at hv; cases hv
      exact ⟨p, ys, rfl, rfl, upd_same, a4, a5, d'⟩
    unfold lsSet
    rw [he]
    exact q
  · rename_i es' he
    cases h
    obtain ⟨xs, a1, a2, a3, a4, a6⟩ := o.parAt he
    refine ⟨_, xs, a2, a3, a6, fun ys es d' => ?_⟩
    have q := o.write (sl := .par es) (ys := ys) a1 a3 a4 fun v hv => by
      rw [a2] at hv; cases hv
      exact ⟨ys, rfl, rfl, upd_same, a4, d'⟩
    unfold lsSet
    rw [he]
    exact q
  · cases h
theorem Ok.lsV {K : PySem.W.Frag} {B : Bx} {G H : Hp} {R : Nat → List Addr} {ρ : Rho} {σ : Sto} {i : Nat} {ds : List Dt} (o : Ok K B G H R ρ σ) (h : lsAt ρ i = some ds) : ∃ p, σ[i]? = some (some (V.ref p)) :=
  let ⟨p, _, e, _⟩ := o.lay h; ⟨p, e⟩
/-- x[k] = v -/
def putS (i : Nat) (fv fk : Ex) : Sm := fun ρ => (fv ρ).bind fun p => (lsAt p.2 i).bind fun _ => (fk p.2).bind fun q => match q.1 with
  | .int k => (lsAt q.2 i).bind fun ds => (ixN ds.length k).map fun j => .nx (lsSet q.2 i (ds.set j p.1))
  | _ => none
theorem ps_put {i : Nat} {x : Str} {p sp : Pos} {ie : Expr} {g : Ex} (ho : PE X (.Name x p) (tVar i)) (hi : PEd X ie g) (he : PEd X e f)
    (hs : ∀ t u, PE X e t → PG X (.Subscript (.Name x p) ie sp) u → PS X (.Assign [.Subscript (.Name x p) ie sp] e pos) (tAsg t u))
    (ha : ∀ v, assign (.Subscript (.Name x p) ie sp) X.env v = (do
      let ov ← holding [v] (eval (.Name x p) X.env)
      let iv ← holding [v, ov] (eval ie X.env)
      standAt sp
      holding [v, ov, iv] (setItem ov iv v)
      release [v, ov, iv] []) := by intro _; rfl) : PSd X (.Assign [.Subscript (.Name x p) ie sp] e pos) (putS i f g) := PS.to (hs _ _ he (pg_sub ho hi set_list ha)) fun D σ H _ q => by
  obtain ⟨B, G, R, ρ, o, ok, e0, k⟩ := q
  obtain ⟨p, e1, e2⟩ := opt_bind e0
  obtain ⟨dz, ez, e2⟩ := opt_bind e2
  obtain ⟨q, e3, e4⟩ := opt_bind e2
  refine ⟨B, G, R, ρ, p.1, p.2, ok, e1, fun G1 H1 R1 v s1 o1 d1 => ?_⟩
  split at e4
  · rename_i kk hk
    obtain ⟨ds, e5, e6⟩ := opt_bind e4
    obtain ⟨j, e7, e8⟩ := opt_map e6
    cases e8
    obtain ⟨a, ea⟩ := o1.lsV ez
    refine ⟨.ref a, ea, B, G1, R1, p.2, q.1, q.2, o1, e3, fun G2 H2 R2 w s2 o2 d2 => ?_⟩
    obtain ⟨a', xs, b1, b2, b3, b4⟩ := o2.lay e5
    rw [ea] at b1; cases b1
    rw [hk] at d2
    refine ⟨a, xs, kk, j, rfl, dp_int d2, b2, by rw [dpAll_len b3]; exact e7, fun _ => ?_⟩
    exact k G2 _ R2 σ (s1.trans s2) (b4 _ _ (dpAll_set (dp_mono s2.g d1) j b3))
  · cases e4
/-- x.append(v), and its like: the receiver's list, an argument -/
def appS (i : Nat) (f : Ex) : Sm := fun ρ => (lsAt ρ i).bind fun _ => (f ρ).bind fun p => (lsAt p.2 i).bind fun ds => if ds.length < sizeLine then some (.nx (lsSet p.2 i (ds ++ [p.1]))) else none
theorem ps_append {i : Nat} {x : Str} {p : Pos} {s : Expr} (ho : ∀ r u, PE X (.Name x p) (tVar i) → MtM X "list.append" r → PA X [e] u → PE X s (tBM X.K "list" r (tVar i) u)) (hn : PE X (.Name x p) (tVar i)) (he : PEd X e f)
    (hx : starEach (e :: []) X.env = (false, eval e X.env) :: starEach [] X.env := by rfl) (hs : swapsWith s none pos.line X.env = pure false := by rfl) : PSd X (.Expr s pos) (appS i f) := PS.to (L2.ps_expr (ho _ _ hn mt_append (pa_cons he pa_nil hx)) hs) fun D σ H _ q => by
  obtain ⟨B, G, R, ρ, o, ok, e0, k⟩ := q
  obtain ⟨dz, ez, e0⟩ := opt_bind e0
  obtain ⟨p, e1, e2⟩ := opt_bind e0
  obtain ⟨ds, e3, e4⟩ := opt_bind e2
  by_cases hl : ds.length < sizeLine
  · rw [if_pos hl] at e4
    cases e4
    obtain ⟨a, xs, ea, hH, _, _⟩ := ok.lay ez
    refine ⟨.ref a, ea, .inl ⟨rfl, _, .inl (.inl hH)⟩, B, G, R, ρ, [p.1], p.2, ok, by unfold consA; rw [e1]; rfl, fun G2 H2 R2 vs s2 o2 d2 => ?_⟩
    obtain ⟨a', xs', b1, b2, b3, b4⟩ := o2.lay e3
    rw [ea] at b1; cases b1
    cases d2 with
    | cons d2 d3 =>
      cases d3
      refine ⟨a, xs', _, rfl, rfl, b2, by rw [dpAll_len b3]; exact hl, fun _ => ?_⟩
      exact k G2 _ R2 σ s2 (b4 _ _ (dpAll_app b3 (.cons d2 .nil)))
  · rw [if_neg hl] at e4; cases e4
def extS (i : Nat) (f : Ex) : Sm := fun ρ => (lsAt ρ i).bind fun _ => (f ρ).bind fun p => (lsAt p.2 i).bind fun ds => match p.1 with
  | .list es => if ds.length + es.length ≤ sizeLine then some (.nx (lsSet p.2 i (ds ++ es))) else none
  | _ => none
def rExtR : V → List V → Hp → VK → Prop := fun x vs H Q => ∃ l b xs zs, x = .ref l ∧ vs = [.ref b] ∧ H l = some (.lst xs) ∧ Rd H b (.lst zs) ∧ xs.length + zs.length ≤ sizeLine ∧ Q .non (upd H l (.lst (xs ++ zs)))
theorem ext_rd : MtM X "list.extend" rExtR := by
  intro pins s σ H x vs v us Q I rx rv h
  obtain ⟨l, b, xs, zs, rfl, rfl, hH, hB, hz, q⟩ := h
  cases rx
  obtain ⟨u, rfl, ru⟩ := rv.one
  cases ru
  obtain ⟨z, its, n, r, hl, e⟩ := I.lstM hH
  obtain ⟨z2, its2, n2, r2, e2⟩ := hB.ok I.hok
  have hl2 := r2.length
  have hsz : its.toArray.size + its2.toArray.size ≤ sizeLine := by rw [List.size_toArray, List.size_toArray]; omega
  have hlong : ¬ (!its.toArray.isEmpty && Builtin.List.listTooLong (its.toArray.size + its2.toArray.size)) = true := by
    rw [notLongL hsz, Bool.and_false]
    exact Bool.false_ne_true
  refine call_meets F.slot_list_extend ⟨_, e, rfl⟩ F.entry_list_extend (F.args_list_extend_2 _ _)
    (AutoSeq1.list_extend_list_list_0 l its.toArray n b its2.toArray n2 hlong (by rw [List.size_toArray]; omega) (by omega)) ⟨e, e2, ?_⟩
  refine ⟨.non, _, I.lset (its' := its ++ its2) hH e (by simp) (r.append r2) ?_, rfl, q⟩
  rw [List.length_append]
  omega
theorem ps_extend {i : Nat} {x : Str} {p : Pos} {s : Expr} (ho : ∀ r u, PE X (.Name x p) (tVar i) → MtM X "list.extend" r → PA X [e] u → PE X s (tBM X.K "list" r (tVar i) u)) (hn : PE X (.Name x p) (tVar i)) (he : PEd X e f)
    (hx : starEach (e :: []) X.env = (false, eval e X.env) :: starEach [] X.env := by rfl) (hs : swapsWith s none pos.line X.env = pure false := by rfl) : PSd X (.Expr s pos) (extS i f) := PS.to (L2.ps_expr (ho _ _ hn ext_rd (pa_cons he pa_nil hx)) hs) fun D σ H _ q => by
  obtain ⟨B, G, R, ρ, o, ok, e0, k⟩ := q
  obtain ⟨dz, ez, e0⟩ := opt_bind e0
  obtain ⟨p, e1, e2⟩ := opt_bind e0
  obtain ⟨ds, e3, e4⟩ := opt_bind e2
  split at e4
  · rename_i es he
    by_cases hl : ds.length + es.length ≤ sizeLine
    · rw [if_pos hl] at e4
      cases e4
      obtain ⟨a, xs, ea, hH, _, _⟩ := ok.lay ez
      refine ⟨.ref a, ea, .inl ⟨rfl, _, .inl (.inl hH)⟩, B, G, R, ρ, [p.1], p.2, ok, by unfold consA; rw [e1]; rfl, fun G2 H2 R2 vs s2 o2 d2 => ?_⟩
      obtain ⟨a', xs', b1, b2, b3, b4⟩ := o2.lay e3
      rw [ea] at b1; cases b1
      rw [he] at d2
      cases d2 with
      | cons d2 d3 =>
        cases d3
        obtain ⟨c, ys, rfl, c1, c2⟩ := dp_lst d2
        refine ⟨a, c, xs', ys, rfl, rfl, b2, rd_mono o2.sub c1, by rw [dpAll_len b3, dpAll_len c2]; exact hl, fun _ => ?_⟩
        exact k G2 _ R2 σ s2 (b4 _ _ (dpAll_app b3 c2))
    · rw [if_neg hl] at e4; cases e4
  · cases e4
/-- x.reverse(), x.clear() -/
def revS (i : Nat) : Sm := fun ρ => (lsAt ρ i).map fun ds => .nx (lsSet ρ i ds.reverse)
def clrS (i : Nat) : Sm := fun ρ => (lsAt ρ i).map fun _ => .nx (lsSet ρ i [])
theorem ps_rev {i : Nat} {x : Str} {p : Pos} {s : Expr} (ho : ∀ r, PE X (.Name x p) (tVar i) → MtM X "list.reverse" r → PE X s (tBM0 X.K "list" r (tVar i))) (hn : PE X (.Name x p) (tVar i))
    (hs : swapsWith s none pos.line X.env = pure false := by rfl) : PSd X (.Expr s pos) (revS i) := PS.to (L2.ps_expr (ho _ hn mt_reverse) hs) fun D σ H _ q => by
  obtain ⟨B, G, R, ρ, o, ok, e0, k⟩ := q
  obtain ⟨ds, e1, e2⟩ := opt_map e0
  cases e2
  obtain ⟨a, xs, ea, hH, b3, b4⟩ := ok.lay e1
  exact ⟨.ref a, ea, .inl ⟨rfl, _, .inl (.inl hH)⟩, a, xs, rfl, rfl, hH, fun _ => k G _ R σ .refl (b4 _ _ (dpAll_rev b3))⟩
theorem ps_clr {i : Nat} {x : Str} {p : Pos} {s : Expr} (ho : ∀ r, PE X (.Name x p) (tVar i) → MtM X "list.clear" r → PE X s (tBM0 X.K "list" r (tVar i))) (hn : PE X (.Name x p) (tVar i))
    (hs : swapsWith s none pos.line X.env = pure false := by rfl) : PSd X (.Expr s pos) (clrS i) := PS.to (L2.ps_expr (ho _ hn mt_clear) hs) fun D σ H _ q => by
  obtain ⟨B, G, R, ρ, o, ok, e0, k⟩ := q
  obtain ⟨ds, e1, e2⟩ := opt_map e0
  cases e2
  obtain ⟨a, xs, ea, hH, b3, b4⟩ := ok.lay e1
  exact ⟨.ref a, ea, .inl ⟨rfl, _, .inl (.inl hH)⟩, a, xs, rfl, rfl, hH, fun _ => k G _ R σ .refl (b4 _ _ .nil)⟩
/-- x[k] of a list that a name owns -/
def ownItem (i : Nat) (f : Ex) : Ex := fun ρ => (lsAt ρ i).bind fun _ => (f ρ).bind fun q => (lsAt q.2 i).bind fun ds => (itemD (.list ds) q.1).map fun d => (d, q.2)
theorem pd_ownItem {i : Nat} {x : Str} {p : Pos} {b : Expr} {g : Ex} (hn : PE X (.Name x p) (tVar i)) (hb : PEd X b g) (hs : PlainIx b) : PEd X (.Subscript (.Name x p) b pos) (ownItem i g) := PE.to (pe_ix (ix_list) hn hb hs) fun σ H Q _ q => by
  obtain ⟨B, G, R, ρ, d, ρ', o, e0, k⟩ := q
  obtain ⟨dz, ez, e0⟩ := opt_bind e0
  obtain ⟨q, e1, e2⟩ := opt_bind e0
  obtain ⟨ds, e3, e4⟩ := opt_bind e2
  obtain ⟨r, e5, e6⟩ := opt_map e4
  cases e6
  obtain ⟨a, ea⟩ := o.lsV ez
  refine ⟨.ref a, ea, B, G, R, ρ, q.1, q.2, o, e1, fun G2 H2 R2 w s2 o2 d2 => ?_⟩
  obtain ⟨a', xs, b1, b2, b3, b4⟩ := o2.lay e3
  rw [ea] at b1; cases b1
  obtain ⟨q1, q2⟩ := q
  cases q1 with
  | int j =>
    cases d2
    obtain ⟨u, c1, c2⟩ := atI_dp b3 e5
    exact ⟨a, xs, j, u, rfl, rfl, .inl (.inl b2), c1, fun _ => k G2 H2 R2 u s2 o2 c2⟩
  | _ => cases e5
/-- len(x) of a list that a name owns -/
def ownLen (i : Nat) : Ex := fun ρ => (lsAt ρ i).map fun ds => (.int ds.length, ρ)
theorem pd_ownLen {i : Nat} {x : Str} {s : Expr} {t : TA} (hn : ∀ r, CallR X (.builtin "len") r → PE X s (tCB r (tCons (tVar i) tNil))) : PEd X s (ownLen i) := PE.to (hn _ call_len_seq) fun σ H Q _ q => by
  obtain ⟨B, G, R, ρ, d, ρ', o, e0, k⟩ := q
  obtain ⟨ds, e1, e2⟩ := opt_map e0
  cases e2
  obtain ⟨a, xs, ea, hH, b3, b4⟩ := o.lay e1
  exact ⟨.ref a, ea, a, xs, rfl, .inl (.inl (.inl hH)), fun _ => by rw [dpAll_len b3]; exact k G H R _ .refl o (.int _)⟩
end
end G

set_option maxRecDepth 100000
set_option maxHeartbeats 4000000
namespace G
open PySem PySem.Spec PyProof.Rows L2
/-! ### what is walked -/
structure Yields (K : PySem.W.Frag) (G0 : Hp) (J : It) (ds : List Dt) : Prop where
  go : ∀ i G H, Sub G0 G → Sub G H → i < ds.length → J.go i H
  yld : ∀ i G H x H', Sub G0 G → Sub G H → J.yld i H x H' → ∀ d, ds[i]? = some d → ∃ G', Ext G H G' H' ∧ Dq K G' x d
  stop : ∀ i G H, Sub G0 G → Sub G H → ds.length ≤ i → J.stop i H
def tI (K : PySem.W.Frag) (f : Exs) : TI := fun σ H Q => ∃ B G R ρ ds ρ', Ok K B G H R ρ σ ∧ f ρ = some (ds, ρ') ∧ ∀ G' H' R' J, Stp B G G' → Ok K B G' H' R' ρ' σ → Yields K G' J ds → ds.length ≤ sizeLine → Q J H'
def PId (X : Cx) (tg e : Expr) (f : Exs) : Prop := PI X tg e (tI X.K f)
/-- over a list's, a tuple's items -/
def seqI (f : Ex) : Exs := fun ρ => (f ρ).bind fun p => match p.1 with
  | .list ds => some (ds, p.2)
  | .tuple ds => some (ds, p.2)
  | _ => none
def intsF (a : Int) (n : Nat) : List Dt := (List.range n).map fun i => .int (a + (i : Nat))
def rngI1 (f : Ex) : Exs := fun ρ => (f ρ).bind fun p => match p.1 with
  | .int j => if -(2 ^ 62) ≤ j ∧ j ≤ sizeLine then some (intsF 0 j.toNat, p.2) else none
  | _ => none
def rngI2 (f g : Ex) : Exs := fun ρ => (f ρ).bind fun p => (g p.2).bind fun q => match p.1, q.1 with
  | .int i, .int j => if -(2 ^ 62) ≤ i ∧ i < 2 ^ 62 ∧ -(2 ^ 62) ≤ j ∧ j < 2 ^ 62 ∧ j - i ≤ sizeLine then some (intsF i (j - i).toNat, q.2) else none
  | _, _ => none
theorem intsF_get {a : Int} {n i : Nat} {d : Dt} (h : (intsF a n)[i]? = some d) : i < n ∧ d = .int (a + (i : Nat)) := by
  unfold intsF at h
  rw [List.getElem?_map] at h
  obtain ⟨j, h1, h2⟩ := opt_map h
  obtain ⟨h3, h4⟩ := List.getElem?_eq_some_iff.mp h1
  rw [List.length_range] at h3
  rw [List.getElem_range] at h4
  subst h4
  exact ⟨h3, h2.symm⟩
theorem intsF_len (a : Int) (n : Nat) : (intsF a n).length = n := by unfold intsF; rw [List.length_map, List.length_range]
theorem yields_range {K : PySem.W.Frag} {G0 : Hp} (a : Int) (n : Nat) : Yields K G0 (Itr a n) (intsF a n) where
  go := fun i G H _ _ h => by rw [intsF_len] at h; exact h
  yld := fun i G H x H' _ s y d h => by
    obtain ⟨rfl, rfl⟩ := y
    obtain ⟨_, rfl⟩ := intsF_get h
    exact ⟨G, .refl s, .int _⟩
  stop := fun i G H _ _ h => by rw [intsF_len] at h; exact h
/-- either -/
theorem pi_seq {X : Cx} {tg e : Expr} {f : Ex} (h : PEd X e f) : PId X tg e (seqI f) := by
  refine ⟨fun pins s σ H R I q => ?_⟩
  obtain ⟨B, G, Rr, ρ, ds, ρ', o, e0, k⟩ := q
  obtain ⟨p, e1, e2⟩ := opt_bind e0
  obtain ⟨p1, p2⟩ := p
  cases p1 with
  | list es =>
    cases e2
    refine (PI.to (u := fun σ H Q => ∃ B G R ρ ds ρ', Ok X.K B G H R ρ σ ∧ f ρ = some (.list ds, ρ') ∧ ∀ G' H' R' J, Stp B G G' → Ok X.K B G' H' R' ρ' σ → Yields X.K G' J ds → ds.length ≤ sizeLine → Q J H') (L2.pi_list h) fun σ H Q _ q => ?_).run pins s σ H R I ⟨B, G, Rr, ρ, _, _, o, e1, k⟩
    obtain ⟨B, G, Rr, ρ, ds, ρ', o, e0, k⟩ := q
    refine ⟨B, G, Rr, ρ, _, _, o, e0, fun G1 H1 R1 v s1 o1 d1 => ?_⟩
    obtain ⟨c, us, rfl, c1, c2⟩ := dp_lst d1
    have sq : SqL X.K H1 c us := .inl (rd_mono o1.sub c1)
    refine ⟨c, rfl, ⟨us, sq⟩, fun bd => k G1 H1 R1 _ s1 o1 ⟨fun i G H s0 sh hi => ?_, fun i G H x H' s0 sh y d hd => ?_, fun i G H s0 sh hi => ?_⟩ (by rw [← dpAll_len c2]; exact rd_bd bd (rd_mono o1.sub c1))⟩
    · obtain ⟨v, hv, _⟩ := dpAll_get c2 (List.getElem?_eq_getElem hi)
      exact ⟨us, v, .inl (rd_mono (s0.trans sh) c1), hv⟩
    · obtain ⟨rfl, y⟩ := y
      have hv := y us (.inl (rd_mono (s0.trans sh) c1))
      obtain ⟨v, hv', dv⟩ := dpAll_get c2 hd
      rw [hv] at hv'; cases hv'
      exact ⟨G, .refl sh, dp_mono s0 dv⟩
    · exact ⟨us, .inl (rd_mono (s0.trans sh) c1), by rw [dpAll_len c2]; exact hi⟩
  | tuple es =>
    cases e2
    refine (PI.to (u := fun σ H Q => ∃ B G R ρ ds ρ', Ok X.K B G H R ρ σ ∧ f ρ = some (.tuple ds, ρ') ∧ ∀ G' H' R' J, Stp B G G' → Ok X.K B G' H' R' ρ' σ → Yields X.K G' J ds → ds.length ≤ sizeLine → Q J H') (L2.pi_tup h) fun σ H Q _ q => ?_).run pins s σ H R I ⟨B, G, Rr, ρ, _, _, o, e1, k⟩
    obtain ⟨B, G, Rr, ρ, ds, ρ', o, e0, k⟩ := q
    refine ⟨B, G, Rr, ρ, _, _, o, e0, fun G1 H1 R1 v s1 o1 d1 => ?_⟩
    obtain ⟨c, us, rfl, c1, c2⟩ := dp_tup d1
    have sq : SqT X.K H1 c us := seqT_mono o1.sub c1
    refine ⟨c, rfl, ⟨us, sq⟩, fun bd => k G1 H1 R1 _ s1 o1 ⟨fun i G H s0 sh hi => ?_, fun i G H x H' s0 sh y d hd => ?_, fun i G H s0 sh hi => ?_⟩ (by rw [← dpAll_len c2]; exact seqT_bd bd sq)⟩
    · obtain ⟨v, hv, _⟩ := dpAll_get c2 (List.getElem?_eq_getElem hi)
      exact ⟨us, v, seqT_mono (s0.trans sh) c1, hv⟩
    · obtain ⟨rfl, y⟩ := y
      have hv := y us (seqT_mono (s0.trans sh) c1)
      obtain ⟨v, hv', dv⟩ := dpAll_get c2 hd
      rw [hv] at hv'; cases hv'
      exact ⟨G, .refl sh, dp_mono s0 dv⟩
    · exact ⟨us, seqT_mono (s0.trans sh) c1, by rw [dpAll_len c2]; exact hi⟩
  | _ => cases e2
section
variable {X : Cx} {pos : Pos} {tg e a b : Expr} {f g : Ex}
theorem pi_rng1 {p : Pos} (hg : Gl X "range") (hm : X.mg "range" = none) (ha : PEd X a f) (hs : starEach [a] X.env = [(false, eval a X.env)] := by rfl) : PId X tg (.Call (.Name "range" p) [a] [] pos) (rngI1 f) :=
  PI.to (L2.pi_range1 hg hm (L2.pa_cons ha L2.pa_nil hs) hs) fun σ H Q _ q => by
    obtain ⟨B, G, R, ρ, ds, ρ', o, e0, k⟩ := q
    obtain ⟨p, e1, e2⟩ := opt_bind e0
    refine ⟨B, G, R, ρ, p.1, p.2, o, e1, fun G1 H1 R1 v s1 o1 d1 => ?_⟩
    have z : (sizeLine : Int) = 16777216 := by rw [sizeLine_eq]; rfl
    split at e2
    · rename_i j hj
      by_cases hl : -(2 ^ 62) ≤ j ∧ j ≤ (sizeLine : Int)
      · rw [if_pos hl] at e2
        cases e2
        rw [hj] at d1
        cases d1
        exact ⟨j, rfl, hl.1, by omega, fun _ => k G1 H1 R1 _ s1 o1 (yields_range 0 _) (by rw [intsF_len]; omega)⟩
      · rw [if_neg hl] at e2; cases e2
    · cases e2
theorem pi_rng2 {p : Pos} (hg : Gl X "range") (hm : X.mg "range" = none) (ha : PEd X a f) (hb : PEd X b g) (hs : starEach [a, b] X.env = [(false, eval a X.env), (false, eval b X.env)] := by rfl) (hs2 : starEach [b] X.env = [(false, eval b X.env)] := by rfl) (hs3 : starEach [a, b] X.env = (false, eval a X.env) :: starEach [b] X.env := by rfl) :
    PId X tg (.Call (.Name "range" p) [a, b] [] pos) (rngI2 f g) :=
  PI.to (L2.pi_range2 hg hm (L2.pa_cons ha (L2.pa_cons hb L2.pa_nil hs2) hs3) hs hs2) fun σ H Q _ q => by
    obtain ⟨B, G, R, ρ, ds, ρ', o, e0, k⟩ := q
    obtain ⟨p, e1, e2⟩ := opt_bind e0
    obtain ⟨r, e3, e4⟩ := opt_bind e2
    refine ⟨B, G, R, ρ, p.1, p.2, o, e1, fun G1 H1 R1 v s1 o1 d1 => ⟨B, G1, R1, p.2, r.1, r.2, o1, e3, fun G2 H2 R2 w s2 o2 d2 => ?_⟩⟩
    have z : (sizeLine : Int) = 16777216 := by rw [sizeLine_eq]; rfl
    split at e4
    · rename_i i j hi hj
      by_cases hl : -(2 ^ 62) ≤ i ∧ i < 2 ^ 62 ∧ -(2 ^ 62) ≤ j ∧ j < 2 ^ 62 ∧ j - i ≤ (sizeLine : Int)
      · rw [if_pos hl] at e4
        cases e4
        rw [hi] at d1
        rw [hj] at d2
        cases d1
        cases d2
        exact ⟨i, j, rfl, ⟨hl.1, hl.2.1, hl.2.2.1, hl.2.2.2.1⟩, fun _ => k G2 H2 R2 _ (s1.trans s2) o2 (yields_range i _) (by rw [intsF_len]; omega)⟩
      · rw [if_neg hl] at e4; cases e4
    · cases e4
end
/-! ### for -/
def loopS (g : Tg) (b : Sm) : List Dt → Rho → Option Out
  | [], ρ => some (.nx ρ)
  | d :: ds, ρ => (g d ρ).bind fun ρ1 => match b ρ1 with
    | some (.nx ρ2) => loopS g b ds ρ2
    | some (.ct ρ2) => loopS g b ds ρ2
    | some (.bk ρ2) => some (.nx ρ2)
    | o => o
def forS (it : Exs) (g : Tg) (b : Sm) : Sm := fun ρ => (it ρ).bind fun p => loopS g b p.1 p.2
/-- the rest of the items from a place on -/
theorem drop_cons {α : Type} {l : List α} {i : Nat} {d : α} (h : l[i]? = some d) : l.drop i = d :: l.drop (i + 1) := by
  obtain ⟨h1, h2⟩ := List.getElem?_eq_some_iff.mp h
  rw [List.drop_eq_getElem_cons h1, h2]
section
variable {X : Cx} {pos : Pos} {tg e : Expr} {body : List Stmt}
theorem ps_for {it : Exs} {g : Tg} {ws : List Nat} {b : Sm} (hp : PassesOwn (model X.prog X.w) X.A X.env X.xe) (hc : X.calm = true) (hi : PId X tg e it) (hg : PGd X tg g ws) (hb : PSsd X body b)
    (hs : ∀ x, foldedSetIterable e X.env x = pure x := by intro _; rfl) : PSd X (.For tg e body [] pos) (forS it g b) := PS.to (L2.ps_for hp hc hi hg hb hs) fun D σ H _ q => by
  obtain ⟨B, G, R, ρ, o, ok, e0, k⟩ := q
  obtain ⟨p, e1, e2⟩ := opt_bind e0
  refine ⟨B, G, R, ρ, p.1, p.2, ok, e1, fun G1 H1 R1 J s1 o1 Y _ => ?_⟩
  have kb : OutOk X.K B G1 (bndE D) o := (k.after s1).bnd
  refine ⟨fun i m σ H => m = p.1.length - i ∧ i ≤ p.1.length ∧ ∃ G2 R2 ρ2, Stp B G1 G2 ∧ Ok X.K B G2 H R2 ρ2 σ ∧ loopS g b (p.1.drop i) ρ2 = some o, ⟨p.1.length, by simp, Nat.zero_le _, G1, R1, p.2, .refl, o1, e2⟩, ?_⟩
  rintro i m σ2 H2 ⟨rfl, hle, G2, R2, ρ2, s2, o2, e3⟩
  by_cases hlt : i < p.1.length
  · have hd := List.getElem?_eq_getElem hlt
    rw [drop_cons hd] at e3
    obtain ⟨ρ3, e4, e5⟩ := opt_bind e3
    refine .inr ⟨Y.go i G2 H2 s2.g o2.sub hlt, fun σ' H' => i + 1 ≤ p.1.length ∧ ∃ G2 R2 ρ2, Stp B G1 G2 ∧ Ok X.K B G2 H' R2 ρ2 σ' ∧ loopS g b (p.1.drop (i + 1)) ρ2 = some o, fun σ' H' ⟨h1, h2⟩ => ⟨p.1.length - (i + 1), by omega, rfl, h1, h2⟩, fun x H3 y => ?_⟩
    obtain ⟨G3, x3, d3⟩ := Y.yld i G2 H2 x H3 s2.g o2.sub y _ hd
    refine ⟨B, G3, R2, ρ2, _, ρ3, o2.ext x3, d3, e4, fun G4 H4 R4 σ4 s4 o4 _ _ => ?_⟩
    have st : Stp B G1 G4 := (s2.trans (o2.stp x3)).trans s4
    cases e6 : b ρ3 with
    | none => rw [e6] at e5; cases e5
    | some ob =>
      rw [e6] at e5
      refine ⟨B, G4, R4, ρ3, ob, o4, e6, ?_⟩
      cases ob with
      | nx ρ5 => exact fun G5 H5 R5 σ5 s5 o5 => ⟨hlt, G5, R5, ρ5, st.trans s5, o5, e5⟩
      | ct ρ5 => exact fun G5 H5 R5 σ5 s5 o5 => ⟨hlt, G5, R5, ρ5, st.trans s5, o5, e5⟩
      | bk ρ5 => cases e5; exact fun G5 H5 R5 σ5 s5 o5 => kb G5 H5 R5 σ5 (st.trans s5) o5
      | rt d ρ5 => cases e5; exact fun G5 H5 R5 σ5 v s5 o5 => kb G5 H5 R5 σ5 v (st.trans s5) o5
      | ro d ρ5 => cases e5; exact fun G5 H5 R5 σ5 v s5 o5 => kb G5 H5 R5 σ5 v (st.trans s5) o5
  · have hn : p.1.drop i = [] := List.drop_eq_nil_iff.mpr (by omega)
    rw [hn] at e3
    cases e3
    exact .inl ⟨Y.stop i G2 H2 s2.g o2.sub (by omega), kb G2 H2 R2 σ2 s2 o2⟩
/-! ### while, by fuel -/
def whileF (c : Te) (b : Sm) : Nat → Rho → Option Out
  | 0, _ => none
  | n + 1, ρ => (c ρ).bind fun p => if p.1 = true then match b p.2 with
      | some (.nx ρ2) => whileF c b n ρ2
      | some (.ct ρ2) => whileF c b n ρ2
      | some (.bk ρ2) => some (.nx ρ2)
      | o => o
    else some (.nx p.2)
def whileS (n : Nat) (c : Te) (b : Sm) : Sm := fun ρ => whileF c b n ρ
theorem ps_while {n : Nat} {c : Te} {b : Sm} (hp : PassesOwn (model X.prog X.w) X.A X.env X.xe) (hc : PTd X e c) (hb : PSsd X body b) : PSd X (.While e body [] pos) (whileS n c b) := PS.to (L2.ps_while hp hc hb) fun D σ H _ q => by
  obtain ⟨B, G, R, ρ, o, ok, e0, k⟩ := q
  have kb : OutOk X.K B G (bndE D) o := k.bnd
  refine ⟨fun m σ H => ∃ G2 R2 ρ2, Stp B G G2 ∧ Ok X.K B G2 H R2 ρ2 σ ∧ whileF c b m ρ2 = some o, ⟨n, G, R, ρ, .refl, ok, e0⟩, ?_⟩
  rintro m σ2 H2 ⟨G2, R2, ρ2, s2, o2, e3⟩
  cases m with
  | zero => cases e3
  | succ m =>
    obtain ⟨p, e4, e5⟩ := opt_bind e3
    refine ⟨B, G2, R2, ρ2, p.1, p.2, o2, e4, fun G3 H3 R3 s3 o3 => ?_⟩
    obtain ⟨p1, p2⟩ := p
    have st := s2.trans s3
    cases p1 with
    | false =>
      cases e5
      exact kb G3 H3 R3 σ2 st o3
    | true =>
      rw [if_pos rfl] at e5 ⊢
      refine ⟨fun σ' H' => ∃ G2 R2 ρ2, Stp B G G2 ∧ Ok X.K B G2 H' R2 ρ2 σ' ∧ whileF c b m ρ2 = some o, fun σ' H' h => ⟨m, Nat.lt_succ_self m, h⟩, ?_⟩
      cases e6 : b p2 with
      | none => rw [e6] at e5; cases e5
      | some ob =>
        rw [e6] at e5
        refine ⟨B, G3, R3, p2, ob, o3, e6, ?_⟩
        cases ob with
        | nx ρ5 => exact fun G5 H5 R5 σ5 s5 o5 => ⟨G5, R5, ρ5, st.trans s5, o5, e5⟩
        | ct ρ5 => exact fun G5 H5 R5 σ5 s5 o5 => ⟨G5, R5, ρ5, st.trans s5, o5, e5⟩
        | bk ρ5 => cases e5; exact fun G5 H5 R5 σ5 s5 o5 => kb G5 H5 R5 σ5 (st.trans s5) o5
        | rt d ρ5 => cases e5; exact fun G5 H5 R5 σ5 v s5 o5 => kb G5 H5 R5 σ5 v (st.trans s5) o5
        | ro d ρ5 => cases e5; exact fun G5 H5 R5 σ5 v s5 o5 => kb G5 H5 R5 σ5 v (st.trans s5) o5
end
/-! ### comprehensions -/
def wipeR (ρ : Rho) : List Nat → Rho
  | [] => ρ
  | i :: r => (wipeR ρ r).set i .un
/-- behind the block: the block's own names as they were -/
def keepSl : Option Slot → Slot
  | some (.dat d) => .dat d
  | _ => .un
def backR (ρ ρ' : Rho) : List Nat → Rho
  | [] => ρ'
  | i :: r => (backR ρ ρ' r).set i (keepSl ρ[i]?)
def lcF (g : Tg) (t : Te) (el : Ex) (vs : List Nat) : List Dt → Rho → Option (List Dt × Rho)
  | [], ρ => some ([], ρ)
  | d :: ds, ρ => (g d ρ).bind fun ρ1 => (t ρ1).bind fun p => if p.1 = true then (el p.2).bind fun q => (lcF g t el vs ds (wipeR q.2 vs)).map fun r => (q.1 :: r.1, r.2)
      else lcF g t el vs ds (wipeR p.2 vs)
def lcO (it : Exs) (g : Tg) (t : Te) (el : Ex) (vs : List Nat) : Exs := fun ρ => (it ρ).bind fun p => (lcF g t el vs p.1 (wipeR p.2 vs)).map fun r => (r.1, backR p.2 r.2 vs)
theorem wipe_get {σ : Sto} {j : Nat} : ∀ {vs : List Nat}, (wipe σ vs)[j]? = if j ∈ vs then (σ[j]?).map (fun _ => none) else σ[j]?
  | [] => by simp [wipe]
  | i :: r => by
    show ((wipe σ r).set i none)[j]? = _
    by_cases e : j = i
    · subst e
      rw [List.getElem?_set]
      simp only [if_true, List.mem_cons, true_or]
      rw [wipe_length]
      by_cases hl : j < σ.length
      · rw [if_pos hl, List.getElem?_eq_getElem hl]; rfl
      · rw [if_neg hl, List.getElem?_eq_none (by omega)]; rfl
    · rw [List.getElem?_set_ne (Ne.symm e), wipe_get]
      simp only [List.mem_cons, e, false_or]
theorem wipe_same {σ σ2 : Sto} {vs ws : List Nat} (hw : ∀ j ∈ ws, j ∈ vs) (hl : σ2.length = (wipe σ vs).length) (h : ∀ j : Nat, j ∉ ws → σ2[j]? = (wipe σ vs)[j]?) : wipe σ2 vs = wipe σ vs := by
  apply List.ext_getElem?
  intro j
  rw [wipe_get, wipe_get]
  by_cases e : j ∈ vs
  · rw [if_pos e, if_pos e]
    rw [wipe_length] at hl
    by_cases hj : j < σ.length
    · rw [List.getElem?_eq_getElem hj, List.getElem?_eq_getElem (by omega)]; rfl
    · rw [List.getElem?_eq_none (by omega), List.getElem?_eq_none (by omega)]
  · rw [if_neg e, if_neg e, h j fun z => e (hw j z), wipe_get, if_neg e]
theorem Ok.wipe {K : PySem.W.Frag} {B : Bx} {G H : Hp} {R : Nat → List Addr} {ρ : Rho} {σ : Sto} (o : Ok K B G H R ρ σ) : ∀ vs : List Nat, ∃ R', Ok K B G H R' (wipeR ρ vs) (L2.wipe σ vs)
  | [] => ⟨R, o⟩
  | i :: r => by
    obtain ⟨R', o'⟩ := Ok.wipe o r
    exact ⟨_, o'.setUn (v := none)⟩
theorem wipeR_get {ρ : Rho} {j : Nat} : ∀ {vs : List Nat}, (wipeR ρ vs)[j]? = if j ∈ vs then (ρ[j]?).map (fun _ => .un) else ρ[j]?
  | [] => by simp [wipeR]
  | i :: r => by
    show ((wipeR ρ r).set i .un)[j]? = _
    have hlen : (wipeR ρ r).length = ρ.length := by
      clear wipeR_get
      induction r with
      | nil => rfl
      | cons a s ih => show ((wipeR ρ s).set a .un).length = _; rw [List.length_set, ih]
    by_cases e : j = i
    · subst e
      rw [List.getElem?_set]
      simp only [if_true, List.mem_cons, true_or]
      rw [hlen]
      by_cases hl : j < ρ.length
      · rw [if_pos hl, List.getElem?_eq_getElem hl]; rfl
      · rw [if_neg hl, List.getElem?_eq_none (by omega)]; rfl
    · rw [List.getElem?_set_ne (Ne.symm e), wipeR_get]
      simp only [List.mem_cons, e, false_or]
theorem backR_len {ρ ρ' : Rho} : ∀ vs : List Nat, (backR ρ ρ' vs).length = ρ'.length
  | [] => rfl
  | i :: r => by show ((backR ρ ρ' r).set i _).length = _; rw [List.length_set, backR_len r]
theorem backR_get {ρ ρ' : Rho} {j : Nat} : ∀ {vs : List Nat}, (backR ρ ρ' vs)[j]? = if j ∈ vs then (ρ'[j]?).map (fun _ => keepSl ρ[j]?) else ρ'[j]?
  | [] => by simp [backR]
  | i :: r => by
    show ((backR ρ ρ' r).set i (keepSl ρ[i]?))[j]? = _
    by_cases e : j = i
    · subst e
      rw [List.getElem?_set]
      simp only [if_true, List.mem_cons, true_or]
      rw [backR_len]
      by_cases hl : j < ρ'.length
      · rw [if_pos hl, List.getElem?_eq_getElem hl]; rfl
      · rw [if_neg hl, (List.getElem?_eq_none (by omega) : ρ'[j]? = none)]; rfl
    · rw [List.getElem?_set_ne (Ne.symm e), backR_get]
      simp only [List.mem_cons, e, false_or]
/-- while a list at D is made -/
def Bx.acc (B : Bx) (D : Addr) (acc : List V) : Bx := ⟨upd B.fr D (.lst acc), fun a => B.lock a ∨ a = D, B.pat⟩
section
variable {K : PySem.W.Frag} {B : Bx} {G H : Hp} {R : Nat → List Addr} {ρ : Rho} {σ : Sto} {D : Addr} {acc acc' : List V}
theorem SlOk.lock {B' : Bx} {i : Nat} {sl : Slot} {v : Option V} {r : List Addr} (h : SlOk K B G H i sl v r) (hp : B'.pat = B.pat) (hl : ∀ a ∈ r, ¬ B.lock a → ¬ B'.lock a) : SlOk K B' G H i sl v r := by
  cases sl with
  | un => exact h
  | dat d => exact h
  | own ds => obtain ⟨p, xs, h1, h2, h3, h4, h5, h6⟩ := h; exact ⟨p, xs, h1, h2, h3, h4, hl p (by rw [h1]; simp) h5, h6⟩
  | par ds => obtain ⟨xs, h1, h2, h3, h4, h6⟩ := h; exact ⟨xs, by rw [hp]; exact h1, by rw [hp]; exact h2, by rw [hp]; exact h3, by rw [hp]; exact h4, h6⟩
theorem SlOk.at_ {i : Nat} {sl : Slot} {v : Option V} {r : List Addr} (h : SlOk K B G H i sl v r) : ∀ a ∈ r, H a ≠ none := fun a ha => by
  cases sl with
  | un => have h : r = [] := h; rw [h] at ha; cases ha
  | dat d => obtain ⟨h, _⟩ := h; rw [h] at ha; cases ha
  | own ds =>
    obtain ⟨p, xs, h1, h2, h3, _⟩ := h
    rw [h1] at ha
    have : a = p := by simpa using ha
    rw [this, h3]; simp
  | par ds =>
    obtain ⟨xs, h1, h2, h3, _⟩ := h
    rw [h1] at ha
    have : a = B.pat i := by simpa using ha
    rw [this, h3]; simp
theorem Ok.at_ (o : Ok K B G H R ρ σ) : ∀ i a, a ∈ R i → H a ≠ none := fun i a ha => by
  by_cases hi : i < ρ.length
  · exact (o.slot i _ _ (List.getElem?_eq_getElem hi) (List.getElem?_eq_getElem (by rw [← o.len]; exact hi))).at_ a ha
  · rw [o.rO i (by omega)] at ha; cases ha
/-- the list is laid -/
theorem Ok.acc0 (o : Ok K B G H R ρ σ) (hD : H D = none) : Ok K (B.acc D []) G (upd H D (.lst [])) R ρ σ := by
  have x := Ext.newH (G := G) (o := .lst []) o.sub hD
  have ox := o.ext x
  refine ⟨ox.sub, fun a u q => ?_, fun a l => ?_, o.rD, fun i a ha => ?_, o.rO, o.len, fun i sl v h1 h2 => (ox.slot i sl v h1 h2).lock rfl fun a ha h l => ?_⟩
  · by_cases e : a = D
    · subst e
      have q : upd B.fr a (.lst []) a = some u := q
      rw [upd_same] at q ⊢; exact q
    · have q : upd B.fr D (.lst []) a = some u := q
      rw [upd_ne e] at q ⊢; exact o.kept a u q
  · rcases l with l | l
    · exact ox.grow a l
    · rw [l, upd_same]; simp
  · have ne : a ≠ D := fun z => o.at_ i a ha (z ▸ hD)
    show upd B.fr D (.lst []) a = none
    rw [upd_ne ne]; exact o.rF i a ha
  · have ne : a ≠ D := fun z => o.at_ i a ha (z ▸ hD)
    rcases l with l | l
    · exact h l
    · exact ne l
/-- the list grows -/
theorem Ok.accN (o : Ok K (B.acc D acc) G H R ρ σ) (hG : G D = none) : Ok K (B.acc D acc') G (upd H D (.lst acc')) R ρ σ := by
  have nR : ∀ i a, a ∈ R i → a ≠ D := fun i a ha z => by
    have q : upd B.fr D (.lst acc) a = none := o.rF i a ha
    rw [z, upd_same] at q; cases q
  refine ⟨fun a u q => by rw [upd_ne (fun z => by rw [z, hG] at q; cases q)]; exact o.sub a u q, fun a u q => ?_, fun a l => ?_, o.rD, fun i a ha => ?_, o.rO, o.len, fun i sl v h1 h2 => ?_⟩
  · by_cases e : a = D
    · subst e
      have q : upd B.fr a (.lst acc') a = some u := q
      rw [upd_same] at q ⊢; exact q
    · have q : upd B.fr D (.lst acc') a = some u := q
      rw [upd_ne e] at q ⊢
      refine o.kept a u ?_
      show upd B.fr D (.lst acc) a = some u
      rw [upd_ne e]; exact q
  · by_cases e : a = D
    · rw [e, upd_same]; simp
    · rw [upd_ne e]; exact o.grow a l
  · have q : upd B.fr D (.lst acc) a = none := o.rF i a ha
    show upd B.fr D (.lst acc') a = none
    rw [upd_ne (nR i a ha)] at q ⊢; exact q
  · have q := o.slot i sl v h1 h2
    cases sl with
    | un => exact q
    | dat d => exact q
    | own es =>
      obtain ⟨p', xs', a1, a2, a3, a4, a5, a6⟩ := q
      exact ⟨p', xs', a1, a2, by rw [upd_ne (nR i p' (by rw [a1]; simp))]; exact a3, a4, a5, a6⟩
    | par es =>
      obtain ⟨xs', a1, a2, a3, a4, a6⟩ := q
      exact ⟨xs', a1, a2, (show upd H D (.lst acc') (B.pat i) = some (.lst xs') from (upd_ne (nR i (B.pat i) (by rw [a1]; exact List.mem_singleton.mpr rfl))).trans a3), a4, a6⟩
theorem Stp.inA {G' : Hp} (s : Stp (B.acc D acc) G G') : Stp B G G' := ⟨s.g, fun a q => (s.n a q).imp id fun h l => h (.inl l)⟩
theorem Stp.inD {G' : Hp} (s : Stp (B.acc D acc) G G') (h : G D = none) : G' D = none := by
  cases e : G' D with
  | none => rfl
  | some o =>
    rcases s.n D (by rw [e]; simp) with z | z
    · exact absurd h z
    · exact absurd (.inr rfl) z
/-- the block is left -/
theorem Ok.leave {G0 H0 : Hp} {R0 : Nat → List Addr} {ρ0 : Rho} {vs : List Nat} (o0 : Ok K B G0 H0 R0 ρ0 σ) (h0 : B.fr D = none) (g : Sub G0 G) (o : Ok K (B.acc D acc) G H R ρ (L2.wipe σ vs)) (hun : ∀ j ∈ vs, ∀ sl, ρ[j]? = some sl → sl = .un) : Ok K B G H R (backR ρ0 ρ vs) σ := by
  refine ⟨o.sub, fun a u q => ?_, fun a l => o.grow a (.inl l), o.rD, fun i a ha => ?_, fun i hi => o.rO i (by rwa [backR_len] at hi), by rw [backR_len, o.len, wipe_length], fun i sl v h1 h2 => ?_⟩
  · refine o.kept a u ?_
    show upd B.fr D (.lst acc) a = some u
    by_cases e : a = D
    · rw [e, h0] at q; cases q
    · rw [upd_ne e]; exact q
  · have q : upd B.fr D (.lst acc) a = none := o.rF i a ha
    by_cases e : a = D
    · rw [e, upd_same] at q; cases q
    · rw [upd_ne e] at q; exact q
  · rw [backR_get] at h1
    by_cases e : i ∈ vs
    · rw [if_pos e] at h1
      obtain ⟨s1, h3, h4⟩ := opt_map h1
      have z := hun i e _ h3
      subst z
      have hv : (L2.wipe σ vs)[i]? = some none := by rw [wipe_get, if_pos e, h2]; rfl
      have hR : R i = [] := o.slot i _ _ h3 hv
      rw [hR, ← h4]
      unfold keepSl
      split
      · rename_i d hd
        obtain ⟨_, x, e1, d1⟩ := o0.slot i _ _ hd h2
        exact ⟨rfl, x, e1, dp_mono g d1⟩
      · rfl
    · rw [if_neg e] at h1
      exact (o.slot i _ _ h1 (by rw [wipe_get, if_neg e]; exact h2)).lock rfl fun a _ h l => h (.inl l)
end
def PTsd (X : Cx) (ifs : List Expr) (t : Te) : Prop := PTs X ifs (tT X.K t)
def yesT : Te := fun ρ => some (true, ρ)
theorem pts_nil {X : Cx} : PTsd X [] yesT := PTs.to L2.pts_nil fun σ H Q _ q => by
  obtain ⟨B, G, R, ρ, d, ρ', o, e, k⟩ := q
  cases e
  exact fun _ => k G H R .refl o
theorem pts_one {X : Cx} {c : Expr} {t : Te} (h : PTd X c t) : PTsd X [c] t := L2.pts_one h
/-- the block's reading -/
theorem lc_read {K : PySem.W.Frag} {it : Exs} {g : Tg} {ws vs : List Nat} {t : Te} {el : Ex} {σ : Sto} {H : Hp} {Q : VK} (hw : ∀ j ∈ ws, j ∈ vs) (q : tO K (lcO it g t el vs) σ H Q) : tLc (tI K it) (tG K g ws) (tT K t) (tD K el) vs σ H Q := by
  obtain ⟨B, G, R, ρ, out, ρ', o, e0, k⟩ := q
  obtain ⟨p, e1, e2⟩ := opt_bind e0
  obtain ⟨r, e3, e4⟩ := opt_map e2
  cases e4
  refine ⟨B, G, R, ρ, p.1, p.2, o, e1, fun G1 H1 R1 J s1 o1 Y hlen D hD => ?_⟩
  obtain ⟨Rw, ow⟩ := o1.wipe vs
  have gD : G1 D = none := o1.sub.no hD
  refine ⟨fun i m H => m = p.1.length - i ∧ i ≤ p.1.length ∧ ∃ G2 R2 ρ2 accV acc rest, Stp B G1 G2 ∧ G2 D = none ∧ Ok K (B.acc D accV) G2 H R2 ρ2 (L2.wipe σ vs) ∧ (∀ j ∈ vs, ∀ sl, ρ2[j]? = some sl → sl = .un) ∧ H D = some (.lst accV) ∧ DqAll K G2 accV acc ∧ acc.length ≤ i ∧
      lcF g t el vs (p.1.drop i) ρ2 = some (rest, r.2) ∧ acc ++ rest = r.1, ⟨p.1.length, by simp, Nat.zero_le _, G1, Rw, _, [], [], r.1, .refl, gD, ow.acc0 hD, fun j hj sl h => ?_, upd_same, .nil, Nat.zero_le _, e3, rfl⟩, ?_⟩
  · rw [wipeR_get, if_pos hj] at h
    obtain ⟨_, _, z⟩ := opt_map h
    exact z.symm
  rintro i m H2 ⟨rfl, hle, G2, R2, ρ2, accV, acc, rest, s2, g2, o2, hun, hH, dA, hal, e5, e6⟩
  by_cases hlt : i < p.1.length
  · have hd := List.getElem?_eq_getElem hlt
    rw [drop_cons hd] at e5
    obtain ⟨ρ3, e7, e8⟩ := opt_bind e5
    obtain ⟨b, e9, e10⟩ := opt_bind e8
    refine .inr ⟨Y.go i G2 H2 s2.g o2.sub hlt, fun H' => i + 1 ≤ p.1.length ∧ ∃ G2 R2 ρ2 accV acc rest, Stp B G1 G2 ∧ G2 D = none ∧ Ok K (B.acc D accV) G2 H' R2 ρ2 (L2.wipe σ vs) ∧ (∀ j ∈ vs, ∀ sl, ρ2[j]? = some sl → sl = .un) ∧ H' D = some (.lst accV) ∧ DqAll K G2 accV acc ∧ acc.length ≤ i + 1 ∧
      lcF g t el vs (p.1.drop (i + 1)) ρ2 = some (rest, r.2) ∧ acc ++ rest = r.1, fun H' ⟨h1, h2⟩ => ⟨p.1.length - (i + 1), by omega, rfl, h1, h2⟩, fun x H3 y => ?_⟩
    obtain ⟨G3, x3, d3⟩ := Y.yld i G2 H2 x H3 s2.g o2.sub y _ hd
    have st3 := (o2.stp x3)
    refine ⟨_, G3, R2, ρ2, _, ρ3, o2.ext x3, d3, e7, fun G4 H4 R4 σ4 s4 o4 l4 k4 => ⟨wipe_same hw l4 k4, ?_⟩⟩
    have hws : L2.wipe σ4 vs = L2.wipe σ vs := wipe_same hw l4 k4
    refine ⟨_, G4, R4, ρ3, b.1, b.2, o4, e9, fun G5 H5 R5 s5 o5 => ?_⟩
    have st5 := (st3.trans s4).trans s5
    obtain ⟨b1, b2⟩ := b
    cases b1 with
    | false =>
      rw [if_neg Bool.false_ne_true] at e10
      refine iteF ?_
      obtain ⟨R6, o6⟩ := o5.wipe vs
      rw [hws] at o6
      exact ⟨hlt, G5, R6, _, accV, acc, rest, s2.trans st5.inA, st5.inD g2, o6, fun j hj sl h => by
        rw [wipeR_get, if_pos hj] at h
        obtain ⟨_, _, z⟩ := opt_map h
        exact z.symm, o6.kept D _ upd_same, dpAll_mono st5.g dA, by omega, e10, e6⟩
    | true =>
      rw [if_pos rfl] at e10
      refine iteT ?_
      obtain ⟨y, e11, e12⟩ := opt_bind e10
      obtain ⟨rr, e13, e14⟩ := opt_map e12
      obtain ⟨er1, er2⟩ := Prod.mk.inj e14
      subst er1
      refine ⟨_, G5, R5, b2, y.1, y.2, o5, e11, fun G6 H6 R6 v s6 o6 d6 => ?_⟩
      have st6 := st5.trans s6
      have gD6 := st6.inD g2
      refine ⟨accV, o6.kept D _ upd_same, by rw [dpAll_len dA]; omega, hlt, ?_⟩
      obtain ⟨R7, o7⟩ := o6.wipe vs
      rw [hws] at o7
      exact ⟨G6, R7, _, accV ++ [v], acc ++ [y.1], rr.1, s2.trans st6.inA, gD6, o7.accN gD6, fun j hj sl h => by
        rw [wipeR_get, if_pos hj] at h
        obtain ⟨_, _, z⟩ := opt_map h
        exact z.symm, upd_same, dpAll_app (dpAll_mono st6.g dA) (.cons d6 .nil), by rw [List.length_append, List.length_singleton]; omega, (by rw [← er2]; exact e13), by rw [List.append_assoc]; exact e6⟩
  · have hn : p.1.drop i = [] := List.drop_eq_nil_iff.mpr (by omega)
    rw [hn] at e5
    cases e5
    rw [List.append_nil] at e6
    refine .inl ⟨Y.stop i G2 H2 s2.g o2.sub (by omega), k G2 H2 R2 D (s1.trans s2) (o1.leave (o1.kept.no hD) s2.g o2 hun) ?_⟩
    refine ⟨⟨accV, hH, by rw [← e6]; exact dA⟩, g2, fun l => o1.grow D l hD, o1.kept.no hD, fun i hi => ?_⟩
    have z : upd B.fr D (.lst accV) D = none := o2.rF i D hi
    rw [upd_same] at z; cases z
section
variable {X : Cx} {pos : Pos} {elt tg iter : Expr} {ifs : List Expr} {scope : Scope} {own : List (Str × Nat)} {it : Exs} {g : Tg} {ws : List Nat} {t : Te} {el : Ex}
theorem po_lc {vs : List Nat} (hc : X.calm = true) (hN : X.N.Nodup) (hi : PId X tg iter it) (ok : BlkOk X.N X.env.scope scope own)
    (hg : ∀ (s : Shared) (H : Hp) (C : Addr) (cl : List (Str × Addr)) (fp : List Addr), PGd (X.blk s H scope (compEnvC scope cl C X.env) fp) tg g ws) (ht : ∀ (s : Shared) (H : Hp) (C : Addr) (cl : List (Str × Addr)) (fp : List Addr), PTsd (X.blk s H scope (compEnvC scope cl C X.env) fp) ifs t)
    (he : ∀ (s : Shared) (H : Hp) (C : Addr) (cl : List (Str × Addr)) (fp : List Addr), PEd (X.blk s H scope (compEnvC scope cl C X.env) fp) elt el) (hw : ∀ j ∈ ws, j ∈ own.map (·.2)) (hs : ∀ x, foldedSetIterable iter X.env x = pure x := by intro _; rfl) (hv : own.map (·.2) = vs := by rfl) :
    PEo X (.ListComp elt [⟨tg, iter, ifs, 0⟩] scope pos) (lcO it g t el vs) := by
  subst hv
  exact PE.to (pe_lc (g := tG X.K g ws) (tt := tT X.K t) (te := tD X.K el) hc hN hi ok hg ht he hs) fun σ H Q _ q => lc_read hw (by
      obtain ⟨B, G, R, ρ, out, ρ', o, e0, k⟩ := q
      exact ⟨B, G, R, ρ, out, ρ', o, e0, fun G' H' R' p s o' f _ => k G' H' R' p s o' f⟩)
theorem ps_setLcO {i : Nat} {vs : List Nat} {y : Str} {py spos : Pos} (hc : X.calm = true) (hN : X.N.Nodup) (hy : X.N[i]? = some y) (hyl : X.env.scope.names.lookup y = some .local)
    (hsw : swapsWith (.ListComp elt [⟨tg, iter, ifs, 0⟩] scope pos) (some (.Name y py)) spos.line X.env = pure true) (hi : PId X tg iter it) (ok : BlkOk X.N X.env.scope scope own)
    (hg : ∀ (s : Shared) (H : Hp) (C : Addr) (cl : List (Str × Addr)) (fp : List Addr), PGd (X.blk s H scope (compEnvC scope cl C X.env) fp) tg g ws) (ht : ∀ (s : Shared) (H : Hp) (C : Addr) (cl : List (Str × Addr)) (fp : List Addr), PTsd (X.blk s H scope (compEnvC scope cl C X.env) fp) ifs t)
    (he : ∀ (s : Shared) (H : Hp) (C : Addr) (cl : List (Str × Addr)) (fp : List Addr), PEd (X.blk s H scope (compEnvC scope cl C X.env) fp) elt el) (hw : ∀ j ∈ ws, j ∈ own.map (·.2)) (hs : ∀ x, foldedSetIterable iter X.env x = pure x := by intro _; rfl) (hv : own.map (·.2) = vs := by rfl) :
    PSd X (.Assign [.Name y py] (.ListComp elt [⟨tg, iter, ifs, 0⟩] scope pos) spos) (asgO i (lcO it g t el vs)) := by
  subst hv
  exact PS.to (ps_setLc (g := tG X.K g ws) (tt := tT X.K t) (te := tD X.K el) hc hN hy hyl hsw hi ok hg ht he hs) fun D σ H _ q => lc_read hw (by
      obtain ⟨B, G, R, ρ, o, ok, e0, k⟩ := q
      obtain ⟨p, e1, e2⟩ := opt_bind e0
      by_cases hi : i < p.2.length
      · rw [if_pos hi] at e2
        cases e2
        exact ⟨B, G, R, ρ, p.1, p.2, ok, e1, fun G' H' R' v s' o' d' _ => k G' H' _ _ s' (o'.setOwn d' hi)⟩
      · rw [if_neg hi] at e2; cases e2)
theorem ps_setLcD {i : Nat} {vs : List Nat} {y : Str} {py spos : Pos} (hc : X.calm = true) (hN : X.N.Nodup) (hy : X.N[i]? = some y) (hyl : X.env.scope.names.lookup y = some .local)
    (hsw : swapsWith (.ListComp elt [⟨tg, iter, ifs, 0⟩] scope pos) (some (.Name y py)) spos.line X.env = pure true) (hi : PId X tg iter it) (ok : BlkOk X.N X.env.scope scope own)
    (hg : ∀ (s : Shared) (H : Hp) (C : Addr) (cl : List (Str × Addr)) (fp : List Addr), PGd (X.blk s H scope (compEnvC scope cl C X.env) fp) tg g ws) (ht : ∀ (s : Shared) (H : Hp) (C : Addr) (cl : List (Str × Addr)) (fp : List Addr), PTsd (X.blk s H scope (compEnvC scope cl C X.env) fp) ifs t)
    (he : ∀ (s : Shared) (H : Hp) (C : Addr) (cl : List (Str × Addr)) (fp : List Addr), PEd (X.blk s H scope (compEnvC scope cl C X.env) fp) elt el) (hw : ∀ j ∈ ws, j ∈ own.map (·.2)) (hs : ∀ x, foldedSetIterable iter X.env x = pure x := by intro _; rfl) (hv : own.map (·.2) = vs := by rfl) :
    PSd X (.Assign [.Name y py] (.ListComp elt [⟨tg, iter, ifs, 0⟩] scope pos) spos) (asgS i (lstE (lcO it g t el vs))) := by
  subst hv
  exact PS.to (ps_setLc (g := tG X.K g ws) (tt := tT X.K t) (te := tD X.K el) hc hN hy hyl hsw hi ok hg ht he hs) fun D σ H _ q => lc_read hw (by
      obtain ⟨B, G, R, ρ, o, ok, e0, k⟩ := q
      obtain ⟨p, e1, e2⟩ := opt_map e0
      obtain ⟨r, e3, e4⟩ := opt_map e1
      cases e4; cases e2
      refine ⟨B, G, R, ρ, r.1, r.2, ok, e3, fun G' H' R' v s' o' fr => ?_⟩
      obtain ⟨xs, s2, o2, d2⟩ := fresh_freeze o' fr
      exact fun _ => k _ H' _ _ (s'.trans s2) (o2.setDat d2))
end
end G

set_option maxRecDepth 100000
set_option maxHeartbeats 4000000
namespace G
open PySem PySem.Spec PyProof.Rows L2
/-! ### defs by what they make of their arguments -/
abbrev Mt := List Slot → Option (Dt × List Slot)
abbrev MtO := List Slot → Option (List Dt × List Slot)
def spD (K : PySem.W.Frag) (n : Nat) (M : Mt) : Sp := fun vs H Q _ => ∃ B G R args d args', vs.length = n ∧ Ok K B G H R args (vs.map some) ∧ M args = some (d, args') ∧ ∀ G' H' R' v, Stp B G G' → Ok K B G' H' R' args' (vs.map some) → Dq K G' v d → Q v H'
def spO (K : PySem.W.Frag) (n : Nat) (M : MtO) : Sp := fun vs H Q _ => ∃ B G R args d args', vs.length = n ∧ Ok K B G H R args (vs.map some) ∧ M args = some (d, args') ∧ ∀ G' H' R' p, Stp B G G' → Ok K B G' H' R' args' (vs.map some) → Fresh K B G' H' R' p d → Q (.ref p) H'
def outA : List Slot → Rho → Option (List Slot)
  | [], _ => some []
  | .dat d :: as, _ :: ρ => (outA as ρ).map fun r => .dat d :: r
  | .par _ :: as, .par ds :: ρ => (outA as ρ).map fun r => .par ds :: r
  | _, _ => none
def mDef (n : Nat) (b : Sm) : Mt := fun args => match b (args ++ List.replicate (n - args.length) .un) with
  | some (.rt d ρ) => (outA args ρ).map fun r => (d, r)
  | some (.ro ds ρ) => (outA args ρ).map fun r => (.list ds, r)
  | some (.nx ρ) => (outA args ρ).map fun r => (.none, r)
  | _ => none
def mDefO (n : Nat) (b : Sm) : MtO := fun args => match b (args ++ List.replicate (n - args.length) .un) with
  | some (.ro ds ρ) => (outA args ρ).map fun r => (ds, r)
  | _ => none
section
variable {K : PySem.W.Frag} {B : Bx} {G G' H H' : Hp} {R R' : Nat → List Addr} {ρ : Rho} {σ : Sto}
theorem get_app {α : Type} {l r : List α} {i : Nat} {x : α} (h : l[i]? = some x) : (l ++ r)[i]? = some x := by
  rw [List.getElem?_append_left (List.getElem?_eq_some_iff.mp h).1]; exact h
theorem Ok.start {args : List Slot} {vs : List V} {N : List Str} (o : Ok K B G H R args (vs.map some)) : Ok K B G H R (args ++ List.replicate (N.length - args.length) .un) (start N vs) := by
  have el : args.length = vs.length := by rw [o.len, List.length_map]
  refine ⟨o.sub, o.kept, o.grow, o.rD, o.rF, fun i hi => o.rO i (by rw [List.length_append] at hi; omega), by simp [L2.start, el], fun i sl v h1 h2 => ?_⟩
  by_cases hi : i < args.length
  · rw [List.getElem?_append_left hi] at h1
    unfold L2.start at h2
    rw [List.getElem?_append_left (by rw [List.length_map, ← el]; exact hi)] at h2
    exact o.slot i sl v h1 h2
  · rw [List.getElem?_append_right (by omega), List.getElem?_replicate] at h1
    split at h1
    · cases h1
      exact o.rO i (by omega)
    · cases h1
theorem outA_get : ∀ {args : List Slot} {ρ : Rho} {r : List Slot}, outA args ρ = some r → r.length = args.length ∧ ∀ (i : Nat) sl, r[i]? = some sl → (∃ d, args[i]? = some (.dat d) ∧ sl = .dat d) ∨ ∃ ds es, args[i]? = some (.par es) ∧ sl = .par ds ∧ ρ[i]? = some (.par ds)
  | [], ρ, r, h => by
    unfold outA at h
    cases h
    exact ⟨rfl, fun i sl h => by simp at h⟩
  | .dat d :: as, x :: ρ, r, h => by
    obtain ⟨r1, h1, h2⟩ := opt_map (show (outA as ρ).map (fun r => Slot.dat d :: r) = some r from h)
    subst h2
    obtain ⟨a, b⟩ := outA_get h1
    refine ⟨by simp [a], fun i sl hs => ?_⟩
    cases i with
    | zero => simp at hs; exact .inl ⟨d, rfl, hs.symm⟩
    | succ i => simpa using b i sl (by simpa using hs)
  | .par es :: as, .par ds :: ρ, r, h => by
    obtain ⟨r1, h1, h2⟩ := opt_map (show (outA as ρ).map (fun r => Slot.par ds :: r) = some r from h)
    subst h2
    obtain ⟨a, b⟩ := outA_get h1
    refine ⟨by simp [a], fun i sl hs => ?_⟩
    cases i with
    | zero => simp at hs; exact .inr ⟨ds, es, rfl, hs.symm, rfl⟩
    | succ i => simpa using b i sl (by simpa using hs)
  | .un :: as, ρ, r, h => by cases ρ <;> cases h
  | .own _ :: as, ρ, r, h => by cases ρ <;> cases h
  | .dat _ :: as, [], r, h => by cases h
  | .par _ :: as, [], r, h => by cases h
  | .par _ :: as, .un :: ρ, r, h => by cases h
  | .par _ :: as, .dat _ :: ρ, r, h => by cases h
  | .par _ :: as, .own _ :: ρ, r, h => by cases h
/-- what is left of the arguments behind a body -/
theorem Ok.outs {args r : List Slot} {vs : List V} (o : Ok K B G H R args (vs.map some)) (s : Stp B G G') (o' : Ok K B G' H' R' ρ σ) (h : outA args ρ = some r) : ∃ R2, Ok K B G' H' R2 r (vs.map some) ∧ ∀ i a, a ∈ R2 i → ∃ j, a ∈ R' j := by
  obtain ⟨hl, hg⟩ := outA_get h
  refine ⟨fun i => match r[i]? with
    | some (.par _) => R' i
    | _ => [], ⟨o'.sub, o'.kept, o'.grow, fun i j a h1 h2 => ?_, fun i a h1 => ?_, fun i hi => ?_, by rw [hl, o.len], fun i sl v h1 h2 => ?_⟩, fun i a h1 => ?_⟩
  · split at h1
    · split at h2
      · exact o'.rD i j a h1 h2
      · cases h2
    · cases h1
  · split at h1
    · exact o'.rF i a h1
    · cases h1
  · rw [List.getElem?_eq_none hi]
  · rw [h1]
    rcases hg i sl h1 with ⟨d, e1, rfl⟩ | ⟨ds, es, e1, rfl, e2⟩
    · obtain ⟨_, x, e3, d3⟩ := o.slot i _ _ e1 h2
      exact ⟨rfl, x, e3, dp_mono s.g d3⟩
    · obtain ⟨_, _, e3, _⟩ := o.slot i _ _ e1 h2
      obtain ⟨xs, f1, f2, f3, f4, f5⟩ := o'.parAt e2
      exact ⟨xs, f1, e3, f3, f4, f5⟩
  · simp only at h1
    split at h1
    · exact ⟨i, h1⟩
    · cases h1
end
section
variable {P : Program} {w : World} {K : PySem.W.Frag} {mg : Str → Option Value} {base : Heap} {x qual : Str} {st : Stmt} {f : Addr} {fd : FuncData} {N ps : List Str} {k : Nat} {b : Sm}
/-- THE RULE for a def: its body's meaning -/
theorem def_ok (F : Fun K x qual st f fd) (S : FnScope N ps (defScope st))
    (hb : ∀ (cdv : Value) (A : Around) (outer : List Env) (s : Shared) (H : Hp) (E : XK), Room k (A.deeper (envOfC qual (defScope st) s.heap.objs.size f cdv)) → PSsd (cxOf CX0 P w K mg base N qual (defScope st) f cdv A outer s H E).nox (defBody st) b) :
    FnOk P w K mg base CX0 (k + 1) f fd ps (spD K ps.length (mDef N.length b)) := by
  refine F.ok S (fun vs H Q E h => ?_) (fun cdv A outer s H vs Q E hr h => ?_)
  · obtain ⟨B, G, R, args, d, args', hl, _⟩ := h
    exact hl
  · obtain ⟨B, G, R, args, d, args', hl, o, e, q⟩ := h
    refine ⟨_, hb cdv A outer s H E hr, B, G, R, args ++ List.replicate (N.length - args.length) .un, ?_⟩
    unfold mDef at e
    cases e1 : b (args ++ List.replicate (N.length - args.length) .un) with
    | none => rw [e1] at e; cases e
    | some out =>
      refine ⟨out, o.start, rfl, ?_⟩
      rw [e1] at e
      cases out with
      | rt d' ρ =>
        obtain ⟨r, e2, e3⟩ := opt_map e
        cases e3
        intro G' H' R' σ' v s' o' d'
        obtain ⟨R2, o2, _⟩ := o.outs s' o' e2
        exact q G' H' R2 v s' o2 d'
      | ro ds ρ =>
        obtain ⟨r, e2, e3⟩ := opt_map e
        cases e3
        intro G' H' R' σ' p s' o' fr
        obtain ⟨xs, s2, o2, d2⟩ := fresh_freeze o' fr
        obtain ⟨R2, o3, _⟩ := o.outs (s'.trans s2) o2 e2
        exact q _ H' R2 _ (s'.trans s2) o3 d2
      | nx ρ =>
        obtain ⟨r, e2, e3⟩ := opt_map e
        cases e3
        intro G' H' R' σ' s' o'
        obtain ⟨R2, o2, _⟩ := o.outs s' o' e2
        exact q G' H' R2 _ s' o2 .non
      | bk ρ => cases e
      | ct ρ => cases e
theorem def_okO (F : Fun K x qual st f fd) (S : FnScope N ps (defScope st))
    (hb : ∀ (cdv : Value) (A : Around) (outer : List Env) (s : Shared) (H : Hp) (E : XK), Room k (A.deeper (envOfC qual (defScope st) s.heap.objs.size f cdv)) → PSsd (cxOf CX0 P w K mg base N qual (defScope st) f cdv A outer s H E).nox (defBody st) b) :
    FnOk P w K mg base CX0 (k + 1) f fd ps (spO K ps.length (mDefO N.length b)) := by
  refine F.ok S (fun vs H Q E h => ?_) (fun cdv A outer s H vs Q E hr h => ?_)
  · obtain ⟨B, G, R, args, d, args', hl, _⟩ := h
    exact hl
  · obtain ⟨B, G, R, args, d, args', hl, o, e, q⟩ := h
    refine ⟨_, hb cdv A outer s H E hr, B, G, R, args ++ List.replicate (N.length - args.length) .un, ?_⟩
    unfold mDefO at e
    cases e1 : b (args ++ List.replicate (N.length - args.length) .un) with
    | none => rw [e1] at e; cases e
    | some out =>
      refine ⟨out, o.start, rfl, ?_⟩
      rw [e1] at e
      cases out with
      | ro ds ρ =>
        obtain ⟨r, e2, e3⟩ := opt_map e
        cases e3
        intro G' H' R' σ' p s' o' fr
        obtain ⟨R2, o2, h2⟩ := o.outs s' o' e2
        exact q G' H' R2 p s' o2 ⟨fr.at_, fr.g, fr.l, fr.f, fun i hi => let ⟨j, hj⟩ := h2 i p hi; fr.r j hj⟩
      | _ => cases e
/-- a def of which nothing is claimed -/
theorem def_none {n : Nat} {CX : CXT} {k : Nat} (hl : n = ps.length) : FnOk P w K mg base CX k f fd ps (spD K n fun _ => none) :=
  ⟨fun vs H Q E h => by obtain ⟨B, G, R, args, d, args', h1, _⟩ := h; rw [h1, hl], fun A outer s H args us vs Q E _ _ _ _ h => by obtain ⟨B, G, R, args, d, args', _, _, e, _⟩ := h; cases e⟩
end
/-! ### calls -/
inductive Arg where
  | d (d : Dt)
  | p (i : Nat)
abbrev Cs := Rho → Option (List Arg × Rho)
inductive ArgsOk (K : PySem.W.Frag) (G : Hp) (σ : Sto) : List Arg → List V → Prop
  | nil : ArgsOk K G σ [] []
  | d {d : Dt} {v : V} {as : List Arg} {vs : List V} : Dq K G v d → ArgsOk K G σ as vs → ArgsOk K G σ (.d d :: as) (v :: vs)
  | p {i : Nat} {v : V} {as : List Arg} {vs : List V} : σ[i]? = some (some v) → ArgsOk K G σ as vs → ArgsOk K G σ (.p i :: as) (v :: vs)
theorem ArgsOk.mono {K : PySem.W.Frag} {G G' : Hp} {σ : Sto} (s : Sub G G') : ∀ {as : List Arg} {vs : List V}, ArgsOk K G σ as vs → ArgsOk K G' σ as vs
  | _, _, .nil => .nil
  | _, _, .d h r => .d (dp_mono s h) (ArgsOk.mono s r)
  | _, _, .p h r => .p h (ArgsOk.mono s r)
theorem ArgsOk.len {K : PySem.W.Frag} {G : Hp} {σ : Sto} : ∀ {as : List Arg} {vs : List V}, ArgsOk K G σ as vs → as.length = vs.length
  | _, _, .nil => rfl
  | _, _, .d _ r => by simp [ArgsOk.len r]
  | _, _, .p _ r => by simp [ArgsOk.len r]
theorem ArgsOk.getD {K : PySem.W.Frag} {G : Hp} {σ : Sto} : ∀ {as : List Arg} {vs : List V} {j : Nat} {d : Dt}, ArgsOk K G σ as vs → as[j]? = some (.d d) → ∃ v, vs[j]? = some v ∧ Dq K G v d
  | _, _, _, _, .nil, h => by simp at h
  | _, _, 0, _, .d q r, h => by simp at h; subst h; exact ⟨_, rfl, q⟩
  | _, _, 0, _, .p q r, h => by simp at h
  | _, _, j + 1, _, .d q r, h => by simpa using ArgsOk.getD (j := j) r (by simpa using h)
  | _, _, j + 1, _, .p q r, h => by simpa using ArgsOk.getD (j := j) r (by simpa using h)
theorem ArgsOk.getP {K : PySem.W.Frag} {G : Hp} {σ : Sto} : ∀ {as : List Arg} {vs : List V} {j : Nat} {i : Nat}, ArgsOk K G σ as vs → as[j]? = some (.p i) → ∃ v, vs[j]? = some v ∧ σ[i]? = some (some v)
  | _, _, _, _, .nil, h => by simp at h
  | _, _, 0, _, .d q r, h => by simp at h
  | _, _, 0, _, .p q r, h => by simp at h; subst h; exact ⟨_, rfl, q⟩
  | _, _, j + 1, _, .d q r, h => by simpa using ArgsOk.getP (j := j) r (by simpa using h)
  | _, _, j + 1, _, .p q r, h => by simpa using ArgsOk.getP (j := j) r (by simpa using h)
def tC (K : PySem.W.Frag) (f : Cs) : TA := fun σ H Q => ∃ B G R ρ as ρ', Ok K B G H R ρ σ ∧ f ρ = some (as, ρ') ∧ ∀ G' H' R' vs, Stp B G G' → Ok K B G' H' R' ρ' σ → ArgsOk K G' σ as vs → Q vs H'
def PCd (X : Cx) (es : List Expr) (f : Cs) : Prop := PA X es (tC X.K f)
def nilC : Cs := fun ρ => some ([], ρ)
def consC (f : Ex) (g : Cs) : Cs := fun ρ => (f ρ).bind fun p => (g p.2).map fun q => (.d p.1 :: q.1, q.2)
def consP (i : Nat) (g : Cs) : Cs := fun ρ => (lsAt ρ i).bind fun _ => (g ρ).map fun q => (.p i :: q.1, q.2)
section
variable {X : Cx} {e : Expr} {es : List Expr} {f : Ex} {g : Cs}
theorem pc_nil : PCd X [] nilC := PA.to L2.pa_nil fun σ H Q _ q => by
  obtain ⟨B, G, R, ρ, d, ρ', o, e, k⟩ := q
  cases e
  exact fun _ => k G H R [] .refl o .nil
theorem pc_cons (ha : PEd X e f) (hr : PCd X es g) (hs : starEach (e :: es) X.env = (false, eval e X.env) :: starEach es X.env := by rfl) : PCd X (e :: es) (consC f g) := PA.to (L2.pa_cons ha hr hs) fun σ H Q _ q => by
  obtain ⟨B, G, R, ρ, d, ρ', o, e0, k⟩ := q
  obtain ⟨p, e1, e⟩ := opt_bind e0
  obtain ⟨q, e2, e⟩ := opt_map e
  cases e
  exact ⟨B, G, R, ρ, p.1, p.2, o, e1, fun G1 H1 R1 v s1 o1 d1 => ⟨B, G1, R1, p.2, q.1, q.2, o1, e2, fun G2 H2 R2 vs s2 o2 d2 _ => k G2 H2 R2 _ (s1.trans s2) o2 (.d (dp_mono s2.g d1) d2)⟩⟩
theorem pc_consP {i : Nat} (ha : PE X e (tVar i)) (hr : PCd X es g) (hs : starEach (e :: es) X.env = (false, eval e X.env) :: starEach es X.env := by rfl) : PCd X (e :: es) (consP i g) := PA.to (L2.pa_cons ha hr hs) fun σ H Q _ q => by
  obtain ⟨B, G, R, ρ, d, ρ', o, e0, k⟩ := q
  obtain ⟨ds, e1, e⟩ := opt_bind e0
  obtain ⟨q, e2, e⟩ := opt_map e
  cases e
  obtain ⟨p, hp⟩ := o.lsV e1
  exact ⟨.ref p, hp, B, G, R, ρ, q.1, q.2, o, e2, fun G2 H2 R2 vs s2 o2 d2 _ => k G2 H2 R2 _ s2 o2 (.p hp d2)⟩
end
def slotsOf (ρ : Rho) : List Arg → Option (List Slot)
  | [] => some []
  | .d d :: r => (slotsOf ρ r).map fun s => .dat d :: s
  | .p i :: r => (lsAt ρ i).bind fun ds => (slotsOf ρ r).map fun s => .par ds :: s
def backOf (ρ : Rho) : List Arg → List Slot → Option Rho
  | [], [] => some ρ
  | .d _ :: r, _ :: s => backOf ρ r s
  | .p i :: r, .par ds :: s => backOf (lsSet ρ i ds) r s
  | _, _ => none
def idxs : List Arg → List Nat
  | [] => []
  | .d _ :: r => idxs r
  | .p i :: r => i :: idxs r
def callE (n : Nat) (M : Mt) (f : Cs) : Ex := fun ρ => (f ρ).bind fun p => (slotsOf p.2 p.1).bind fun ss => if p.1.length = n ∧ (idxs p.1).Nodup then (M ss).bind fun q => (backOf p.2 p.1 q.2).map fun ρ' => (q.1, ρ') else none
def callO (n : Nat) (M : MtO) (f : Cs) : Exs := fun ρ => (f ρ).bind fun p => (slotsOf p.2 p.1).bind fun ss => if p.1.length = n ∧ (idxs p.1).Nodup then (M ss).bind fun q => (backOf p.2 p.1 q.2).map fun ρ' => (q.1, ρ') else none
theorem slotsOf_get {ρ : Rho} : ∀ {as : List Arg} {ss : List Slot}, slotsOf ρ as = some ss → ss.length = as.length ∧ ∀ (j : Nat) sl, ss[j]? = some sl → (∃ d, as[j]? = some (.d d) ∧ sl = .dat d) ∨ ∃ i ds, as[j]? = some (.p i) ∧ lsAt ρ i = some ds ∧ sl = .par ds
  | [], ss, h => by cases h; exact ⟨rfl, fun j sl h => by simp at h⟩
  | .d d :: r, ss, h => by
    obtain ⟨s, h1, rfl⟩ := opt_map (show (slotsOf ρ r).map (fun s => Slot.dat d :: s) = some ss from h)
    obtain ⟨a, b⟩ := slotsOf_get h1
    refine ⟨by simp [a], fun j sl hs => ?_⟩
    cases j with
    | zero => simp at hs; exact .inl ⟨d, rfl, hs.symm⟩
    | succ j => simpa using b j sl (by simpa using hs)
  | .p i :: r, ss, h => by
    obtain ⟨ds, h0, h⟩ := opt_bind (show ((lsAt ρ i).bind fun ds => (slotsOf ρ r).map fun s => Slot.par ds :: s) = some ss from h)
    obtain ⟨s, h1, rfl⟩ := opt_map h
    obtain ⟨a, b⟩ := slotsOf_get h1
    refine ⟨by simp [a], fun j sl hs => ?_⟩
    cases j with
    | zero => simp at hs; exact .inr ⟨i, ds, rfl, h0, hs.symm⟩
    | succ j => simpa using b j sl (by simpa using hs)
theorem lsSet_len (ρ : Rho) (i : Nat) (ds : List Dt) : (lsSet ρ i ds).length = ρ.length := by
  unfold lsSet
  split
  · rw [List.length_set]
  · rw [List.length_set]
  · rfl
theorem lsSet_ne {ρ : Rho} {i j : Nat} {ds : List Dt} (h : j ≠ i) : (lsSet ρ i ds)[j]? = ρ[j]? := by
  unfold lsSet
  split
  · rw [List.getElem?_set_ne (Ne.symm h)]
  · rw [List.getElem?_set_ne (Ne.symm h)]
  · rfl
theorem mem_idxs : ∀ {as : List Arg} {i : Nat}, i ∈ idxs as ↔ ∃ j : Nat, as[j]? = some (Arg.p i)
  | [], i => by simp [idxs]
  | .d d :: r, i => by
    show i ∈ idxs r ↔ _
    rw [mem_idxs]
    constructor
    · rintro ⟨j, h⟩; exact ⟨j + 1, by simpa using h⟩
    · rintro ⟨j, h⟩
      cases j with
      | zero => simp at h
      | succ j => exact ⟨j, by simpa using h⟩
  | .p l :: r, i => by
    show i ∈ l :: idxs r ↔ _
    rw [List.mem_cons, mem_idxs]
    constructor
    · rintro (rfl | ⟨j, h⟩)
      · exact ⟨0, rfl⟩
      · exact ⟨j + 1, by simpa using h⟩
    · rintro ⟨j, h⟩
      cases j with
      | zero => simp at h; exact .inl h.symm
      | succ j => exact .inr ⟨j, by simpa using h⟩
theorem backOf_get : ∀ {as : List Arg} {ss : List Slot} {ρ ρ2 : Rho}, backOf ρ as ss = some ρ2 → (idxs as).Nodup → ρ2.length = ρ.length ∧ (∀ i, i ∉ idxs as → ρ2[i]? = ρ[i]?) ∧ ∀ (j i : Nat), as[j]? = some (Arg.p i) → ∃ ds, ss[j]? = some (.par ds) ∧ ρ2[i]? = (lsSet ρ i ds)[i]?
  | [], [], ρ, ρ2, h, _ => by cases h; exact ⟨rfl, fun _ _ => rfl, fun j i h => by simp at h⟩
  | .d d :: r, x :: s, ρ, ρ2, h, hn => by
    obtain ⟨a, b, c⟩ := backOf_get (as := r) (ss := s) h hn
    refine ⟨a, b, fun j i hj => ?_⟩
    cases j with
    | zero => simp at hj
    | succ j => simpa using c j i (by simpa using hj)
  | .p l :: r, .par ds :: s, ρ, ρ2, h, hn => by
    have hn' : (l :: idxs r).Nodup := hn
    rw [List.nodup_cons] at hn'
    obtain ⟨a, b, c⟩ := backOf_get (as := r) (ss := s) (ρ := lsSet ρ l ds) h hn'.2
    refine ⟨by rw [a, lsSet_len], fun i hi => ?_, fun j i hj => ?_⟩
    · have hi' : ¬ (i ∈ l :: idxs r) := hi
      rw [List.mem_cons, not_or] at hi'
      rw [b i hi'.2, lsSet_ne hi'.1]
    · cases j with
      | zero =>
        simp at hj
        subst hj
        exact ⟨ds, rfl, b l hn'.1⟩
      | succ j =>
        obtain ⟨es, h1, h2⟩ := c j i (by simpa using hj)
        have hmem : i ∈ idxs r := mem_idxs.mpr ⟨j, by simpa using hj⟩
        have ne : i ≠ l := fun z => hn'.1 (z ▸ hmem)
        refine ⟨es, by simpa using h1, ?_⟩
        rw [h2]
        have e1 : (lsSet ρ l ds)[i]? = ρ[i]? := lsSet_ne ne
        unfold lsSet at *
        rw [e1]
        cases hq : ρ[i]? with
        | none => simp only [e1, hq]
        | some sl =>
          have hl : i < ρ.length := (List.getElem?_eq_some_iff.mp hq).1
          cases sl with
          | un => simp only [e1, hq]
          | dat d => simp only [e1, hq]
          | own d => simp only; rw [List.getElem?_set_self hl, List.getElem?_set_self]; split <;> simp [hl]
          | par d => simp only; rw [List.getElem?_set_self hl, List.getElem?_set_self]; split <;> simp [hl]
  | [], _ :: _, _, _, h, _ => by cases h
  | .d _ :: _, [], _, _, h, _ => by cases h
  | .p _ :: _, [], _, _, h, _ => by cases h
  | .p _ :: _, .un :: _, _, _, h, _ => by cases h
  | .p _ :: _, .dat _ :: _, _, _, h, _ => by cases h
  | .p _ :: _, .own _ :: _, _, _, h, _ => by cases h
theorem Ok.lsR {K : PySem.W.Frag} {B : Bx} {G H : Hp} {R : Nat → List Addr} {ρ : Rho} {σ : Sto} {i : Nat} {ds : List Dt} (o : Ok K B G H R ρ σ) (h : lsAt ρ i = some ds) :
    ∃ p xs, R i = [p] ∧ σ[i]? = some (some (V.ref p)) ∧ H p = some (.lst xs) ∧ G p = none ∧ DqAll K G xs ds := by
  unfold lsAt at h
  split at h
  · rename_i es' he
    cases h
    obtain ⟨p, xs, a1, a2, a3, a4, a5, a6⟩ := o.ownAt he
    exact ⟨p, xs, a1, a2, a3, a4, a6⟩
  · rename_i es' he
    cases h
    obtain ⟨xs, a1, a2, a3, a4, a6⟩ := o.parAt he
    exact ⟨_, xs, a1, a2, a3, a4, a6⟩
  · cases h
def adr (σ : Sto) (i : Nat) : Addr := match σ[i]? with
  | some (some (.ref p)) => p
  | _ => 0
def argP (σ : Sto) (as : List Arg) (j : Nat) : List Addr := match as[j]? with
  | some (.p i) => [adr σ i]
  | _ => []
open Classical in
noncomputable def cutH (H : Hp) (S : Addr → Prop) : Hp := fun a => if S a then none else H a
theorem cutH_in {H : Hp} {S : Addr → Prop} {a : Addr} (h : S a) : cutH H S a = none := by unfold cutH; rw [if_pos h]
theorem cutH_out {H : Hp} {S : Addr → Prop} {a : Addr} (h : ¬ S a) : cutH H S a = H a := by unfold cutH; rw [if_neg h]
theorem cutH_some {H : Hp} {S : Addr → Prop} {a : Addr} {u : HO} (h : cutH H S a = some u) : H a = some u := by
  unfold cutH at h
  split at h
  · cases h
  · exact h
noncomputable def callB (H : Hp) (σ : Sto) (as : List Arg) : Bx := ⟨cutH H fun a => ∃ j, a ∈ argP σ as j, fun a => H a ≠ none, fun j => match as[j]? with
  | some (.p i) => adr σ i
  | _ => 0⟩
theorem nodup_idx {as : List Arg} (h : (idxs as).Nodup) : ∀ {j l i : Nat}, as[j]? = some (Arg.p i) → as[l]? = some (Arg.p i) → j = l := by
  induction as with
  | nil => intro j l i h1; simp at h1
  | cons x r ih =>
    intro j l i h1 h2
    cases x with
    | d d =>
      cases j with
      | zero => simp at h1
      | succ j =>
        cases l with
        | zero => simp at h2
        | succ l => exact congrArg Nat.succ (ih h (i := i) (by simpa using h1) (by simpa using h2))
    | p m =>
      have h' : (m :: idxs r).Nodup := h
      rw [List.nodup_cons] at h'
      cases j with
      | zero =>
        cases l with
        | zero => rfl
        | succ l =>
          simp at h1
          subst h1
          exact absurd (mem_idxs.mpr ⟨l, by simpa using h2⟩) h'.1
      | succ j =>
        cases l with
        | zero =>
          simp at h2
          subst h2
          exact absurd (mem_idxs.mpr ⟨j, by simpa using h1⟩) h'.1
        | succ l => exact congrArg Nat.succ (ih h'.2 (i := i) (by simpa using h1) (by simpa using h2))
section
variable {K : PySem.W.Frag} {B : Bx} {G H : Hp} {R : Nat → List Addr} {ρ : Rho} {σ : Sto} {as : List Arg} {vs : List V} {ss : List Slot}
theorem argP_of (o : Ok K B G H R ρ σ) (hs : slotsOf ρ as = some ss) {j i : Nat} (h : as[j]? = some (Arg.p i)) : ∃ p xs ds, R i = [p] ∧ adr σ i = p ∧ σ[i]? = some (some (V.ref p)) ∧ H p = some (.lst xs) ∧ G p = none ∧ DqAll K G xs ds ∧ lsAt ρ i = some ds ∧ ss[j]? = some (.par ds) := by
  obtain ⟨hl, hg⟩ := slotsOf_get hs
  have hj : j < ss.length := by rw [hl]; exact (List.getElem?_eq_some_iff.mp h).1
  rcases hg j _ (List.getElem?_eq_getElem hj) with ⟨d, e1, e2⟩ | ⟨i', ds, e1, e2, e3⟩
  · rw [h] at e1; cases e1
  · rw [h] at e1; cases e1
    obtain ⟨p, xs, a1, a2, a3, a4, a5⟩ := o.lsR e2
    exact ⟨p, xs, ds, a1, by unfold adr; rw [a2], a2, a3, a4, a5, e2, by rw [List.getElem?_eq_getElem hj, e3]⟩
theorem argP_mem (o : Ok K B G H R ρ σ) (hs : slotsOf ρ as = some ss) {j : Nat} {a : Addr} (h : a ∈ argP σ as j) : ∃ i, as[j]? = some (Arg.p i) ∧ a ∈ R i := by
  unfold argP at h
  split at h
  · rename_i i hi
    obtain ⟨p, xs, ds, a1, a2, _⟩ := argP_of o hs hi
    have : a = adr σ i := by simpa using h
    exact ⟨i, hi, by rw [a1, this, a2]; simp⟩
  · cases h
/-- the state at a call -/
theorem call_in (o : Ok K B G H R ρ σ) (ha : ArgsOk K G σ as vs) (hs : slotsOf ρ as = some ss) (hn : (idxs as).Nodup) : Ok K (callB H σ as) G H (argP σ as) ss (vs.map some) := by
  obtain ⟨hl, hg⟩ := slotsOf_get hs
  refine ⟨o.sub, fun a u q => ?_, fun a l => l, fun j l a h1 h2 => ?_, fun j a h1 => ?_, fun j hj => ?_, by rw [hl, ha.len, List.length_map], fun j sl v h1 h2 => ?_⟩
  · exact cutH_some (S := fun a => ∃ j, a ∈ argP σ as j) q
  · obtain ⟨i, e1, m1⟩ := argP_mem o hs h1
    obtain ⟨i', e2, m2⟩ := argP_mem o hs h2
    have := o.rD i i' a m1 m2
    subst this
    exact nodup_idx hn e1 e2
  · exact cutH_in (S := fun a => ∃ j, a ∈ argP σ as j) ⟨j, h1⟩
  · unfold argP
    rw [List.getElem?_eq_none (by rw [← hl]; exact hj)]
  · rcases hg j sl h1 with ⟨d, e1, rfl⟩ | ⟨i, ds, e1, e2, rfl⟩
    · obtain ⟨x, e3, d3⟩ := ha.getD e1
      rw [List.getElem?_map, e3] at h2
      cases h2
      exact ⟨by unfold argP; rw [e1], x, rfl, d3⟩
    · obtain ⟨x, e3, e4⟩ := ha.getP e1
      rw [List.getElem?_map, e3] at h2
      cases h2
      obtain ⟨p, xs, ds', a1, a2, a3, a4, a5, a6, a7, a8⟩ := argP_of o hs e1
      rw [e2] at a7; cases a7
      rw [a3] at e4; cases e4
      have hp : (callB H σ as).pat j = p := by
        show (match as[j]? with | some (.p i) => adr σ i | _ => 0) = p
        rw [e1]; exact a2
      exact ⟨xs, by unfold argP; rw [e1, hp]; show [adr σ i] = [p]; rw [a2], by rw [hp], by rw [hp]; exact a4, by rw [hp]; exact a5, a6⟩
theorem call_stp {G' : Hp} (o : Ok K B G H R ρ σ) (s : Stp (callB H σ as) G G') : Stp B G G' := ⟨s.g, fun a q => (s.n a q).imp id fun h l => h (o.grow a l)⟩
/-- the state behind a call -/
theorem call_out {G' H' : Hp} {R' : Nat → List Addr} {ss' : List Slot} {ρ2 : Rho} (o : Ok K B G H R ρ σ) (ha : ArgsOk K G σ as vs) (hs : slotsOf ρ as = some ss) (hn : (idxs as).Nodup) (s : Stp (callB H σ as) G G') (o' : Ok K (callB H σ as) G' H' R' ss' (vs.map some)) (hb : backOf ρ as ss' = some ρ2) : Ok K B G' H' R ρ2 σ := by
  obtain ⟨b1, b2, b3⟩ := backOf_get hb hn
  have notIn : ∀ {a : Addr} {u : HO}, H a = some u → (∀ j, a ∉ argP σ as j) → H' a = some u := fun {a u} h hj => o'.kept a u ((cutH_out (S := fun a => ∃ j, a ∈ argP σ as j) fun ⟨j, z⟩ => hj j z).trans h)
  have gN : ∀ {a : Addr} {u : HO}, H a = some u → G a = none → G' a = none := fun {a u} h hg => by
    cases q : G' a with
    | none => rfl
    | some w =>
      rcases s.n a (by rw [q]; simp) with z | z
      · exact absurd hg z
      · exact absurd (show H a ≠ none by rw [h]; simp) z
  refine ⟨o'.sub, fun a u q => notIn (o.kept a u q) fun j m => ?_, fun a l => o'.grow a (o.grow a l), o.rD, o.rF, fun i hi => o.rO i (by rw [← b1]; exact hi), by rw [b1, o.len], fun i sl v h1 h2 => ?_⟩
  · obtain ⟨i, _, m2⟩ := argP_mem o hs m
    rw [o.rF i a m2] at q; cases q
  · by_cases hi : i ∈ idxs as
    · obtain ⟨j, hj⟩ := mem_idxs.mp hi
      obtain ⟨ds, c1, c2⟩ := b3 j i hj
      obtain ⟨p, xs, es, a1, a2, a3, a4, a5, a6, a7, a8⟩ := argP_of o hs hj
      obtain ⟨ys, f1, f2, f3, f4, f5⟩ := o'.parAt c1
      have hp : (callB H σ as).pat j = p := by
        show (match as[j]? with | some (.p i) => adr σ i | _ => 0) = p
        rw [hj]; exact a2
      rw [hp] at f3 f4
      rw [a3] at h2; cases h2
      rw [c2] at h1
      unfold lsAt at a7
      unfold lsSet at h1
      split at a7
      · rename_i q hq
        rw [hq] at h1
        rw [List.getElem?_set_self (List.getElem?_eq_some_iff.mp hq).1] at h1
        cases h1
        obtain ⟨p', xs', g1, g2, g3, g4, g5, g6⟩ := o.slot i _ _ hq a3
        cases g2
        exact ⟨p, ys, g1, rfl, f3, f4, g5, f5⟩
      · rename_i q hq
        rw [hq] at h1
        rw [List.getElem?_set_self (List.getElem?_eq_some_iff.mp hq).1] at h1
        cases h1
        obtain ⟨xs', g1, g2, g3, g4, g6⟩ := o.slot i _ _ hq a3
        have hpp : p = B.pat i := by cases g2; rfl
        exact ⟨ys, g1, g2, by rw [← hpp]; exact f3, by rw [← hpp]; exact f4, f5⟩
      · cases a7
    · rw [b2 i hi] at h1
      have q := o.slot i sl v h1 h2
      have nI : ∀ a ∈ R i, ∀ j, a ∉ argP σ as j := fun a m j m2 => by
        obtain ⟨i', e1, m3⟩ := argP_mem o hs m2
        have := o.rD i i' a m m3
        subst this
        exact hi (mem_idxs.mpr ⟨j, e1⟩)
      cases sl with
      | un => exact q
      | dat d => obtain ⟨q1, x, q2, q3⟩ := q; exact ⟨q1, x, q2, dp_mono s.g q3⟩
      | own es =>
        obtain ⟨p', xs', q1, q2, q3, q4, q5, q6⟩ := q
        exact ⟨p', xs', q1, q2, notIn q3 (nI p' (by rw [q1]; simp)), gN q3 q4, q5, dpAll_mono s.g q6⟩
      | par es =>
        obtain ⟨xs', q1, q2, q3, q4, q6⟩ := q
        exact ⟨xs', q1, q2, notIn q3 (nI _ (by rw [q1]; simp)), gN q3 q4, dpAll_mono s.g q6⟩
end
section
variable {X : Cx} {k n : Nat} {f : Addr} {fd : FuncData} {ps : List Str} {M : Mt} {x : Str} {p pos : Pos} {e : Expr} {es : List Expr} {g : Cs}
theorem pd_call (F : FnOk X.prog X.w X.K X.mg X.base CX0 k f fd ps (spD X.K n M)) (hr : Room k X.A) (hg : Gl X x) (hm : X.mg x = some (.ref f)) (hk : PySem.W.keepIn X.K (.ref f) = true) (hb : Binds X.K fd ps [])
    (ha : PCd X (e :: es) g) (hdb : (x == ("__debug__" : Str)) = false := by decide) (he : starEach (e :: es) X.env = (false, eval e X.env) :: starEach es X.env := by rfl) (hpl : (backTo pos (starEach es X.env)).any (·.1) = false := by rfl) :
    PEd X (.Call (.Name x p) (e :: es) [] pos) (callE n M g) := PE.to (pe_call F hr hg hm hk hb .nil pass0 ha hdb he hpl) fun σ H Q _ q => by
  obtain ⟨B, G, R, ρ, d, ρ', o, e0, kk⟩ := q
  obtain ⟨p, e1, e2⟩ := opt_bind e0
  obtain ⟨ss, e3, e4⟩ := opt_bind e2
  by_cases hnd : p.1.length = n ∧ (idxs p.1).Nodup
  · rw [if_pos hnd] at e4
    obtain ⟨q, e5, e6⟩ := opt_bind e4
    obtain ⟨ρ2, e7, e8⟩ := opt_map e6
    cases e8
    refine ⟨B, G, R, ρ, p.1, p.2, o, e1, fun G1 H1 R1 vs s1 o1 a1 => ?_⟩
    show spD X.K n M (vs ++ []) H1 _ _
    rw [List.append_nil]
    exact ⟨callB H1 σ p.1, G1, argP σ p.1, ss, q.1, q.2, by rw [← a1.len]; exact hnd.1, call_in o1 a1 e3 hnd.2, e5, fun G2 H2 R2 v s2 o2 d2 _ => kk G2 H2 R1 v (s1.trans (call_stp o1 s2)) (call_out o1 a1 e3 hnd.2 s2 o2 e7) d2⟩
  · rw [if_neg hnd] at e4; cases e4
theorem po_call {M : MtO} (F : FnOk X.prog X.w X.K X.mg X.base CX0 k f fd ps (spO X.K n M)) (hr : Room k X.A) (hg : Gl X x) (hm : X.mg x = some (.ref f)) (hk : PySem.W.keepIn X.K (.ref f) = true) (hb : Binds X.K fd ps [])
    (ha : PCd X (e :: es) g) (hdb : (x == ("__debug__" : Str)) = false := by decide) (he : starEach (e :: es) X.env = (false, eval e X.env) :: starEach es X.env := by rfl) (hpl : (backTo pos (starEach es X.env)).any (·.1) = false := by rfl) :
    PEo X (.Call (.Name x p) (e :: es) [] pos) (callO n M g) := PE.to (pe_call F hr hg hm hk hb .nil pass0 ha hdb he hpl) fun σ H Q _ q => by
  obtain ⟨B, G, R, ρ, d, ρ', o, e0, kk⟩ := q
  obtain ⟨p, e1, e2⟩ := opt_bind e0
  obtain ⟨ss, e3, e4⟩ := opt_bind e2
  by_cases hnd : p.1.length = n ∧ (idxs p.1).Nodup
  · rw [if_pos hnd] at e4
    obtain ⟨q, e5, e6⟩ := opt_bind e4
    obtain ⟨ρ2, e7, e8⟩ := opt_map e6
    cases e8
    refine ⟨B, G, R, ρ, p.1, p.2, o, e1, fun G1 H1 R1 vs s1 o1 a1 => ?_⟩
    show spO X.K n M (vs ++ []) H1 _ _
    rw [List.append_nil]
    refine ⟨callB H1 σ p.1, G1, argP σ p.1, ss, q.1, q.2, by rw [← a1.len]; exact hnd.1, call_in o1 a1 e3 hnd.2, e5, fun G2 H2 R2 t s2 o2 fr _ => ?_⟩
    have o3 := call_out o1 a1 e3 hnd.2 s2 o2 e7
    have nH : H1 t = none := by
      cases z : H1 t with
      | none => rfl
      | some u => exact absurd (show H1 t ≠ none by rw [z]; simp) fr.l
    exact kk G2 H2 R1 t (s1.trans (call_stp o1 s2)) o3 ⟨fr.at_, fr.g, fun l => o1.grow t l nH, o1.kept.no nH, fun i hi => o1.at_ i t hi nH⟩
  · rw [if_neg hnd] at e4; cases e4
end
end G

set_option maxRecDepth 100000
set_option maxHeartbeats 4000000
namespace G
open PySem PySem.Spec PyProof.Rows L2
/-! ### set(xs) of a list of ints, with its order told (set_update_ints over the list's own walk) -/
section
variable {P : Program} {w : World} {A : Around} {E : Value → Shared → Prop} {s : Shared}
abbrev nSet (w : World) : Obj := { cls := .type "set", dict := none, data := .set #[] 0 (.fresh 0 0 (!w.params.followText "set-order")) }
theorem notSets {h : Heap} {w : World} {z l : Addr} {vs : Array Value} (hz : l < h.objs.size) : h.objs.size ∉ [(h.push (nSet w)).objs.size, l] := by
  rw [Heap.size_push]
  intro m
  rcases List.mem_cons.mp m with e | m
  · exact absurd e (Nat.ne_of_lt (Nat.lt_succ_self _))
  · exact absurd (List.mem_singleton.mp m) (Nat.ne_of_gt hz)
theorem setL_old {h : Heap} {w : World} {b : Addr} {o : Obj} (e : h.get? b = some o) : b ∉ h.objs.size :: [(h.push (nSet w)).objs.size] := by
  have lt := Heap.lt_size e
  rw [Heap.size_push]
  intro m
  rcases List.mem_cons.mp m with z | m
  · exact absurd z (Nat.ne_of_lt lt)
  · exact absurd (List.mem_singleton.mp m) (Nat.ne_of_lt (Nat.lt_succ_of_lt lt))
set_option maxHeartbeats 3200000 in
theorem set_listR {l : Addr} {items : Array Value} (ns : List Int) {Q : Value → Shared → Prop} (hh : A.handled = none) (hl : s.heap.IsList l items) (hit : IntsAre items.toList ns) (hb : ns.length + 1 < scanBound)
    (k : ∀ (h' : Heap) (tk c : Nat), SetR w h' s.heap.objs.size (fun j => decide (j ∈ ns)) c → c ≤ ns.length → (∀ b o, s.heap.get? b = some o → h'.get? b = some o) → Q (.ref s.heap.objs.size) { s with heap := h', toks := tk }) :
    wpAny (model P w) A (call (.type "set") [.ref l]) Q E s := by
  have size_eq : items.size = ns.length := by simpa using IntsAre.length hit
  obtain ⟨c0, tl0, mro0⟩ := F.called_set.mro
  have made0 := F.called_set.made
  have sub0 := F.called_set.sub
  refine wpAny_call (codeAny_of_tree (wpAny_pure ⟨Code.quiet_builtin _ (by decide +kernel), codeAny_builtin F.entry_type_call ?_⟩))
  rw [Around.under_plain (weight_type_call_type "set" [.ref l] []) rfl]
  have n1 := F.called_set.notType
  have n2 := F.called_set.canCreate
  have n3 := F.typeCall_set_1 (.ref l)
  repeat (any_goals (first | assumption | wp_step))
  refine codeAny_mono (code_set_led1 (.ref l) (E := E) (Q₁ := fun obj u => obj = .ref s.heap.objs.size ∧ u = { s with heap := s.heap.push (nSet w) }) ⟨rfl, rfl⟩) fun r u hr => ?_
  rcases r with e | fl
  · exact hr
  rcases fl with _ | _ | _ | obj
  · exact hr.elim
  · exact hr.elim
  · exact hr.elim
  obtain ⟨rfl, rfl⟩ := hr
  have atS : (s.heap.push (nSet w)).get? s.heap.objs.size = some (nSet w) := Heap.get?_push_size _ rfl
  have tyS : Shared.TypeIs { s with heap := s.heap.push (nSet w) } (.ref s.heap.objs.size) "set" := ⟨_, atS, rfl⟩
  have i1 := F.called_set.init.lookup
  have i2 := F.called_set.init.bind (.ref s.heap.objs.size)
  repeat (any_goals (first | assumption | wp_step))
  refine codeAny_mono (codeAny_call_builtin (R := wants (fun r v => r = .none ∧ ∃ h' tk c, v = { s with heap := h', toks := tk } ∧ SetR w h' s.heap.objs.size (fun j => decide (j ∈ ns)) c ∧ c ≤ ns.length ∧
      (∀ b o, s.heap.get? b = some o → h'.get? b = some o)) E) F.called_set.init.plain F.entry_set_init (check_set_init_1 tyS ?_)) fun r v hv => ?_
  · obtain ⟨⟨oc, od, odt, osl⟩, hol, hcl, nl, hdl⟩ := hl
    simp only at hcl hdl
    subst hcl; subst hdl
    have atL : (s.heap.push (nSet w)).get? l = some { cls := .type "list", dict := od, data := .seq items nl, slots := osl } := Heap.get?_push_of_some _ hol
    have z1 := F.sub_list_set
    have z2 := F.sub_list_frozenset
    have z3 : (Value.type "list" == Value.type "dict") = false := by decide
    have isL : (s.heap.push (nSet w)).IsList l items := ⟨_, atL, rfl, nl, rfl⟩
    unfold Builtin.«set.__init__» noKeywords Builtin.Frozenset.updateFrom
    generalize hPI : pyIter = PI
    wp_walk
    subst hPI
    refine wpAny_pyIter_list isL (wpAny_bind (wpAny_runValue ?_))
    have lt : l < s.heap.objs.size := Heap.lt_size hol
    have hh3 : A.in1.in1.in1.handled = none := by simp [hh]
    have ne : l ≠ (s.heap.push (nSet w)).objs.size := by
      rw [Heap.size_push]; exact Nat.ne_of_lt (Nat.lt_succ_of_lt lt)
    refine set_update_ints ((Walks.list hh3 _ l ne items).toS) s.heap.objs.size (notSets (z := 0) (vs := #[]) lt) ns size_eq hb (fun i v hv => ?_) (items.size - 0) 0 _ (by omega) (Nat.zero_le _)
      ⟨⟨_, Heap.get?_push_size _ rfl, rfl, rfl⟩, (isL.push _)⟩ ⟨0, Nat.le_refl 0, setR_new_at (Heap.get?_push_of_some _ atS)⟩ fun s' c hm hc hS => ?_
    · have hi : i < ns.length := by rw [← size_eq]; exact (Array.getElem?_eq_some_iff.mp hv).1
      obtain ⟨t, e⟩ := PyProof.Rows.IntsAre.int_at hit i v (by rw [Array.getElem?_toList]; exact hv)
      refine ⟨ns[i], t, List.getElem?_eq_getElem hi, ?_⟩
      rw [e, List.getD_eq_getElem?_getD, List.getElem?_eq_getElem hi] <;> rfl
    · obtain ⟨h', g2, d', tk', os'⟩ := s'
      obtain rfl : g2 = s.gens := hm.gens
      obtain rfl : d' = s.drawn := hm.drawn
      obtain rfl : os' = s.os := hm.os
      rw [size_eq] at hc
      exact wpAny_pure (wpAny_pure ⟨rfl, h', tk', c, rfl, hS, hc, fun b o e => hm.heap b o (setL_old e) (Heap.get?_push_of_some _ (Heap.get?_push_of_some _ e))⟩)
  · rcases r with e | fl
    · exact hv
    rcases fl with _ | _ | _ | obj
    · exact hv.elim
    · exact hv.elim
    · exact hv.elim
    obtain ⟨rfl, h', tk, c', rfl, hS, hc, hk⟩ := hv
    repeat (any_goals (first | assumption | wp_step))
    exact k _ _ _ hS hc hk
end
end G

set_option maxRecDepth 100000
set_option maxHeartbeats 4000000
namespace G
open PySem PySem.Spec PyProof.Rows L2
/-! ### builtins by what they make of data -/
section
variable {X : Cx}
theorem CallR.imp {f : Value} {r r' : List V → Hp → VK → Prop} (h : CallR X f r) (k : ∀ xs H Q, Bnd H → r' xs H Q → r xs H Q) : CallR X f r' :=
  fun pins s σ H xs us Q I rs q => h pins s σ H xs us Q I rs (k xs H Q (bnd_of I) q)
def absD : List Dt → Option Dt
  | [.int a] => some (.int (if a < 0 then -a else a))
  | _ => none
theorem absB : CallR X (.builtin "abs") (rN X.K absD) := CallR.imp call_abs fun xs H Q b h => by
  obtain ⟨G, ds, r, s, h1, h2, k⟩ := h
  unfold absD at h2
  split at h2
  · cases h2
    cases h1 with
    | cons a t =>
      cases a; cases t
      exact ⟨_, rfl, k G H _ (.refl s) (.int _)⟩
  · cases h2
def lenD : List Dt → Option Dt
  | [.list xs] => some (.int xs.length)
  | [.tuple xs] => some (.int xs.length)
  | [.str z] => if z.length ≤ sizeLine then some (.int z.length) else none
  | [.dict xs] => some (.int xs.length)
  | _ => none
theorem lenB : CallR X (.builtin "len") (rN X.K lenD) := CallR.imp (CallR.or call_len_seq call_len_str) fun xs H Q b h => by
  obtain ⟨G, ds, r, s, h1, h2, k⟩ := h
  unfold lenD at h2
  split at h2
  · cases h2
    cases h1 with
    | cons a t =>
      obtain ⟨p, us, rfl, a1, a2⟩ := dp_lst a
      cases t
      exact .inl ⟨p, us, rfl, .inl (.inl (rd_mono s a1)), by rw [dpAll_len a2]; exact k G H _ (.refl s) (.int _)⟩
  · cases h2
    cases h1 with
    | cons a t =>
      obtain ⟨p, us, rfl, a1, a2⟩ := dp_tup a
      cases t
      exact .inl ⟨p, us, rfl, .inr (seqT_mono s a1), by rw [dpAll_len a2]; exact k G H _ (.refl s) (.int _)⟩
  · rename_i z
    by_cases hz : z.length ≤ sizeLine
    · rw [if_pos hz] at h2; cases h2
      cases h1 with
      | cons a t =>
        cases a; cases t
        exact .inr ⟨z, rfl, hz, k G H _ (.refl s) (.int _)⟩
    · rw [if_neg hz] at h2; cases h2
  · cases h2
    cases h1 with
    | cons a t =>
      cases t
      cases a with
      | scr ns hs =>
        refine .inl ⟨_, _, rfl, .inl (seqL_mono s hs), ?_⟩
        rw [List.length_map]
        refine k G H _ (.refl s) ?_
        rw [List.length_map]
        exact .int _
  · cases h2
/-- the greatest, the least of some ints -/
def maxI : List Int → Int
  | [] => 0
  | [a] => a
  | a :: b :: r => if maxI (b :: r) > a then maxI (b :: r) else a
def minI : List Int → Int
  | [] => 0
  | [a] => a
  | a :: b :: r => if minI (b :: r) < a then minI (b :: r) else a
theorem maxI_mem : ∀ {l : List Int}, l ≠ [] → maxI l ∈ l
  | [], h => absurd rfl h
  | [a], _ => by simp [maxI]
  | a :: b :: r, _ => by
    unfold maxI
    have ih := maxI_mem (l := b :: r) (by simp)
    split
    · exact List.mem_cons_of_mem _ ih
    · exact List.mem_cons_self
theorem maxI_le : ∀ {l : List Int} {x : Int}, x ∈ l → x ≤ maxI l
  | [], _, h => nomatch h
  | [a], x, h => by simp [maxI] at h ⊢; omega
  | a :: b :: r, x, h => by
    unfold maxI
    rcases List.mem_cons.mp h with e | h
    · split <;> omega
    · have ih := maxI_le (l := b :: r) h
      split <;> omega
theorem minI_mem : ∀ {l : List Int}, l ≠ [] → minI l ∈ l
  | [], h => absurd rfl h
  | [a], _ => by simp [minI]
  | a :: b :: r, _ => by
    unfold minI
    have ih := minI_mem (l := b :: r) (by simp)
    split
    · exact List.mem_cons_of_mem _ ih
    · exact List.mem_cons_self
theorem minI_le : ∀ {l : List Int} {x : Int}, x ∈ l → minI l ≤ x
  | [], _, h => nomatch h
  | [a], x, h => by simp [minI] at h ⊢; omega
  | a :: b :: r, x, h => by
    unfold minI
    rcases List.mem_cons.mp h with e | h
    · split <;> omega
    · have ih := minI_le (l := b :: r) h
      split <;> omega
theorem maxI_of {l : List Int} {m : Int} (h : m ∈ l) (u : ∀ y, y ∈ l → y ≤ m) : m = maxI l := by
  have h1 := maxI_le h
  have h2 := u _ (maxI_mem (List.ne_nil_of_mem h))
  omega
theorem minI_of {l : List Int} {m : Int} (h : m ∈ l) (u : ∀ y, y ∈ l → m ≤ y) : m = minI l := by
  have h1 := minI_le h
  have h2 := u _ (minI_mem (List.ne_nil_of_mem h))
  omega
/-- all ints -/
def intsD : List Dt → Option (List Int)
  | [] => some []
  | .int i :: r => (intsD r).map fun l => i :: l
  | _ => none
theorem intsD_of : ∀ {ds : List Dt} {ns : List Int}, intsD ds = some ns → ds = ns.map .int
  | [], _, h => by cases h; rfl
  | .int i :: r, ns, h => by
    obtain ⟨l, h1, rfl⟩ := opt_map (show (intsD r).map (fun l => i :: l) = some ns from h)
    rw [intsD_of h1]; rfl
  | .none :: _, _, h => by cases h
  | .bool _ :: _, _, h => by cases h
  | .str _ :: _, _, h => by cases h
  | .list _ :: _, _, h => by cases h
  | .tuple _ :: _, _, h => by cases h
  | .dict _ :: _, _, h => by cases h
theorem intsD_map (ns : List Int) : intsD (ns.map .int) = some ns := by
  induction ns with
  | nil => rfl
  | cons n r ih => show (intsD (r.map .int)).map (fun l => n :: l) = _; rw [ih]; rfl
/-- all truths -/
def blsD : List Dt → Option (List Bool)
  | [] => some []
  | .bool i :: r => (blsD r).map fun l => i :: l
  | _ => none
theorem blsD_of : ∀ {ds : List Dt} {ns : List Bool}, blsD ds = some ns → ds = ns.map .bool
  | [], _, h => by cases h; rfl
  | .bool i :: r, ns, h => by
    obtain ⟨l, h1, rfl⟩ := opt_map (show (blsD r).map (fun l => i :: l) = some ns from h)
    rw [blsD_of h1]; rfl
  | .none :: _, _, h => by cases h
  | .int _ :: _, _, h => by cases h
  | .str _ :: _, _, h => by cases h
  | .list _ :: _, _, h => by cases h
  | .tuple _ :: _, _, h => by cases h
  | .dict _ :: _, _, h => by cases h
theorem blsD_map (ns : List Bool) : blsD (ns.map .bool) = some ns := by
  induction ns with
  | nil => rfl
  | cons n r ih => show (blsD (r.map .bool)).map (fun l => n :: l) = _; rw [ih]; rfl
def strsD : List Dt → Option (List Str)
  | [] => some []
  | .str i :: r => (strsD r).map fun l => i :: l
  | _ => none
theorem strsD_of : ∀ {ds : List Dt} {ns : List Str}, strsD ds = some ns → ds = ns.map .str
  | [], _, h => by cases h; rfl
  | .str i :: r, ns, h => by
    obtain ⟨l, h1, rfl⟩ := opt_map (show (strsD r).map (fun l => i :: l) = some ns from h)
    rw [strsD_of h1]; rfl
  | .none :: _, _, h => by cases h
  | .bool _ :: _, _, h => by cases h
  | .int _ :: _, _, h => by cases h
  | .list _ :: _, _, h => by cases h
  | .tuple _ :: _, _, h => by cases h
  | .dict _ :: _, _, h => by cases h
theorem strsD_map (ns : List Str) : strsD (ns.map .str) = some ns := by
  induction ns with
  | nil => rfl
  | cons n r ih => show (strsD (r.map .str)).map (fun l => n :: l) = _; rw [ih]; rfl
def maxD : List Dt → Option Dt
  | [.int a, .int b] => some (.int (if b > a then b else a))
  | [.list xs] => (intsD xs).bind fun ns => if 0 < ns.length then some (.int (maxI ns)) else none
  | _ => none
theorem maxB (hc : X.calm = true) : CallR X (.builtin "max") (rN X.K maxD) := CallR.imp (CallR.or (call_max2 hc) (cr_max hc)) fun xs H Q b h => by
  obtain ⟨G, ds, r, s, h1, h2, k⟩ := h
  unfold maxD at h2
  split at h2
  · cases h2
    cases h1 with
    | cons a t =>
      cases a
      cases t with
      | cons a t =>
        cases a; cases t
        exact .inl ⟨_, _, rfl, k G H _ (.refl s) (.int _)⟩
  · obtain ⟨ns, e1, e2⟩ := opt_bind h2
    by_cases hl : 0 < ns.length
    · rw [if_pos hl] at e2; cases e2
      have := intsD_of e1
      subst this
      cases h1 with
      | cons a t =>
        obtain ⟨p, us, rfl, a1, a2⟩ := dp_lst a
        cases t
        have := dpAll_ints a2
        subst this
        exact .inr ⟨p, ns, rfl, .inl (rd_mono s a1), hl, fun m hm hu => by rw [maxI_of hm hu]; exact k G H _ (.refl s) (.int _)⟩
    · rw [if_neg hl] at e2; cases e2
  · cases h2
def minD : List Dt → Option Dt
  | [.int a, .int b] => some (.int (if b < a then b else a))
  | [.list xs] => (intsD xs).bind fun ns => if 0 < ns.length then some (.int (minI ns)) else none
  | _ => none
theorem minB (hc : X.calm = true) : CallR X (.builtin "min") (rN X.K minD) := CallR.imp (CallR.or (call_min2 hc) (cr_min hc)) fun xs H Q b h => by
  obtain ⟨G, ds, r, s, h1, h2, k⟩ := h
  unfold minD at h2
  split at h2
  · cases h2
    cases h1 with
    | cons a t =>
      cases a
      cases t with
      | cons a t =>
        cases a; cases t
        exact .inl ⟨_, _, rfl, k G H _ (.refl s) (.int _)⟩
  · obtain ⟨ns, e1, e2⟩ := opt_bind h2
    by_cases hl : 0 < ns.length
    · rw [if_pos hl] at e2; cases e2
      have := intsD_of e1
      subst this
      cases h1 with
      | cons a t =>
        obtain ⟨p, us, rfl, a1, a2⟩ := dp_lst a
        cases t
        have := dpAll_ints a2
        subst this
        exact .inr ⟨p, ns, rfl, .inl (rd_mono s a1), hl, fun m hm hu => by rw [minI_of hm hu]; exact k G H _ (.refl s) (.int _)⟩
    · rw [if_neg hl] at e2; cases e2
  · cases h2
def intD : List Dt → Option Dt
  | [.int a] => some (.int a)
  | [.bool a] => some (.int (if a then 1 else 0))
  | _ => none
theorem intB : CallR X (.type "int") (rN X.K intD) := CallR.imp call_int1 fun xs H Q b h => by
  obtain ⟨G, ds, r, s, h1, h2, k⟩ := h
  unfold intD at h2
  split at h2
  · cases h2
    cases h1 with
    | cons a t =>
      cases a; cases t
      exact .inl ⟨_, rfl, k G H _ (.refl s) (.int _)⟩
  · cases h2
    cases h1 with
    | cons a t =>
      cases a; cases t
      exact .inr ⟨_, rfl, k G H _ (.refl s) (.int _)⟩
  · cases h2
def strD : List Dt → Option Dt
  | [.int a] => if a.natAbs.log2 < 1920 then some (.str (Str.ofString (toString a))) else none
  | _ => none
theorem strB : CallR X (.type "str") (rN X.K strD) := CallR.imp call_str_int fun xs H Q b h => by
  obtain ⟨G, ds, r, s, h1, h2, k⟩ := h
  unfold strD at h2
  split at h2
  · rename_i a
    by_cases ha : a.natAbs.log2 < 1920
    · rw [if_pos ha] at h2; cases h2
      cases h1 with
      | cons a t =>
        cases a; cases t
        exact ⟨_, rfl, ha, k G H _ (.refl s) (.str _)⟩
    · rw [if_neg ha] at h2; cases h2
  · cases h2
def sumD : List Dt → Option Dt
  | [.list xs] => (intsD xs).map fun ns => .int ns.sum
  | _ => none
theorem sumB (hc : X.calm = true) : CallR X (.builtin "sum") (rN X.K sumD) := CallR.imp (cr_sum hc) fun xs H Q b h => by
  obtain ⟨G, ds, r, s, h1, h2, k⟩ := h
  unfold sumD at h2
  split at h2
  · obtain ⟨ns, e1, e2⟩ := opt_map h2
    cases e2
    have := intsD_of e1
    subst this
    cases h1 with
    | cons a t =>
      obtain ⟨p, us, rfl, a1, a2⟩ := dp_lst a
      cases t
      have := dpAll_ints a2
      subst this
      exact ⟨p, ns, rfl, .inl (rd_mono s a1), k G H _ (.refl s) (.int _)⟩
  · cases h2
def allD : List Dt → Option Dt
  | [.list xs] => (blsD xs).map fun ns => .bool (ns.all id)
  | _ => none
theorem allB (hc : X.calm = true) : CallR X (.builtin "all") (rN X.K allD) := CallR.imp (cr_all hc) fun xs H Q b h => by
  obtain ⟨G, ds, r, s, h1, h2, k⟩ := h
  unfold allD at h2
  split at h2
  · obtain ⟨ns, e1, e2⟩ := opt_map h2
    cases e2
    have := blsD_of e1
    subst this
    cases h1 with
    | cons a t =>
      obtain ⟨p, us, rfl, a1, a2⟩ := dp_lst a
      cases t
      have := dpAll_bls a2
      subst this
      exact ⟨p, ns, rfl, .inl (rd_mono s a1), k G H _ (.refl s) (.bl _)⟩
  · cases h2
def anyD : List Dt → Option Dt
  | [.list xs] => (blsD xs).map fun ns => .bool (ns.any id)
  | _ => none
theorem anyB (hc : X.calm = true) : CallR X (.builtin "any") (rN X.K anyD) := CallR.imp (cr_any hc) fun xs H Q b h => by
  obtain ⟨G, ds, r, s, h1, h2, k⟩ := h
  unfold anyD at h2
  split at h2
  · obtain ⟨ns, e1, e2⟩ := opt_map h2
    cases e2
    have := blsD_of e1
    subst this
    cases h1 with
    | cons a t =>
      obtain ⟨p, us, rfl, a1, a2⟩ := dp_lst a
      cases t
      have := dpAll_bls a2
      subst this
      exact ⟨p, ns, rfl, .inl (rd_mono s a1), k G H _ (.refl s) (.bl _)⟩
  · cases h2
def listD : List Dt → Option (List Dt)
  | [.list xs] => some xs
  | [.tuple xs] => some xs
  | _ => none
theorem listB : CallR X (.type "list") (rNO X.K listD) := CallR.imp call_list_of fun xs H Q b h => by
  obtain ⟨G, ds, r, s, h1, h2, k⟩ := h
  unfold listD at h2
  split at h2
  · cases h2
    cases h1 with
    | cons a t =>
      obtain ⟨p, us, rfl, a1, a2⟩ := dp_lst a
      cases t
      exact ⟨p, us, rfl, .inl (.inl (rd_mono s a1)), fun l hl => k G _ l _ (.newH s hl) hl upd_same (s.no hl) a2⟩
  · cases h2
    cases h1 with
    | cons a t =>
      obtain ⟨p, us, rfl, a1, a2⟩ := dp_tup a
      cases t
      exact ⟨p, us, rfl, .inr (seqT_mono s a1), fun l hl => k G _ l _ (.newH s hl) hl upd_same (s.no hl) a2⟩
  · cases h2
def tupleD : List Dt → Option Dt
  | [.list xs] => some (.tuple xs)
  | [.tuple xs] => some (.tuple xs)
  | _ => none
theorem tupleB : CallR X (.type "tuple") (rN X.K tupleD) := CallR.imp call_tuple_of fun xs H Q b h => by
  obtain ⟨G, ds, r, s, h1, h2, k⟩ := h
  unfold tupleD at h2
  split at h2
  · cases h2
    cases h1 with
    | cons a t =>
      obtain ⟨p, us, rfl, a1, a2⟩ := dp_lst a
      cases t
      exact ⟨p, us, rfl, .inl ⟨.inl (rd_mono s a1), fun l hl => k _ _ _ (.new s hl) (.tup (.of upd_same) (dpAll_mono (Sub.upd .refl (s.no hl)) a2))⟩⟩
  · cases h2
    cases h1 with
    | cons a t =>
      have a0 := a
      obtain ⟨p, us, rfl, a1, a2⟩ := dp_tup a
      cases t
      exact ⟨p, us, rfl, .inr ⟨seqT_mono s a1, k G H _ (.refl s) a0⟩⟩
  · cases h2
/-! ### isinstance of one built-in class -/
def tyN : Dt → String
  | .none => "NoneType"
  | .bool _ => "bool"
  | .int _ => "int"
  | .str _ => "str"
  | .list _ => "list"
  | .tuple _ => "tuple"
  | .dict _ => "list"
theorem tyX_of {K : PySem.W.Frag} {G H : Hp} {x : V} {d : Dt} (s : Sub G H) (h : Dq K G x d) : TyX K H x (.type (tyN d)) := by
  cases h with
  | non => exact .base .non
  | bl b => exact .base (.bl b)
  | int i => exact .base (.int i)
  | str y => exact .base (.str y)
  | lst h r =>
    rcases h with h | ⟨o, h⟩
    · exact .base (.lst (s _ _ h))
    · exact .base (.frz (s _ _ h))
  | tup h r =>
    rcases h with (h | ⟨o, h⟩) | ⟨o, its, n, h1, h2, _⟩
    · exact .base (.tup (s _ _ h))
    · exact .fTuple (s _ _ h)
    · exact .kTuple h1 h2
  | scr ns h =>
    rcases h with (h | ⟨o, h⟩) | ⟨o, its, n, h1, h2, _⟩
    · exact .base (.lst (s _ _ h))
    · exact .base (.frz (s _ _ h))
    · exact .kList h1 h2
/-- the class T, or not: its answers by the value's own class -/
def isiD (T : String) : Dt → Option Dt := fun d => (kitB (tyN d) T).map .bool
def isiE (T : String) (f : Ex) : Ex := unE (isiD T) f
theorem pd_isi {T : String} {x : Str} {e : Expr} {p tp pos : Pos} {f : Ex} (hg : Gl X "isinstance") (hm : X.mg "isinstance" = none) (he : PEd X e f) (ht : PE X (.Name x tp) (L2.tC (.ty T)))
    (hs : starEach (e :: [.Name x tp]) X.env = (false, eval e X.env) :: starEach [.Name x tp] X.env := by rfl) (hs2 : starEach (.Name x tp :: []) X.env = (false, eval (.Name x tp) X.env) :: starEach [] X.env := by rfl) (hpl : (backTo pos (starEach [.Name x tp] X.env)).any (·.1) = false := by rfl) :
    PEd X (.Call (.Name "isinstance" p) [e, .Name x tp] [] pos) (isiE T f) := PE.to (L2.pe_callB call_isi hg hm boot_isinstance (L2.pa_cons he (L2.pa_cons ht L2.pa_nil hs2) hs) (by decide) (by decide) hs hpl) fun σ H Q _ q => by
  obtain ⟨B, G, R, ρ, d, ρ', o, e0, k⟩ := q
  obtain ⟨p, e1, e2⟩ := opt_bind e0
  obtain ⟨r, e3, e4⟩ := opt_map e2
  obtain ⟨b, e5, e6⟩ := opt_map e3
  cases e4; cases e6
  exact ⟨B, G, R, ρ, p.1, p.2, o, e1, fun G1 H1 R1 v s1 o1 d1 => ⟨v, .ty T, _, _, b, rfl, .ty T, tyX_of o1.sub d1, kit_ty e5, fun _ => k G1 H1 R1 _ s1 o1 (.bl _)⟩⟩
theorem isi_of {T a : String} {b : Bool} (h : kitB a T = some b) : (kitB a T).map PyData.bool = some (.bool b) := by rw [h]; rfl
def isInt : Dt → Bool
  | .bool _ => true
  | .int _ => true
  | _ => false
theorem isi_int : ∀ d : Dt, isiD "int" d = some (.bool (isInt d))
  | .none => isi_of (T := "int") (a := "NoneType") (b := false) (by decide +kernel)
  | .bool _ => isi_of (T := "int") (a := "bool") (b := true) (by decide +kernel)
  | .int _ => isi_of (T := "int") (a := "int") (b := true) (by decide +kernel)
  | .str _ => isi_of (T := "int") (a := "str") (b := false) (by decide +kernel)
  | .list _ => isi_of (T := "int") (a := "list") (b := false) (by decide +kernel)
  | .tuple _ => isi_of (T := "int") (a := "tuple") (b := false) (by decide +kernel)
  | .dict _ => isi_of (T := "int") (a := "list") (b := false) (by decide +kernel)
def isBool : Dt → Bool
  | .bool _ => true
  | _ => false
theorem isi_bool : ∀ d : Dt, isiD "bool" d = some (.bool (isBool d))
  | .none => isi_of (T := "bool") (a := "NoneType") (b := false) (by decide +kernel)
  | .bool _ => isi_of (T := "bool") (a := "bool") (b := true) (by decide +kernel)
  | .int _ => isi_of (T := "bool") (a := "int") (b := false) (by decide +kernel)
  | .str _ => isi_of (T := "bool") (a := "str") (b := false) (by decide +kernel)
  | .list _ => isi_of (T := "bool") (a := "list") (b := false) (by decide +kernel)
  | .tuple _ => isi_of (T := "bool") (a := "tuple") (b := false) (by decide +kernel)
  | .dict _ => isi_of (T := "bool") (a := "list") (b := false) (by decide +kernel)
def isStr : Dt → Bool
  | .str _ => true
  | _ => false
theorem isi_str : ∀ d : Dt, isiD "str" d = some (.bool (isStr d))
  | .none => isi_of (T := "str") (a := "NoneType") (b := false) (by decide +kernel)
  | .bool _ => isi_of (T := "str") (a := "bool") (b := false) (by decide +kernel)
  | .int _ => isi_of (T := "str") (a := "int") (b := false) (by decide +kernel)
  | .str _ => isi_of (T := "str") (a := "str") (b := true) (by decide +kernel)
  | .list _ => isi_of (T := "str") (a := "list") (b := false) (by decide +kernel)
  | .tuple _ => isi_of (T := "str") (a := "tuple") (b := false) (by decide +kernel)
  | .dict _ => isi_of (T := "str") (a := "list") (b := false) (by decide +kernel)
def isList : Dt → Bool
  | .list _ => true
  | .dict _ => true
  | _ => false
theorem isi_list : ∀ d : Dt, isiD "list" d = some (.bool (isList d))
  | .none => isi_of (T := "list") (a := "NoneType") (b := false) (by decide +kernel)
  | .bool _ => isi_of (T := "list") (a := "bool") (b := false) (by decide +kernel)
  | .int _ => isi_of (T := "list") (a := "int") (b := false) (by decide +kernel)
  | .str _ => isi_of (T := "list") (a := "str") (b := false) (by decide +kernel)
  | .list _ => isi_of (T := "list") (a := "list") (b := true) (by decide +kernel)
  | .tuple _ => isi_of (T := "list") (a := "tuple") (b := false) (by decide +kernel)
  | .dict _ => isi_of (T := "list") (a := "list") (b := true) (by decide +kernel)
def isTuple : Dt → Bool
  | .tuple _ => true
  | _ => false
theorem isi_tuple : ∀ d : Dt, isiD "tuple" d = some (.bool (isTuple d))
  | .none => isi_of (T := "tuple") (a := "NoneType") (b := false) (by decide +kernel)
  | .bool _ => isi_of (T := "tuple") (a := "bool") (b := false) (by decide +kernel)
  | .int _ => isi_of (T := "tuple") (a := "int") (b := false) (by decide +kernel)
  | .str _ => isi_of (T := "tuple") (a := "str") (b := false) (by decide +kernel)
  | .list _ => isi_of (T := "tuple") (a := "list") (b := false) (by decide +kernel)
  | .tuple _ => isi_of (T := "tuple") (a := "tuple") (b := true) (by decide +kernel)
  | .dict _ => isi_of (T := "tuple") (a := "list") (b := false) (by decide +kernel)
/-! ### in, not in: flat items or data -/
def flatD : Dt → Bool
  | .none => true
  | .bool _ => true
  | .int _ => true
  | .str _ => true
  | _ => false
theorem flat_of {K : PySem.W.Frag} {G : Hp} {x : V} {d : Dt} (h : Dq K G x d) : flatV x = flatD d := by
  cases h <;> rfl
end
end G

set_option maxRecDepth 100000
set_option maxHeartbeats 4000000
namespace G
open PySem PySem.Spec PyProof.Rows L2
/-! ### what a text's defs may lean on -/
/-- a def at level k, at its name -/
structure Cal (P : Program) (w : World) (K : PySem.W.Frag) (mg : Str → Option Value) (base : Heap) (k : Nat) (x : Str) (ps : List Str) (M : Mt) : Prop where
  ex : ∃ f fd, FnOk P w K mg base CX0 k f fd ps (spD K ps.length M) ∧ mg x = some (.ref f) ∧ PySem.W.keepIn K (.ref f) = true ∧ Binds K fd ps []
structure CalO (P : Program) (w : World) (K : PySem.W.Frag) (mg : Str → Option Value) (base : Heap) (k : Nat) (x : Str) (ps : List Str) (M : MtO) : Prop where
  ex : ∃ f fd, FnOk P w K mg base CX0 k f fd ps (spO K ps.length M) ∧ mg x = some (.ref f) ∧ PySem.W.keepIn K (.ref f) = true ∧ Binds K fd ps []
/-- a constant of the module -/
structure Cst (K : PySem.W.Frag) (mg : Str → Option Value) (x : Str) (d : Dt) : Prop where
  ex : ∃ v u, mg x = some u ∧ RelV v u ∧ ∀ G, Dq K G v d
section
variable {X : Cx} {j k : Nat} {x : Str} {ps : List Str} {M : Mt} {p pos : Pos} {e : Expr} {es : List Expr} {g : Cs}
theorem pd_callC {n : Nat} (C : Cal X.prog X.w X.K X.mg X.base j x ps M) (hr : Room k X.A) (hj : j ≤ k) (hg : Gl X x) (ha : PCd X (e :: es) g) (hdb : (x == ("__debug__" : Str)) = false := by decide) (he : starEach (e :: es) X.env = (false, eval e X.env) :: starEach es X.env := by rfl)
    (hpl : (backTo pos (starEach es X.env)).any (·.1) = false := by rfl) (hl : ps.length = n := by rfl) : PEd X (.Call (.Name x p) (e :: es) [] pos) (callE n M g) := by
  subst hl
  obtain ⟨f, fd, F, hm, hk, hb⟩ := C.ex
  exact pd_call F (hr.mono hj) hg hm hk hb ha hdb he hpl
theorem po_callC {M : MtO} {n : Nat} (C : CalO X.prog X.w X.K X.mg X.base j x ps M) (hr : Room k X.A) (hj : j ≤ k) (hg : Gl X x) (ha : PCd X (e :: es) g) (hdb : (x == ("__debug__" : Str)) = false := by decide) (he : starEach (e :: es) X.env = (false, eval e X.env) :: starEach es X.env := by rfl)
    (hpl : (backTo pos (starEach es X.env)).any (·.1) = false := by rfl) (hl : ps.length = n := by rfl) : PEo X (.Call (.Name x p) (e :: es) [] pos) (callO n M g) := by
  subst hl
  obtain ⟨f, fd, F, hm, hk, hb⟩ := C.ex
  exact po_call F (hr.mono hj) hg hm hk hb ha hdb he hpl
theorem pd_const {d : Dt} (C : Cst X.K X.mg x d) (hg : Gl X x) (hd : (x == ("__debug__" : Str)) = false := by decide) : PEd X (.Name x pos) (conE d) := by
  obtain ⟨v, u, hm, r, h⟩ := C.ex
  exact pd_con (pe_glob hg hm r hd) h
/-- the list that a name owns, handed on -/
def ownNm (i : Nat) : Exs := fun ρ => match ρ[i]? with
  | some (.own ds) => some (ds, ρ.set i .un)
  | _ => none
theorem po_own {i : Nat} (h : PE X (.Name x pos) (tVar i)) : PEo X (.Name x pos) (ownNm i) := PE.to h fun σ H Q _ q => by
  obtain ⟨B, G, R, ρ, d, ρ', o, e, k⟩ := q
  unfold ownNm at e
  split at e
  · rename_i ds hd
    cases e
    obtain ⟨p, xs, a1, a2, a3, a4, a5, a6⟩ := o.ownAt hd
    refine ⟨.ref p, a2, fun _ => ?_⟩
    have o2 := o.setUn (i := i) (v := some (V.ref p))
    have es : σ.set i (some (V.ref p)) = σ := by
      apply List.ext_getElem?
      intro j
      by_cases hj : j = i
      · subst hj
        rw [List.getElem?_set_self (List.getElem?_eq_some_iff.mp a2).1, a2]
      · rw [List.getElem?_set_ne (Ne.symm hj)]
    rw [es] at o2
    refine k G H _ p .refl o2 ⟨⟨xs, a3, a6⟩, a4, a5, o.rF i p (by rw [a1]; simp), fun j hj => ?_⟩
    by_cases e1 : j = i
    · rw [if_pos e1] at hj; cases hj
    · rw [if_neg e1] at hj
      exact e1 (o.rD j i p hj (by rw [a1]; simp))
  · cases e
end
/-- the builtins' names that no def of the text takes -/
structure Blt (mg : Str → Option Value) : Prop where
  b_abs : mg "abs" = none
  b_all : mg "all" = none
  b_any : mg "any" = none
  b_bool : mg "bool" = none
  b_dict : mg "dict" = none
  b_enumerate : mg "enumerate" = none
  b_int : mg "int" = none
  b_isinstance : mg "isinstance" = none
  b_len : mg "len" = none
  b_list : mg "list" = none
  b_max : mg "max" = none
  b_min : mg "min" = none
  b_range : mg "range" = none
  b_repr : mg "repr" = none
  b_set : mg "set" = none
  b_sorted : mg "sorted" = none
  b_str : mg "str" = none
  b_sum : mg "sum" = none
  b_tuple : mg "tuple" = none
  b_zip : mg "zip" = none
/-! ### the law itself: a list of ints is handed in, True comes out -/
def spLaw (K : PySem.W.Frag) : Sp := fun vs H Q _ => ∃ (a : Addr) (ns : List Int), vs = [.ref a] ∧ SqL K H a (ns.map V.int) ∧ ns.length ≤ 63 ∧ Only H ∧ ∀ v H', v = V.bl true → Q v H'
end G

set_option maxRecDepth 100000
set_option maxHeartbeats 4000000
namespace G
open PySem PySem.Spec PyProof.Rows L2
/-! ### sorted(set(xs)): plain -/
theorem sorted_unique {α : Type} {r : α → α → Prop} (irr : ∀ a, ¬ r a a) (tr : ∀ a b c, r a b → r b c → r a c) : ∀ {l m : List α}, l.Pairwise r → m.Pairwise r → (∀ x, x ∈ l ↔ x ∈ m) → l = m
  | [], [], _, _, _ => rfl
  | [], b :: m, _, _, h => absurd ((h b).mpr List.mem_cons_self) (by simp)
  | a :: l, [], _, _, h => absurd ((h a).mp List.mem_cons_self) (by simp)
  | a :: l, b :: m, p, q, h => by
    obtain ⟨p1, p2⟩ := List.pairwise_cons.mp p
    obtain ⟨q1, q2⟩ := List.pairwise_cons.mp q
    have e : a = b := by
      rcases List.mem_cons.mp ((h a).mp List.mem_cons_self) with e | e
      · exact e
      · rcases List.mem_cons.mp ((h b).mpr List.mem_cons_self) with e2 | e2
        · exact e2.symm
        · exact absurd (tr _ _ _ (p1 _ e2) (q1 _ e)) (irr a)
    subst e
    rw [sorted_unique irr tr p2 q2 fun x => ⟨fun hx => ?_, fun hx => ?_⟩]
    · rcases List.mem_cons.mp ((h x).mp (List.mem_cons_of_mem _ hx)) with e | e
      · exact absurd (p1 x hx) (e ▸ irr a)
      · exact e
    · rcases List.mem_cons.mp ((h x).mpr (List.mem_cons_of_mem _ hx)) with e | e
      · exact absurd (q1 x hx) (e ▸ irr a)
      · exact e
def insU {α : Type} [DecidableEq α] (lt : α → α → Bool) (x : α) : List α → List α
  | [] => [x]
  | y :: r => if x = y then y :: r else if lt x y = true then x :: y :: r else y :: insU lt x r
def uniq {α : Type} [DecidableEq α] (lt : α → α → Bool) (l : List α) : List α := l.foldr (insU lt) []
section
variable {α : Type} [DecidableEq α] {lt : α → α → Bool}
theorem mem_insU {x y : α} : ∀ {l : List α}, y ∈ insU lt x l ↔ y = x ∨ y ∈ l
  | [] => by simp [insU]
  | z :: r => by
    unfold insU
    by_cases e : x = z
    · subst e; rw [if_pos rfl]; simp
    · rw [if_neg e]
      by_cases h : lt x z = true
      · rw [if_pos h]; simp
      · rw [if_neg h, List.mem_cons, mem_insU, List.mem_cons]
        constructor
        · rintro (a | a | a)
          · exact .inr (.inl a)
          · exact .inl a
          · exact .inr (.inr a)
        · rintro (a | a | a)
          · exact .inr (.inl a)
          · exact .inl a
          · exact .inr (.inr a)
theorem mem_uniq {y : α} : ∀ {l : List α}, y ∈ uniq lt l ↔ y ∈ l
  | [] => by simp [uniq]
  | z :: r => by
    show y ∈ insU lt z (uniq lt r) ↔ _
    rw [mem_insU, mem_uniq, List.mem_cons]
theorem len_insU (x : α) : ∀ l : List α, (insU lt x l).length ≤ l.length + 1
  | [] => by simp [insU]
  | z :: r => by
    unfold insU
    split
    · simp
    · split
      · simp
      · have := len_insU x r
        simp; omega
theorem len_uniq : ∀ l : List α, (uniq lt l).length ≤ l.length
  | [] => by simp [uniq]
  | z :: r => by
    have h1 := len_insU (lt := lt) z (uniq lt r)
    have h2 := len_uniq r
    show (insU lt z (uniq lt r)).length ≤ _
    rw [List.length_cons]; omega
theorem insU_ne (x : α) (l : List α) : insU lt x l ≠ [] := by
  cases l with
  | nil => simp [insU]
  | cons z r => unfold insU; split <;> (try split) <;> simp
/-- the order holds among what S tells -/
theorem pw_insU {S : α → Prop} (tri : ∀ a b, S a → S b → a = b ∨ lt a b = true ∨ lt b a = true) (tr : ∀ a b c, lt a b = true → lt b c = true → lt a c = true) {x : α} (hx : S x) : ∀ {l : List α}, (∀ y ∈ l, S y) → l.Pairwise (fun a b => lt a b = true) → (insU lt x l).Pairwise (fun a b => lt a b = true)
  | [], _, _ => by simp [insU]
  | z :: r, hs, p => by
    obtain ⟨p1, p2⟩ := List.pairwise_cons.mp p
    unfold insU
    by_cases e : x = z
    · rw [if_pos e]; exact p
    · rw [if_neg e]
      by_cases h : lt x z = true
      · rw [if_pos h]
        refine List.pairwise_cons.mpr ⟨fun y hy => ?_, p⟩
        rcases List.mem_cons.mp hy with e2 | e2
        · rw [e2]; exact h
        · exact tr _ _ _ h (p1 y e2)
      · rw [if_neg h]
        refine List.pairwise_cons.mpr ⟨fun y hy => ?_, pw_insU tri tr hx (fun y hy => hs y (List.mem_cons_of_mem _ hy)) p2⟩
        rcases mem_insU.mp hy with e2 | e2
        · rw [e2]
          rcases tri x z hx (hs z List.mem_cons_self) with q | q | q
          · exact absurd q e
          · exact absurd q h
          · exact q
        · exact p1 y e2
theorem pw_uniq {S : α → Prop} (tri : ∀ a b, S a → S b → a = b ∨ lt a b = true ∨ lt b a = true) (tr : ∀ a b c, lt a b = true → lt b c = true → lt a c = true) : ∀ {l : List α}, (∀ y ∈ l, S y) → (uniq lt l).Pairwise (fun a b => lt a b = true)
  | [], _ => by simp [uniq]
  | z :: r, hs => pw_insU tri tr (hs z List.mem_cons_self) (fun y hy => hs y (List.mem_cons_of_mem _ (mem_uniq.mp hy))) (pw_uniq tri tr fun y hy => hs y (List.mem_cons_of_mem _ hy))
end
def ltI (a b : Int) : Bool := decide (a < b)
def ltT : List Int → List Int → Bool
  | [], [] => false
  | [], _ :: _ => true
  | _ :: _, [] => false
  | a :: r, b :: s => if a = b then ltT r s else decide (a < b)
theorem ltT_irr : ∀ a, ltT a a = false
  | [] => rfl
  | a :: r => by unfold ltT; rw [if_pos rfl]; exact ltT_irr r
theorem ltT_tr : ∀ a b c, ltT a b = true → ltT b c = true → ltT a c = true
  | [], [], _, h, _ => by cases h
  | [], _ :: _, [], _, h => by cases h
  | [], _ :: _, _ :: _, _, _ => rfl
  | _ :: _, [], _, h, _ => by cases h
  | _ :: _, _ :: _, [], _, h => by cases h
  | a :: r, b :: s, c :: t, h1, h2 => by
    unfold ltT at h1 h2 ⊢
    split at h1
    · rename_i e; subst e
      split at h2
      · rename_i e; subst e
        rw [if_pos rfl]; exact ltT_tr r s t h1 h2
      · rename_i e; rw [if_neg e]; exact h2
    · rename_i e
      have h1 := of_decide_eq_true h1
      split at h2
      · rename_i e2; subst e2
        rw [if_neg e]; exact decide_eq_true h1
      · have h2 := of_decide_eq_true h2
        rw [if_neg (by omega)]; exact decide_eq_true (by omega)
theorem ltT_tri : ∀ a b : List Int, a = b ∨ ltT a b = true ∨ ltT b a = true
  | [], [] => .inl rfl
  | [], _ :: _ => .inr (.inl rfl)
  | _ :: _, [] => .inr (.inr rfl)
  | a :: r, b :: s => by
    by_cases e : a = b
    · subst e
      rcases ltT_tri r s with h | h | h
      · exact .inl (by rw [h])
      · exact .inr (.inl (by unfold ltT; rw [if_pos rfl]; exact h))
      · exact .inr (.inr (by unfold ltT; rw [if_pos rfl]; exact h))
    · rcases Int.lt_or_gt_of_ne e with h | h
      · exact .inr (.inl (by unfold ltT; rw [if_neg e]; exact decide_eq_true h))
      · exact .inr (.inr (by unfold ltT; rw [if_neg (Ne.symm e)]; exact decide_eq_true h))
theorem pow_split (B : Int) (n : Nat) : B ^ (n + 1) = B ^ n * B := Int.pow_succ B n
theorem code_bd {B : Int} : ∀ {k : List Int}, TS.Bd B k → 0 ≤ TS.code B k ∧ TS.code B k < B ^ k.length
  | [], _ => by
    show (0 : Int) ≤ 0 ∧ (0 : Int) < B ^ 0
    rw [Int.pow_zero]; decide
  | d :: r, h => by
    obtain ⟨a, b⟩ := code_bd h.tail
    have := TS.num1 (P := B ^ r.length) (d := d) (B := B) (c := TS.code B r) a b h.head.1 h.head.2
    show 0 ≤ d * B ^ r.length + TS.code B r ∧ d * B ^ r.length + TS.code B r < B ^ (r.length + 1)
    rw [pow_split]; exact this
theorem code_lt {B : Int} : ∀ {k m : List Int}, TS.Bd B k → TS.Bd B m → k.length = m.length → TS.code B k ≤ TS.code B m → k ≠ m → ltT k m = true
  | [], [], _, _, _, _, h => absurd rfl h
  | [], _ :: _, _, _, h, _, _ => by cases h
  | _ :: _, [], _, _, h, _, _ => by cases h
  | a :: r, b :: s, h1, h2, hl, hc, hn => by
    have hl' : r.length = s.length := by simpa using hl
    have c1 := code_bd h1.tail
    have c2 := code_bd h2.tail
    have hc : a * B ^ r.length + TS.code B r ≤ b * B ^ s.length + TS.code B s := hc
    rw [← hl'] at hc c2
    unfold ltT
    by_cases e : a = b
    · subst e
      rw [if_pos rfl]
      exact code_lt h1.tail h2.tail hl' (by omega) fun z => hn (by rw [z])
    · rw [if_neg e]
      refine decide_eq_true ?_
      rcases Int.lt_or_gt_of_ne e with h | h
      · exact h
      · exfalso
        have : (b + 1) * B ^ r.length ≤ a * B ^ r.length := Int.mul_le_mul_of_nonneg_right (by omega) (by omega)
        rw [Int.add_mul, Int.one_mul] at this
        omega
/-- tuples of ints -/
def tupsD : List Dt → Option (List (List Int))
  | [] => some []
  | .tuple k :: r => (intsD k).bind fun a => (tupsD r).map fun l => a :: l
  | _ => none
theorem tupsD_of : ∀ {ds : List Dt} {ks : List (List Int)}, tupsD ds = some ks → ds = ks.map fun k => .tuple (k.map .int)
  | [], _, h => by cases h; rfl
  | .tuple k :: r, ks, h => by
    obtain ⟨a, h1, h2⟩ := opt_bind (show (intsD k).bind (fun a => (tupsD r).map fun l => a :: l) = some ks from h)
    obtain ⟨l, h3, h4⟩ := opt_map h2
    subst h4
    rw [tupsD_of h3, intsD_of h1]; rfl
  | .none :: _, _, h => by cases h
  | .bool _ :: _, _, h => by cases h
  | .str _ :: _, _, h => by cases h
  | .list _ :: _, _, h => by cases h
  | .int _ :: _, _, h => by cases h
  | .dict _ :: _, _, h => by cases h
theorem tupsD_map (ks : List (List Int)) : tupsD (ks.map fun k => .tuple (k.map .int)) = some ks := by
  induction ks with
  | nil => rfl
  | cons k r ih =>
    show (intsD (k.map .int)).bind (fun a => (tupsD (r.map fun k => .tuple (k.map .int))).map fun l => a :: l) = _
    rw [intsD_map, ih]; rfl
def tupOkB (ks : List (List Int)) : Bool := match ks with
  | [] => true
  | k :: _ => decide (1 ≤ k.length) && ks.all fun m => decide (m.length = k.length) && m.all fun i => decide (0 ≤ i)
def sortSetD : Dt → Option (List Dt)
  | .list xs => match intsD xs with
    | some ns => if ns.length < 64 then some ((uniq ltI ns).map .int) else none
    | none => (tupsD xs).bind fun ks => if ks.length < 64 ∧ tupOkB ks = true then some ((uniq ltT ks).map fun k => .tuple (k.map .int)) else none
  | _ => none
def sortSetO (f : Ex) : Exs := fun ρ => (f ρ).bind fun p => (sortSetD p.1).map fun d => (d, p.2)
/-- a bound above all -/
def topOf : List (List Int) → Int
  | [] => 1
  | k :: r => topOf r + (k.foldr (fun i a => (i.natAbs : Int) + a) (0 : Int))
theorem foldr_nat (k : List Int) : 0 ≤ k.foldr (fun i a => (i.natAbs : Int) + a) (0 : Int) ∧ ∀ i ∈ k, i ≤ k.foldr (fun i a => (i.natAbs : Int) + a) (0 : Int) := by
  induction k with
  | nil => simp
  | cons j r ih =>
    refine ⟨by rw [List.foldr_cons]; omega, fun i hi => ?_⟩
    rw [List.foldr_cons]
    rcases List.mem_cons.mp hi with e | e
    · subst e; omega
    · have := ih.2 i e; omega
theorem topOf_gt : ∀ {ks : List (List Int)}, 1 ≤ topOf ks ∧ ∀ k ∈ ks, ∀ i ∈ k, i < topOf ks
  | [] => ⟨by show (1 : Int) ≤ 1; decide, fun k h => nomatch h⟩
  | m :: r => by
    obtain ⟨a, b⟩ := topOf_gt (ks := r)
    obtain ⟨c, d⟩ := foldr_nat m
    refine ⟨by show 1 ≤ topOf r + _; omega, fun k hk i hi => ?_⟩
    show i < topOf r + _
    rcases List.mem_cons.mp hk with e | e
    · subst e; have := d i hi; omega
    · have := b k e i hi; omega
section
variable {X : Cx} {pos p p2 pos2 : Pos} {e : Expr} {f : Ex} {k : Nat}
/-- set(a list of ints) -/
theorem call_setL (hc : X.calm = true) : CallR X (.type "set") (fun xs H Q => ∃ (l : Addr) (ns : List Int), xs = [V.ref l] ∧ SqL X.K H l (ns.map V.int) ∧ ns.length < 64 ∧ ∀ a c, H a = none → c ≤ ns.length → Q (.ref a) (upd H a (SetO X.w a (fun j => decide (j ∈ ns)) c))) := by
  intro pins s σ H xs us Q I r h
  obtain ⟨l, ns, rfl, hl, h64, q⟩ := h
  rw [Vals.ref1 r]
  obtain ⟨its, rv, pl, hz⟩ := I.list hl
  have hn : H s.heap.objs.size = none := I.hok.fresh (Nat.le_refl _)
  refine set_listR ns (I.ok.hd hc) pl.isList (by simpa using ints_of_vals rv) (by unfold scanBound; omega) fun h' tk c R hcl k => ?_
  exact ⟨.ref s.heap.objs.size, upd H s.heap.objs.size (SetO X.w s.heap.objs.size (fun j => decide (j ∈ ns)) c), I.laid (t' := tk) k (Nat.le_refl _) (setO_new R), rfl, q _ c hn hcl⟩
theorem dpAll_tups {K : PySem.W.Frag} {G : Hp} : ∀ {vs : List V} {ks : List (List Int)}, DqAll K G vs (ks.map fun k => .tuple (k.map .int)) → ∃ L : List (Addr × List Int), vs = L.map (fun p => V.ref p.1) ∧ L.map (·.2) = ks ∧ ∀ p ∈ L, SqT K G p.1 (p.2.map V.int)
  | _, [], h => by cases h; exact ⟨[], rfl, rfl, fun p h => nomatch h⟩
  | _, k :: ks, h => by
    cases h with
    | cons a r =>
      obtain ⟨b, us, rfl, a1, a2⟩ := dp_tup a
      have := dpAll_ints a2
      subst this
      obtain ⟨L, rfl, h2, h3⟩ := dpAll_tups r
      refine ⟨(b, k) :: L, rfl, by rw [List.map_cons, h2], fun p hp => ?_⟩
      rcases List.mem_cons.mp hp with e | e
      · subst e; exact a1
      · exact h3 p e
theorem tups_dp {K : PySem.W.Frag} {G : Hp} : ∀ {L : List (Addr × List Int)}, (∀ p ∈ L, SqT K G p.1 (p.2.map V.int)) → DqAll K G (L.map fun p => V.ref p.1) ((L.map (·.2)).map fun k => .tuple (k.map .int))
  | [], _ => .nil
  | p :: L, h => .cons (.tup (h p List.mem_cons_self) (ints_dp p.2)) (tups_dp fun q hq => h q (List.mem_cons_of_mem _ hq))
where ints_dp {K : PySem.W.Frag} {G : Hp} : ∀ ns : List Int, DqAll K G (ns.map V.int) (ns.map PyData.int)
  | [] => .nil
  | n :: r => .cons (.int n) (ints_dp r)
theorem po_sortSet (hc : X.calm = true) (hr : Room k X.A) (hg : Gl X "sorted") (hm : X.mg "sorted" = none) (hg2 : Gl X "set") (hm2 : X.mg "set" = none) (he : PEd X e f)
    (hs : starEach [e] X.env = (false, eval e X.env) :: starEach [] X.env := by rfl) (hpl : (backTo pos2 (starEach [] X.env)).any (·.1) = false := by rfl)
    (hs' : starEach [.Call (.Name "set" p2) [e] [] pos2] X.env = (false, eval (.Call (.Name "set" p2) [e] [] pos2) X.env) :: starEach [] X.env := by rfl) (hpl' : (backTo pos (starEach [] X.env)).any (·.1) = false := by rfl) :
    PEo X (.Call (.Name "sorted" p) [.Call (.Name "set" p2) [e] [] pos2] [] pos) (sortSetO f) :=
  PE.to (L2.pe_callB (CallR.or (cr_sortedSet hc) (cr_sortedT hc)) hg hm boot_sorted (L2.pa_cons (L2.pe_callTy (CallR.or (call_setL hc) (cr_setOfT hc hr.units)) hg2 hm2 boot_set (L2.pa_cons he L2.pa_nil hs) (by decide) (by decide) hs hpl) L2.pa_nil hs') (by decide) (by decide) hs' hpl') fun σ H Q bd q => by
    obtain ⟨B, G, R, ρ, ds, ρ', o, e0, kk⟩ := q
    obtain ⟨p, e1, e2⟩ := opt_bind e0
    obtain ⟨r, e3, e4⟩ := opt_map e2
    cases e4
    refine ⟨B, G, R, ρ, p.1, p.2, o, e1, fun G1 H1 R1 v s1 o1 d1 => ?_⟩
    obtain ⟨pd, pρ⟩ := p
    simp only at e3 d1 o1 kk ⊢
    unfold sortSetD at e3
    split at e3
    · rename_i xs
      obtain ⟨l, us, rfl, a1, a2⟩ := dp_lst d1
      split at e3
      · rename_i ns hns
        have := intsD_of hns
        subst this
        have := dpAll_ints a2
        subst this
        by_cases h64 : ns.length < 64
        · rw [if_pos h64] at e3; cases e3
          refine .inl ⟨l, ns, rfl, .inl (rd_mono o1.sub a1), h64, fun a c ha hcl => .inl ⟨a, _, c, rfl, upd_same, by omega, fun ms t hp hm hl ht => ?_⟩⟩
          have ht1 : H1 t = none := by
            by_cases z : t = a
            · subst z; exact ha
            · rw [upd_ne z] at ht; exact ht
          have na : t ≠ a := fun z => by subst z; rw [upd_same] at ht; cases ht
          have x1 : Ext G1 H1 G1 (upd H1 a (SetO X.w a (fun j => decide (j ∈ ns)) c)) := .newH o1.sub ha
          have x2 : Ext G1 (upd H1 a (SetO X.w a (fun j => decide (j ∈ ns)) c)) G1 (upd (upd H1 a (SetO X.w a (fun j => decide (j ∈ ns)) c)) t (.lst (ms.map V.int))) := .newH x1.s ht
          have x3 := x1.trans x2
          have em : ms = uniq ltI ns := sorted_unique (r := fun a b : Int => a < b) (fun a => Int.lt_irrefl a) (fun _ _ _ => Int.lt_trans) hp
            ((pw_uniq (S := fun _ => True) (fun a b _ _ => (Int.lt_trichotomy a b).elim (fun z => .inr (.inl (decide_eq_true z))) fun z => z.elim .inl fun z => .inr (.inr (decide_eq_true z))) (fun a b c x y => decide_eq_true (Int.lt_trans (of_decide_eq_true x) (of_decide_eq_true y))) fun _ _ => trivial).imp fun z => of_decide_eq_true z)
            fun x => by rw [hm, mem_uniq]; simp
          exact fun _ => kk G1 _ R1 t (s1.trans (o1.stp x3)) (o1.ext x3) (fresh_of o1 ht1 upd_same (o1.sub.no ht1) (by rw [← em]; exact tups_dp.ints_dp ms))
        · rw [if_neg h64] at e3; cases e3
      · obtain ⟨ks, e5, e6⟩ := opt_bind e3
        by_cases h64 : ks.length < 64 ∧ tupOkB ks = true
        · rw [if_pos h64] at e6; cases e6
          have := tupsD_of e5
          subst this
          obtain ⟨L, rfl, hL, hT⟩ := dpAll_tups a2
          have hlen : L.length = ks.length := by rw [← hL, List.length_map]
          refine .inr ⟨l, L, rfl, .inl (rd_mono o1.sub a1), fun p hp => seqT_mono o1.sub (hT p hp), by omega, fun a M ha hM1 hM2 => .inr ⟨a, M, (ks.headD []).length, topOf ks, rfl, upd_same, fun p hp => ?_, ?_, ?_, fun L' t pm nd _ pw ht => ?_⟩⟩
          · exact seqT_mono (Sub.upd .refl ha) (seqT_mono o1.sub (hT p (hM1 p hp)))
          · cases ks with
            | nil => rename_i hno; cases hno
            | cons k0 kr =>
              have h2 := h64.2
              unfold tupOkB at h2
              rw [Bool.and_eq_true] at h2
              exact of_decide_eq_true h2.1
          · intro p hp
            have hk : p.2 ∈ ks := by rw [← hL]; exact List.mem_map.mpr ⟨p, hM1 p hp, rfl⟩
            cases ks with
            | nil => cases hk
            | cons k0 kr =>
              have h2 := h64.2
              unfold tupOkB at h2
              rw [Bool.and_eq_true] at h2
              have h3 := List.all_eq_true.mp h2.2 _ hk
              rw [Bool.and_eq_true] at h3
              refine ⟨of_decide_eq_true h3.1, fun i hi => ⟨of_decide_eq_true (List.all_eq_true.mp h3.2 i hi), topOf_gt.2 _ hk i hi⟩⟩
          · have ht1 : H1 t = none := by
              by_cases z : t = a
              · subst z; exact ha
              · rw [upd_ne z] at ht; exact ht
            have na : t ≠ a := fun z => by subst z; rw [upd_same] at ht; cases ht
            have x1 : Ext G1 H1 G1 (upd H1 a (SetTO X.prog X.w a M)) := .newH o1.sub ha
            have x2 : Ext G1 (upd H1 a (SetTO X.prog X.w a M)) G1 (upd (upd H1 a (SetTO X.prog X.w a M)) t (.lst (L'.map fun q => V.ref q.1))) := .newH x1.s ht
            have x3 := x1.trans x2
            have inK : ∀ q ∈ L', q.2 ∈ ks := fun q hq => by rw [← hL]; exact List.mem_map.mpr ⟨q, hM1 q (pm.mem_iff.mp hq), rfl⟩
            have bd : ∀ m ∈ ks, TS.Bd (topOf ks) m ∧ m.length = (ks.headD []).length := fun m hk => by
              cases ks with
              | nil => cases hk
              | cons k0 kr =>
                have h2 := h64.2
                unfold tupOkB at h2
                rw [Bool.and_eq_true] at h2
                have h3 := List.all_eq_true.mp h2.2 _ hk
                rw [Bool.and_eq_true] at h3
                exact ⟨fun i hi => ⟨of_decide_eq_true (List.all_eq_true.mp h3.2 i hi), topOf_gt.2 _ hk i hi⟩, of_decide_eq_true h3.1⟩
            have em : L'.map (·.2) = uniq ltT ks := sorted_unique (r := fun a b => ltT a b = true) (fun a z => by rw [ltT_irr] at z; cases z) ltT_tr
              (by
                have nd' := nd
                rw [List.Nodup, List.pairwise_map] at nd'
                rw [List.pairwise_map]
                refine (pw.and nd').imp_of_mem fun {q r} hq hr2 z => ?_
                exact code_lt (bd _ (inK q hq)).1 (bd _ (inK r hr2)).1 ((bd _ (inK q hq)).2.trans (bd _ (inK r hr2)).2.symm) z.1 z.2)
              (pw_uniq (S := fun _ => True) (fun a b _ _ => ltT_tri a b) ltT_tr fun _ _ => trivial)
              fun x => by
                rw [mem_uniq, (pm.map (·.2)).mem_iff]
                constructor
                · intro hx
                  obtain ⟨q, hq, e⟩ := List.mem_map.mp hx
                  rw [← hL, ← e]; exact List.mem_map.mpr ⟨q, hM1 q hq, rfl⟩
                · intro hx
                  rw [← hL] at hx
                  obtain ⟨q, hq, e⟩ := List.mem_map.mp hx
                  rw [← e]; exact hM2 q hq
            refine fun _ => kk G1 _ R1 t (s1.trans (o1.stp x3)) (o1.ext x3) (fresh_of o1 ht1 upd_same (o1.sub.no ht1) ?_)
            rw [← em]
            exact tups_dp fun q hq => hT q (hM1 q (pm.mem_iff.mp hq))
        · rw [if_neg h64] at e6; cases e6
    · cases e3
end
end G

set_option maxRecDepth 100000
set_option maxHeartbeats 4000000
namespace G
open PySem PySem.Spec PyProof.Rows L2
/-! ### list(range(..)) -/
def rgD (a b : Int) : List Dt := (List.range (b - a).toNat).map fun i => .int (a + (i : Nat))
theorem rg_dp {K : PySem.W.Frag} {G : Hp} (a b : Int) : DqAll K G (rgV a b) (rgD a b) := by
  unfold rgV rgD
  generalize List.range (b - a).toNat = l
  induction l with
  | nil => exact .nil
  | cons n r ih => exact .cons (.int _) ih
def rgOkB (a b : Int) : Bool := decide (-16777216 ≤ a) && decide (a ≤ 16777216) && decide (-16777216 ≤ b) && decide (b ≤ 16777216) && decide (b - a ≤ 16777216)
theorem rgOk_of {a b : Int} (h : rgOkB a b = true) : RgOk a b := by
  unfold rgOkB at h
  simp only [Bool.and_eq_true, decide_eq_true_eq] at h
  exact ⟨by omega, by omega, by omega, by omega, by omega⟩
def rgL : Dt → Dt → Option (List Dt)
  | .int a, .int b => if rgOkB a b = true then some (rgD a b) else none
  | _, _ => none
def listRg2 (f g : Ex) : Exs := fun ρ => (f ρ).bind fun p => (g p.2).bind fun q => (rgL p.1 q.1).map fun d => (d, q.2)
def listRg1 (f : Ex) : Exs := fun ρ => (f ρ).bind fun p => (rgL (.int 0) p.1).map fun d => (d, p.2)
def joinD : Dt → Dt → Option Dt
  | .str a, .list xs => (strsD xs).bind fun ys => if (ys.map (·.length)).sum + ys.length * a.length ≤ 16777216 then some (.str (Txt.join a ys)) else none
  | .str a, .tuple xs => (strsD xs).bind fun ys => if (ys.map (·.length)).sum + ys.length * a.length ≤ 16777216 then some (.str (Txt.join a ys)) else none
  | _, _ => none
section
variable {X : Cx} {pos p p2 pos2 apos : Pos} {o e a b : Expr} {f g : Ex} {k : Nat}
theorem po_listRg1 (hc : X.calm = true) (hg : Gl X "list") (hm : X.mg "list" = none) (hg2 : Gl X "range") (hm2 : X.mg "range" = none) (he : PEd X a f)
    (na : starEach [a] X.env = (false, eval a X.env) :: starEach [] X.env := by rfl)
    (na' : starEach [.Call (.Name "range" p2) [a] [] pos2] X.env = (false, eval (.Call (.Name "range" p2) [a] [] pos2) X.env) :: starEach [] X.env := by rfl) :
    PEo X (.Call (.Name "list" p) [.Call (.Name "range" p2) [a] [] pos2] [] pos) (listRg1 f) :=
  PE.to (pe_listRg hc hg hm (prg_1 hg2 hm2 he na) na') fun σ H Q bd q => by
    obtain ⟨B, G, R, ρ, ds, ρ', o, e0, kk⟩ := q
    obtain ⟨p, e1, e2⟩ := opt_bind e0
    obtain ⟨r, e3, e4⟩ := opt_map e2
    cases e4
    obtain ⟨pd, pρ⟩ := p
    unfold rgL at e3
    simp only at e3
    refine ⟨B, G, R, ρ, pd, pρ, o, e1, fun G1 H1 R1 v s1 o1 d1 => ?_⟩
    split at e3
    · rename_i z n hn
      cases hn
      cases d1
      split at e3
      · rename_i hb
        cases e3
        refine ⟨n, rfl, rgOk_of hb, fun t ht _ => ?_⟩
        have x := Ext.newH (o := .lst (rgV 0 n)) o1.sub ht
        exact kk G1 _ R1 t (s1.trans (o1.stp x)) (o1.ext x) (fresh_of o1 ht upd_same (o1.sub.no ht) (rg_dp 0 n))
      · cases e3
    · cases e3
theorem po_listRg2 (hc : X.calm = true) (hg : Gl X "list") (hm : X.mg "list" = none) (hg2 : Gl X "range") (hm2 : X.mg "range" = none) (he : PEd X a f) (hb : PEd X b g)
    (na : starEach [a, b] X.env = (false, eval a X.env) :: starEach [b] X.env := by rfl) (nb : starEach [b] X.env = (false, eval b X.env) :: starEach [] X.env := by rfl) (hp : (backTo pos2 (starEach [b] X.env)).any (·.1) = false := by rfl)
    (na' : starEach [.Call (.Name "range" p2) [a, b] [] pos2] X.env = (false, eval (.Call (.Name "range" p2) [a, b] [] pos2) X.env) :: starEach [] X.env := by rfl) :
    PEo X (.Call (.Name "list" p) [.Call (.Name "range" p2) [a, b] [] pos2] [] pos) (listRg2 f g) :=
  PE.to (pe_listRg hc hg hm (prg_2 hg2 hm2 he hb na nb hp) na') fun σ H Q bd q => by
    obtain ⟨B, G, R, ρ, ds, ρ', o, e0, kk⟩ := q
    obtain ⟨⟨pd, pρ⟩, e1, e2⟩ := opt_bind e0
    obtain ⟨⟨qd, qρ⟩, e3, e4⟩ := opt_bind e2
    obtain ⟨r, e5, e6⟩ := opt_map e4
    cases e6
    unfold rgL at e5
    simp only at e5
    refine ⟨B, G, R, ρ, pd, pρ, o, e1, fun G1 H1 R1 v s1 o1 d1 => ⟨B, G1, R1, pρ, qd, qρ, o1, e3, fun G2 H2 R2 u s2 o2 d2 => ?_⟩⟩
    split at e5
    · rename_i n m
      cases d1; cases d2
      split at e5
      · rename_i hb
        cases e5
        refine ⟨n, m, rfl, rfl, rgOk_of hb, fun t ht _ => ?_⟩
        have x := Ext.newH (o := .lst (rgV n m)) o2.sub ht
        exact kk G2 _ R2 t ((s1.trans s2).trans (o2.stp x)) (o2.ext x) (fresh_of o2 ht upd_same (o2.sub.no ht) (rg_dp n m))
      · cases e5
    · cases e5
theorem pd_join (ho : PEd X o f) (he : PEd X e g) (hs : starEach [e] X.env = [(false, eval e X.env)] := by rfl) (hbase : attributeBase o "join" X.env (eval o X.env) = eval o X.env := by rfl) (hline : (apos.endLine == pos.line) = true := by rfl) :
    PEd X (.Call (.Attribute o "join" apos) [e] [] pos) (binE joinD f g) := PE.to (pe_join ho he hs hbase hline) fun σ H Q bd q => by
    obtain ⟨B, G, R, ρ, ds, ρ', o, e0, kk⟩ := q
    obtain ⟨⟨pd, pρ⟩, e1, e2⟩ := opt_bind e0
    obtain ⟨⟨qd, qρ⟩, e3, e4⟩ := opt_bind e2
    obtain ⟨r, e5, e6⟩ := opt_map e4
    cases e6
    unfold joinD at e5
    simp only at e5
    refine ⟨B, G, R, ρ, pd, pρ, o, e1, fun G1 H1 R1 v s1 o1 d1 => ?_⟩
    split at e5
    · rename_i a xs
      obtain ⟨ys, e7, e8⟩ := opt_bind e5
      split at e8
      · rename_i hl
        cases e8
        have := strsD_of e7
        subst this
        cases d1
        refine ⟨⟨a, rfl⟩, B, G1, R1, pρ, _, qρ, o1, e3, fun G2 H2 R2 u s2 o2 d2 => ?_⟩
        obtain ⟨t, us, rfl, a1, a2⟩ := dp_lst d2
        have := dpAll_strs a2
        subst this
        exact ⟨a, t, ys, rfl, rfl, .inl (.inl (rd_mono o2.sub a1)), hl, fun _ => kk G2 H2 R2 _ (s1.trans s2) o2 (.str _)⟩
      · cases e8
    · rename_i a xs
      obtain ⟨ys, e7, e8⟩ := opt_bind e5
      split at e8
      · rename_i hl
        cases e8
        have := strsD_of e7
        subst this
        cases d1
        refine ⟨⟨a, rfl⟩, B, G1, R1, pρ, _, qρ, o1, e3, fun G2 H2 R2 u s2 o2 d2 => ?_⟩
        obtain ⟨t, us, rfl, a1, a2⟩ := dp_tup d2
        have := dpAll_strs a2
        subst this
        exact ⟨a, t, ys, rfl, rfl, .inr (seqT_mono o2.sub a1), hl, fun _ => kk G2 H2 R2 _ (s1.trans s2) o2 (.str _)⟩
      · cases e8
    · cases e5
end
/-! ### the law -/
abbrev scrD (ns : List Int) : Dt := .dict (ns.map fun n => (.int n, .none))
section
variable {P : Program} {w : World} {K : PySem.W.Frag} {mg : Str → Option Value} {base : Heap} {x qual : Str} {st : Stmt} {f : Addr} {fd : FuncData} {N : List Str} {y : Str} {k : Nat} {b : Sm}
theorem law_of (F : Fun K x qual st f fd)
    (hb : ∀ (cdv : Value) (A : Around) (outer : List Env) (s : Shared) (H : Hp) (E : XK), Room k (A.deeper (envOfC qual (defScope st) s.heap.objs.size f cdv)) → PSsd (cxOf CX0 P w K mg base N qual (defScope st) f cdv A outer s H E).nox (defBody st) b)
    (S : FnScope N [y] (defScope st)) (hl : ∀ ns : List Int, ns.length ≤ 63 → ∃ r, mDef N.length b [.dat (scrD ns)] = some (.bool true, r)) :
    FnOk P w K mg base CX0 (k + 1) f fd [y] (spLaw K) := by
  have D := def_ok F S hb
  refine ⟨fun vs H Q E h => ?_, fun A outer s H args us vs Q E h1 h2 h3 h4 h => ?_⟩
  · obtain ⟨a, ns, rfl, _⟩ := h
    rfl
  · obtain ⟨a, ns, rfl, hs, hn, ho, q⟩ := h
    obtain ⟨r, e⟩ := hl ns hn
    refine D.2 A outer s H args us _ Q E h1 h2 h3 h4 ⟨⟨H, fun a => H a ≠ none, fun _ => 0⟩, H, fun _ => [], [.dat (scrD ns)], .bool true, r, rfl, ⟨.refl, .refl, fun _ z => z, fun _ _ _ z => (nomatch z), fun _ _ z => (nomatch z), fun _ _ => rfl, rfl, fun i sl v a1 a2 => ?_⟩, e, fun G' H' R' v _ _ d => q v H' (dp_bl d)⟩
    cases i with
    | zero =>
      simp at a1 a2
      subst a1 a2
      exact ⟨rfl, _, rfl, .scr ns hs⟩
    | succ i => simp at a1
end
end G

set_option maxRecDepth 100000
set_option maxHeartbeats 4000000
namespace G
open PySem PySem.Spec PyProof.Rows L2
/-! ### working a meaning out, step by step -/
section
variable {f g h l : Ex} {c c' : Te} {fs gs : Exs} {a b s : Sm} {ρ ρ1 ρ2 ρ3 ρ4 : Rho} {d e r x y : Dt} {ds es rs : List Dt} {p q k : Bool} {i j n : Nat} {o : Option Out}
theorem ev_name (H : ρ[i]? = some (.dat d)) : nameE i ρ = some (d, ρ) := by unfold nameE; rw [H]
theorem ev_nameO (H : ρ[i]? = some (.own ds)) (H2 : ρ.set i (.dat (.list ds)) = ρ1) : nameE i ρ = some (.list ds, ρ1) := by subst H2; unfold nameE; rw [H]
theorem ev_con : conE d ρ = some (d, ρ) := rfl
theorem ev_bin {m : Dt → Dt → Option Dt} (h1 : f ρ = some (x, ρ1)) (h2 : g ρ1 = some (y, ρ2)) (h3 : m x y = some r) : binE m f g ρ = some (r, ρ2) := by
  unfold binE; rw [h1, Option.bind_some, h2, Option.bind_some, h3]; rfl
theorem ev_binO {m : Dt → Dt → Option (List Dt)} (h1 : f ρ = some (x, ρ1)) (h2 : g ρ1 = some (y, ρ2)) (h3 : m x y = some rs) : binO m f g ρ = some (rs, ρ2) := by
  unfold binO; rw [h1, Option.bind_some, h2, Option.bind_some, h3]; rfl
theorem ev_cmp {m : Dt → Dt → Option Bool} (h1 : f ρ = some (x, ρ1)) (h2 : g ρ1 = some (y, ρ2)) (h3 : m x y = some p) : cmpT m f g ρ = some (p, ρ2) := by
  unfold cmpT; rw [h1, Option.bind_some, h2, Option.bind_some, h3]; rfl
theorem ev_bool (h1 : c ρ = some (p, ρ1)) : boolE c ρ = some (.bool p, ρ1) := by unfold boolE; rw [h1]; rfl
theorem ev_cmp2 {m m' : Dt → Dt → Option Bool} {z : Dt} (h1 : f ρ = some (x, ρ1)) (h2 : g ρ1 = some (y, ρ2)) (h3 : m x y = some true) (h4 : h ρ2 = some (z, ρ3)) (h5 : m' y z = some p) : cmp2T m m' f g h ρ = some (p, ρ3) := by
  unfold cmp2T; rw [h1, Option.bind_some, h2, Option.bind_some, h3, Option.bind_some, if_pos rfl, h4, Option.bind_some, h5]; rfl
theorem ev_cmp2F {m m' : Dt → Dt → Option Bool} (h1 : f ρ = some (x, ρ1)) (h2 : g ρ1 = some (y, ρ2)) (h3 : m x y = some false) : cmp2T m m' f g h ρ = some (false, ρ2) := by
  unfold cmp2T; rw [h1, Option.bind_some, h2, Option.bind_some, h3, Option.bind_some, if_neg Bool.false_ne_true]
theorem ev_cmp2P {m m' : Dt → Dt → Option Bool} {z : Dt} (h1 : f ρ = some (x, ρ1)) (h2 : g ρ1 = some (y, ρ2)) (h3 : m x y = some k) (h4 : h ρ2 = some (z, ρ2)) (h5 : m' y z = some p) : cmp2T m m' f g h ρ = some (k && p, ρ2) := by
  cases k with
  | true => exact ev_cmp2 h1 h2 h3 h4 (by rw [h5]; rfl)
  | false => exact ev_cmp2F h1 h2 h3
theorem ev_un {m : Dt → Option Dt} (h1 : f ρ = some (x, ρ1)) (h2 : m x = some r) : unE m f ρ = some (r, ρ1) := by unfold unE; rw [h1, Option.bind_some, h2]; rfl
theorem ev_tru (h1 : f ρ = some (x, ρ1)) (h2 : truD x = some p) : truT f ρ = some (p, ρ1) := by unfold truT; rw [h1, Option.bind_some, h2]; rfl
theorem ev_not (h1 : c ρ = some (p, ρ1)) : notT c ρ = some (!p, ρ1) := by unfold notT; rw [h1]; rfl
/-- and, or: of tests that leave the state alone -/
theorem ev_and (h1 : c ρ = some (p, ρ1)) (h2 : (if p = true then c' ρ1 else some (false, ρ1)) = some (q, ρ2)) : andT c c' ρ = some (q, ρ2) := by unfold andT; rw [h1]; exact h2
theorem ev_or (h1 : c ρ = some (p, ρ1)) (h2 : (if p = true then some (true, ρ1) else c' ρ1) = some (q, ρ2)) : orT c c' ρ = some (q, ρ2) := by unfold orT; rw [h1]; exact h2
theorem ev_andP (h1 : c ρ = some (p, ρ1)) (h2 : c' ρ1 = some (q, ρ1)) : andT c c' ρ = some (p && q, ρ1) := by
  unfold andT; rw [h1, Option.bind_some]
  cases p with
  | true => rw [if_pos rfl]; exact h2
  | false => rw [if_neg Bool.false_ne_true]; rfl
theorem ev_orP (h1 : c ρ = some (p, ρ1)) (h2 : c' ρ1 = some (q, ρ1)) : orT c c' ρ = some (p || q, ρ1) := by
  unfold orT; rw [h1, Option.bind_some]
  cases p with
  | true => rw [if_pos rfl]; rfl
  | false => rw [if_neg Bool.false_ne_true]; exact h2
theorem ev_ifE {z : Option (Dt × Rho)} (h1 : c ρ = some (p, ρ1)) (h2 : (if p = true then f ρ1 else g ρ1) = z) : ifE c f g ρ = z := by unfold ifE; rw [h1]; exact h2
theorem ev_ifO {z : Option (List Dt × Rho)} (h1 : c ρ = some (p, ρ1)) (h2 : (if p = true then fs ρ1 else gs ρ1) = z) : ifO c fs gs ρ = z := by unfold ifO; rw [h1]; exact h2
theorem ev_andV {z : Option (Dt × Rho)} (h1 : f ρ = some (x, ρ1)) (h2 : truD x = some p) (h3 : (if p = true then g ρ1 else some (x, ρ1)) = z) : andV f g ρ = z := by unfold andV; rw [h1, Option.bind_some, h2]; exact h3
theorem ev_orV {z : Option (Dt × Rho)} (h1 : f ρ = some (x, ρ1)) (h2 : truD x = some p) (h3 : (if p = true then some (x, ρ1) else g ρ1) = z) : orV f g ρ = z := by unfold orV; rw [h1, Option.bind_some, h2]; exact h3
theorem ev_nilA : nilA ρ = some ([], ρ) := rfl
theorem ev_consA (h1 : f ρ = some (x, ρ1)) (h2 : gs ρ1 = some (ds, ρ2)) : consA f gs ρ = some (x :: ds, ρ2) := by unfold consA; rw [h1, Option.bind_some, h2]; rfl
theorem ev_tup (h1 : fs ρ = some (ds, ρ1)) (h2 : ds.length ≤ sizeLine) : tupE fs ρ = some (.tuple ds, ρ1) := by unfold tupE; rw [h1, Option.bind_some, if_pos h2]
theorem ev_lstO (h1 : fs ρ = some (ds, ρ1)) (h2 : ds.length ≤ sizeLine) : lstO fs ρ = some (ds, ρ1) := by unfold lstO; rw [h1, Option.bind_some, if_pos h2]
theorem ev_lst (h1 : fs ρ = some (ds, ρ1)) : lstE fs ρ = some (.list ds, ρ1) := by unfold lstE; rw [h1]; rfl
theorem ev_blt {m : List Dt → Option Dt} (h1 : fs ρ = some (ds, ρ1)) (h2 : m ds = some r) : bltE m fs ρ = some (r, ρ1) := by unfold bltE; rw [h1, Option.bind_some, h2]; rfl
theorem ev_bltO {m : List Dt → Option (List Dt)} (h1 : fs ρ = some (ds, ρ1)) (h2 : m ds = some rs) : bltO m fs ρ = some (rs, ρ1) := by unfold bltO; rw [h1, Option.bind_some, h2]; rfl
theorem ev_ownItem (h1 : lsAt ρ i = some es) (h2 : f ρ = some (x, ρ1)) (h3 : lsAt ρ1 i = some ds) (h4 : itemD (.list ds) x = some r) : ownItem i f ρ = some (r, ρ1) := by
  unfold ownItem; rw [h1, Option.bind_some, h2, Option.bind_some, h3, Option.bind_some, h4]; rfl
theorem ev_ownLen (h1 : lsAt ρ i = some ds) : ownLen i ρ = some (.int ds.length, ρ) := by unfold ownLen; rw [h1]; rfl
theorem ev_ownNm (h1 : ρ[i]? = some (.own ds)) (h2 : ρ.set i .un = ρ1) : ownNm i ρ = some (ds, ρ1) := by subst h2; unfold ownNm; rw [h1]
theorem ev_noP : noP ρ = some (none, ρ) := rfl
theorem ev_somP {t : Int} (h1 : f ρ = some (.int t, ρ1)) : somP f ρ = some (some t, ρ1) := by unfold somP; rw [h1]; rfl
theorem ev_slice {lo hi : Pa} {t u : Option Int} (h1 : f ρ = some (x, ρ1)) (h2 : lo ρ1 = some (t, ρ2)) (h3 : hi ρ2 = some (u, ρ3)) (h4 : sliceD x t u = some r) : sliceE f lo hi ρ = some (r, ρ3) := by
  unfold sliceE; rw [h1, Option.bind_some, h2, Option.bind_some, h3, Option.bind_some, h4]; rfl
theorem ev_sortSet (h1 : f ρ = some (x, ρ1)) (h2 : sortSetD x = some rs) : sortSetO f ρ = some (rs, ρ1) := by unfold sortSetO; rw [h1, Option.bind_some, h2]; rfl
theorem ev_listRg1 (h1 : f ρ = some (x, ρ1)) (h2 : rgL (.int 0) x = some rs) : listRg1 f ρ = some (rs, ρ1) := by unfold listRg1; rw [h1, Option.bind_some, h2]; rfl
theorem ev_listRg2 (h1 : f ρ = some (x, ρ1)) (h2 : g ρ1 = some (y, ρ2)) (h3 : rgL x y = some rs) : listRg2 f g ρ = some (rs, ρ2) := by unfold listRg2; rw [h1, Option.bind_some, h2, Option.bind_some, h3]; rfl
theorem ev_lsP (h1 : ρ[i]? = some (.par ds)) : lsAt ρ i = some ds := by unfold lsAt; rw [h1]
theorem ev_lsO (h1 : ρ[i]? = some (.own ds)) : lsAt ρ i = some ds := by unfold lsAt; rw [h1]
theorem ev_lsSetP (h1 : ρ[i]? = some (.par es)) (h2 : ρ.set i (.par ds) = ρ1) : lsSet ρ i ds = ρ1 := by subst h2; unfold lsSet; rw [h1]
theorem ev_lsSetO (h1 : ρ[i]? = some (.own es)) (h2 : ρ.set i (.own ds) = ρ1) : lsSet ρ i ds = ρ1 := by subst h2; unfold lsSet; rw [h1]
theorem ev_slN : slotsOf ρ [] = some [] := rfl
theorem ev_slD {as : List Arg} {ss : List Slot} (h1 : slotsOf ρ as = some ss) : slotsOf ρ (.d d :: as) = some (.dat d :: ss) := by unfold slotsOf; rw [h1]; rfl
theorem ev_slP {as : List Arg} {ss : List Slot} (h1 : lsAt ρ i = some ds) (h2 : slotsOf ρ as = some ss) : slotsOf ρ (.p i :: as) = some (.par ds :: ss) := by unfold slotsOf; rw [h1, Option.bind_some, h2]; rfl
theorem ev_bkN : backOf ρ [] [] = some ρ := rfl
theorem ev_bkD {as : List Arg} {ss : List Slot} {x : Slot} {z : Option Rho} (h1 : backOf ρ as ss = z) : backOf ρ (.d d :: as) (x :: ss) = z := h1
theorem ev_bkP {as : List Arg} {ss : List Slot} {z : Option Rho} (h1 : lsSet ρ i ds = ρ1) (h2 : backOf ρ1 as ss = z) : backOf ρ (.p i :: as) (.par ds :: ss) = z := by subst h1; exact h2
theorem ev_outN : outA [] ρ = some [] := by unfold outA; rfl
theorem ev_outD {as ss : List Slot} {x : Slot} (h1 : outA as ρ = some ss) : outA (.dat d :: as) (x :: ρ) = some (.dat d :: ss) := by unfold outA; rw [h1]; rfl
theorem ev_outP {as ss : List Slot} (h1 : outA as ρ = some ss) : outA (.par es :: as) (.par ds :: ρ) = some (.par ds :: ss) := by unfold outA; rw [h1]; rfl
/-! calls -/
theorem ev_nilC : nilC ρ = some ([], ρ) := rfl
theorem ev_consC {cs : Cs} {as : List Arg} (h1 : f ρ = some (x, ρ1)) (h2 : cs ρ1 = some (as, ρ2)) : consC f cs ρ = some (.d x :: as, ρ2) := by unfold consC; rw [h1, Option.bind_some, h2]; rfl
theorem ev_consP {cs : Cs} {as : List Arg} (h1 : lsAt ρ i = some ds) (h2 : cs ρ = some (as, ρ2)) : consP i cs ρ = some (.p i :: as, ρ2) := by unfold consP; rw [h1, Option.bind_some, h2]; rfl
theorem ev_call {M : Mt} {cs : Cs} {as : List Arg} {ss ss' : List Slot} (h1 : cs ρ = some (as, ρ1)) (h2 : slotsOf ρ1 as = some ss) (h3 : as.length = n) (h7 : decide ((idxs as).Nodup) = true) (h4 : M ss = some (r, ss')) (h5 : backOf ρ1 as ss' = some ρ2) : callE n M cs ρ = some (r, ρ2) := by
  unfold callE; rw [h1, Option.bind_some, h2, Option.bind_some, if_pos ⟨h3, of_decide_eq_true h7⟩, h4, Option.bind_some, h5]; rfl
theorem ev_callO {M : MtO} {cs : Cs} {as : List Arg} {ss ss' : List Slot} (h1 : cs ρ = some (as, ρ1)) (h2 : slotsOf ρ1 as = some ss) (h3 : as.length = n) (h7 : decide ((idxs as).Nodup) = true) (h4 : M ss = some (rs, ss')) (h5 : backOf ρ1 as ss' = some ρ2) : callO n M cs ρ = some (rs, ρ2) := by
  unfold callO; rw [h1, Option.bind_some, h2, Option.bind_some, if_pos ⟨h3, of_decide_eq_true h7⟩, h4, Option.bind_some, h5]; rfl
theorem ev_def {m : Sm} {as : List Slot} {ss : List Slot} (h0 : as ++ List.replicate (n - as.length) .un = ρ1) (h1 : m ρ1 = some (.rt r ρ)) (h2 : outA as ρ = some ss) : mDef n m as = some (r, ss) := by subst h0; unfold mDef; rw [h1]; simp only [h2]; rfl
theorem ev_defR {m : Sm} {as : List Slot} {ss : List Slot} (h0 : as ++ List.replicate (n - as.length) .un = ρ1) (h1 : m ρ1 = some (.ro rs ρ)) (h2 : outA as ρ = some ss) : mDef n m as = some (.list rs, ss) := by subst h0; unfold mDef; rw [h1]; simp only [h2]; rfl
theorem ev_defN {m : Sm} {as : List Slot} {ss : List Slot} (h0 : as ++ List.replicate (n - as.length) .un = ρ1) (h1 : m ρ1 = some (.nx ρ)) (h2 : outA as ρ = some ss) : mDef n m as = some (.none, ss) := by subst h0; unfold mDef; rw [h1]; simp only [h2]; rfl
theorem ev_defO {m : Sm} {as : List Slot} {ss : List Slot} (h0 : as ++ List.replicate (n - as.length) .un = ρ1) (h1 : m ρ1 = some (.ro rs ρ)) (h2 : outA as ρ = some ss) : mDefO n m as = some (rs, ss) := by subst h0; unfold mDefO; rw [h1]; simp only [h2]; rfl
/-! statements -/
theorem ev_seq (h1 : a ρ = some (.nx ρ1)) (h2 : b ρ1 = o) : seqS a b ρ = o := by unfold seqS; rw [h1]; exact h2
theorem ev_seqIf (h1 : c ρ = some (p, ρ1)) (h2 : (if p = true then seqS a s ρ1 else seqS b s ρ1) = o) : seqS (ifS c a b) s ρ = o := by
  unfold seqS ifS
  rw [h1, Option.bind_some]
  cases p with
  | true => rw [if_pos rfl] at h2 ⊢; exact h2
  | false => rw [if_neg Bool.false_ne_true] at h2 ⊢; exact h2
theorem ev_seqA (h1 : seqS a (seqS b s) ρ = o) : seqS (seqS a b) s ρ = o := by
  rw [← h1]; unfold seqS thenO
  cases e : a ρ with
  | none => rfl
  | some z => cases z <;> rfl
theorem ev_seqRet (h1 : f ρ = some (d, ρ1)) : seqS (retS f) s ρ = some (.rt d ρ1) := by unfold seqS retS; rw [h1]; rfl
theorem ev_seqRetO (h1 : fs ρ = some (ds, ρ1)) : seqS (retO fs) s ρ = some (.ro ds ρ1) := by unfold seqS retO; rw [h1]; rfl
theorem ev_seqNil (h1 : s ρ = o) : seqS nilS s ρ = o := h1
theorem ev_seqBk : seqS bkS s ρ = some (.bk ρ) := rfl
theorem ev_seqCt : seqS ctS s ρ = some (.ct ρ) := rfl
theorem ev_bk : bkS ρ = some (.bk ρ) := rfl
theorem ev_ct : ctS ρ = some (.ct ρ) := rfl
theorem ev_seqR (h1 : a ρ = some (.rt d ρ1)) : seqS a b ρ = some (.rt d ρ1) := by unfold seqS; rw [h1]; rfl
theorem ev_seqO (h1 : a ρ = some (.ro ds ρ1)) : seqS a b ρ = some (.ro ds ρ1) := by unfold seqS; rw [h1]; rfl
theorem ev_seqB (h1 : a ρ = some (.bk ρ1)) : seqS a b ρ = some (.bk ρ1) := by unfold seqS; rw [h1]; rfl
theorem ev_seqC (h1 : a ρ = some (.ct ρ1)) : seqS a b ρ = some (.ct ρ1) := by unfold seqS; rw [h1]; rfl
theorem ev_nil : nilS ρ = some (.nx ρ) := rfl
theorem ev_ret (h1 : f ρ = some (d, ρ1)) : retS f ρ = some (.rt d ρ1) := by unfold retS; rw [h1]; rfl
theorem ev_retO (h1 : fs ρ = some (ds, ρ1)) : retO fs ρ = some (.ro ds ρ1) := by unfold retO; rw [h1]; rfl
theorem ev_expr (h1 : f ρ = some (d, ρ1)) : exprS f ρ = some (.nx ρ1) := by unfold exprS; rw [h1]; rfl
theorem ev_if (h1 : c ρ = some (p, ρ1)) (h2 : (if p = true then a ρ1 else b ρ1) = o) : ifS c a b ρ = o := by unfold ifS; rw [h1]; exact h2
theorem ev_asg (h1 : f ρ = some (d, ρ1)) (h2 : ρ1.set i (.dat d) = ρ2) : asgS i f ρ = some (.nx ρ2) := by subst h2; unfold asgS; rw [h1]; rfl
theorem ev_asgO (h1 : fs ρ = some (ds, ρ1)) (h2 : i < ρ1.length) (h3 : ρ1.set i (.own ds) = ρ2) : asgO i fs ρ = some (.nx ρ2) := by subst h3; unfold asgO; rw [h1, Option.bind_some, if_pos h2]
theorem ev_asgT {t : Tg} (h1 : f ρ = some (d, ρ1)) (h2 : t d ρ1 = some ρ2) : asgT t f ρ = some (.nx ρ2) := by unfold asgT; rw [h1, Option.bind_some, h2]; rfl
theorem ev_par (h1 : fs ρ = some ([d, e], ρ1)) (h2 : (ρ1.set i (.dat d)).set j (.dat e) = ρ2) : parS i j fs ρ = some (.nx ρ2) := by subst h2; unfold parS; rw [h1]; rfl
theorem ev_par3 (h1 : fs ρ = some ([d, e, r], ρ1)) (h2 : ((ρ1.set i (.dat d)).set j (.dat e)).set n (.dat r) = ρ2) : par3S i j n fs ρ = some (.nx ρ2) := by subst h2; unfold par3S; rw [h1]; rfl
theorem ev_aug {m : Dt → Dt → Option Dt} (h0 : ρ[i]? = some (.dat d)) (h1 : f ρ = some (x, ρ1)) (h2 : m d x = some r) (h3 : ρ1.set i (.dat r) = ρ2) : augS i m f ρ = some (.nx ρ2) := by subst h3; unfold augS; rw [h0]; simp only [h1, Option.bind_some, h2, Option.map_some]
theorem ev_put {t : Int} (h1 : f ρ = some (x, ρ1)) (h2 : lsAt ρ1 i = some es) (h3 : g ρ1 = some (.int t, ρ2)) (h4 : lsAt ρ2 i = some ds) (h5 : ixN ds.length t = some j) (h6 : ds.set j x = rs) (h7 : lsSet ρ2 i rs = ρ3) : putS i f g ρ = some (.nx ρ3) := by
  subst h6 h7
  unfold putS; rw [h1, Option.bind_some, h2, Option.bind_some, h3, Option.bind_some]; simp only [h4, Option.bind_some, h5, Option.map_some]
theorem ev_app (h1 : lsAt ρ i = some es) (h2 : f ρ = some (x, ρ1)) (h3 : lsAt ρ1 i = some ds) (h4 : ds.length < sizeLine) (h5 : lsSet ρ1 i (ds ++ [x]) = ρ2) : appS i f ρ = some (.nx ρ2) := by
  subst h5
  unfold appS; rw [h1, Option.bind_some, h2, Option.bind_some, h3, Option.bind_some, if_pos h4]
theorem ev_ext {zs : List Dt} (h1 : lsAt ρ i = some es) (h2 : f ρ = some (.list zs, ρ1)) (h3 : lsAt ρ1 i = some ds) (h4 : ds.length + zs.length ≤ sizeLine) (h5 : lsSet ρ1 i (ds ++ zs) = ρ2) : extS i f ρ = some (.nx ρ2) := by
  subst h5
  unfold extS; rw [h1, Option.bind_some, h2, Option.bind_some, h3, Option.bind_some]; simp only; rw [if_pos h4]
theorem ev_rev (h1 : lsAt ρ i = some ds) (h2 : lsSet ρ i ds.reverse = ρ1) : revS i ρ = some (.nx ρ1) := by subst h2; unfold revS; rw [h1]; rfl
theorem ev_clr (h1 : lsAt ρ i = some ds) (h2 : lsSet ρ i [] = ρ1) : clrS i ρ = some (.nx ρ1) := by subst h2; unfold clrS; rw [h1]; rfl
theorem ev_nameG (h1 : ρ.set i (.dat d) = ρ1) : nameG i d ρ = some ρ1 := by subst h1; rfl
theorem ev_tupG {t : Tgs} (h1 : ds.length = n) (h2 : t ds ρ = some ρ1) : tupG n t (.tuple ds) ρ = some ρ1 := by unfold tupG; simp only; rw [if_pos h1]; exact h2
theorem ev_nilG : nilG [] ρ = some ρ := rfl
theorem ev_consG {t : Tg} {u : Tgs} (h1 : t d ρ = some ρ1) (h2 : u ds ρ1 = some ρ2) : consG t u (d :: ds) ρ = some ρ2 := by unfold consG; simp only; rw [h1]; exact h2
/-! walks -/
theorem ev_seqIL (h1 : f ρ = some (.list ds, ρ1)) : seqI f ρ = some (ds, ρ1) := by unfold seqI; rw [h1]; rfl
theorem ev_seqIT (h1 : f ρ = some (.tuple ds, ρ1)) : seqI f ρ = some (ds, ρ1) := by unfold seqI; rw [h1]; rfl
theorem ev_rng1 {t : Int} (h1 : f ρ = some (.int t, ρ1)) (h2 : -(2 ^ 62) ≤ t ∧ t ≤ sizeLine) : rngI1 f ρ = some (intsF 0 t.toNat, ρ1) := by unfold rngI1; rw [h1, Option.bind_some]; simp only; rw [if_pos h2]
theorem ev_rng2 {t u : Int} (h1 : f ρ = some (.int t, ρ1)) (h2 : g ρ1 = some (.int u, ρ2)) (h3 : -(2 ^ 62) ≤ t ∧ t < 2 ^ 62 ∧ -(2 ^ 62) ≤ u ∧ u < 2 ^ 62 ∧ u - t ≤ sizeLine) : rngI2 f g ρ = some (intsF t (u - t).toNat, ρ2) := by
  unfold rngI2; rw [h1, Option.bind_some, h2, Option.bind_some]; simp only; rw [if_pos h3]
theorem ev_for {it : Exs} {t : Tg} (h1 : it ρ = some (ds, ρ1)) (h2 : loopS t b ds ρ1 = o) : forS it t b ρ = o := by unfold forS; rw [h1]; exact h2
/-- a loop that runs to its end -/
theorem loop_all {t : Tg} (P : Nat → Rho → Prop) : ∀ (ds : List Dt) (ρ : Rho) (n : Nat), P n ρ → (∀ (i : Nat) (d : Dt) (ρ : Rho), ds[i]? = some d → P (n + i) ρ → ∃ ρ1 ρ2, t d ρ = some ρ1 ∧ (b ρ1 = some (.nx ρ2) ∨ b ρ1 = some (.ct ρ2)) ∧ P (n + i + 1) ρ2) → ∃ ρ', loopS t b ds ρ = some (.nx ρ') ∧ P (n + ds.length) ρ'
  | [], ρ, n, h, _ => ⟨ρ, rfl, h⟩
  | d :: ds, ρ, n, h, st => by
    obtain ⟨ρ1, ρ2, e1, e2, h2⟩ := st 0 d ρ rfl h
    obtain ⟨ρ', e3, h3⟩ := loop_all P ds ρ2 (n + 1) h2 fun i d ρ hd hp => by
      have e : n + (i + 1) = n + 1 + i := by omega
      have := st (i + 1) d ρ (by simpa using hd) (by rw [e]; exact hp)
      rw [e] at this
      exact this
    refine ⟨ρ', ?_, by rw [List.length_cons, Nat.add_comm ds.length 1, ← Nat.add_assoc]; exact h3⟩
    unfold loopS
    rw [e1, Option.bind_some]
    rcases e2 with e2 | e2
    · rw [e2]; exact e3
    · rw [e2]; exact e3
theorem loop_inv {t : Tg} (P : Nat → Rho → Prop) {ds : List Dt} {ρ : Rho} (h0 : P 0 ρ) (st : ∀ (i : Nat) (d : Dt) (ρ : Rho), ds[i]? = some d → P i ρ → ∃ ρ1 ρ2, t d ρ = some ρ1 ∧ (b ρ1 = some (.nx ρ2) ∨ b ρ1 = some (.ct ρ2)) ∧ P (i + 1) ρ2) : ∃ ρ', loopS t b ds ρ = some (.nx ρ') ∧ P ds.length ρ' := by
  have := loop_all (t := t) (b := b) P ds ρ 0 h0 fun i d ρ hd hp => by
    rw [Nat.zero_add] at hp ⊢; exact st i d ρ hd hp
  rw [Nat.zero_add] at this; exact this
/-- a comprehension: each item's element, the state's invariant -/
theorem lc_all {t : Tg} {vs : List Nat} (P : Nat → List Dt → Rho → Prop) : ∀ (ds acc : List Dt) (ρ : Rho) (n : Nat), P n acc ρ → (∀ (i : Nat) (d : Dt) (acc : List Dt) (ρ : Rho), ds[i]? = some d → P (n + i) acc ρ →
      ∃ ρ1 k ρ2, t d ρ = some ρ1 ∧ c ρ1 = some (k, ρ2) ∧ ((k = false ∧ P (n + i + 1) acc (wipeR ρ2 vs)) ∨ ∃ x ρ3, k = true ∧ f ρ2 = some (x, ρ3) ∧ P (n + i + 1) (acc ++ [x]) (wipeR ρ3 vs))) →
    ∃ out ρ', lcF t c f vs ds ρ = some (out, ρ') ∧ P (n + ds.length) (acc ++ out) ρ'
  | [], acc, ρ, n, h, _ => ⟨[], ρ, rfl, by rw [List.append_nil]; exact h⟩
  | d :: ds, acc, ρ, n, h, st => by
    obtain ⟨ρ1, k, ρ2, e1, e2, h2⟩ := st 0 d acc ρ rfl h
    have go : ∀ acc' ρ', P (n + 1) acc' ρ' → ∃ out ρ'', lcF t c f vs ds ρ' = some (out, ρ'') ∧ P (n + 1 + ds.length) (acc' ++ out) ρ'' := fun acc' ρ' hp => lc_all P ds acc' ρ' (n + 1) hp fun i d a ρ hd hp => by
      have e : n + (i + 1) = n + 1 + i := by omega
      have := st (i + 1) d a ρ (by simpa using hd) (by rw [e]; exact hp)
      rw [e] at this
      exact this
    have el : n + (d :: ds).length = n + 1 + ds.length := by rw [List.length_cons]; omega
    rw [el]
    unfold lcF
    rw [e1, Option.bind_some, e2, Option.bind_some]
    rcases h2 with ⟨rfl, hp⟩ | ⟨x, ρ3, rfl, e3, hp⟩
    · obtain ⟨out, ρ', e4, h4⟩ := go _ _ hp
      exact ⟨out, ρ', by rw [if_neg Bool.false_ne_true]; exact e4, h4⟩
    · obtain ⟨out, ρ', e4, h4⟩ := go _ _ hp
      refine ⟨x :: out, ρ', ?_, by rw [List.append_assoc] at h4; exact h4⟩
      simp only [if_true]
      rw [e3, Option.bind_some, e4]; rfl
theorem lc_inv {it : Exs} {t : Tg} {vs : List Nat} (P : Nat → List Dt → Rho → Prop) (h1 : it ρ = some (ds, ρ1)) (h0 : P 0 [] (wipeR ρ1 vs)) (st : ∀ (i : Nat) (d : Dt) (acc : List Dt) (ρ : Rho), ds[i]? = some d → P i acc ρ →
      ∃ ρ1 k ρ2, t d ρ = some ρ1 ∧ c ρ1 = some (k, ρ2) ∧ ((k = false ∧ P (i + 1) acc (wipeR ρ2 vs)) ∨ ∃ x ρ3, k = true ∧ f ρ2 = some (x, ρ3) ∧ P (i + 1) (acc ++ [x]) (wipeR ρ3 vs))) :
    ∃ out ρ', lcO it t c f vs ρ = some (out, backR ρ1 ρ' vs) ∧ P ds.length out ρ' := by
  obtain ⟨out, ρ', e, h⟩ := lc_all (t := t) (c := c) (f := f) (vs := vs) P ds [] (wipeR ρ1 vs) 0 h0 fun i d acc ρ hd hp => by
    rw [Nat.zero_add] at hp ⊢; exact st i d acc ρ hd hp
  rw [Nat.zero_add, List.nil_append] at h
  exact ⟨out, ρ', by unfold lcO; rw [h1, Option.bind_some, e]; rfl, h⟩
/-- a comprehension that leaves the state alone: a map -/
theorem lc_map {it : Exs} {t : Tg} {vs : List Nat} {F : Dt → Dt} (h1 : it ρ = some (ds, ρ1)) (st : ∀ d, d ∈ ds → ∃ ρ2 ρ3 ρ4, t d (wipeR ρ1 vs) = some ρ2 ∧ c ρ2 = some (true, ρ3) ∧ f ρ3 = some (F d, ρ4) ∧ wipeR ρ4 vs = wipeR ρ1 vs) :
    lcO it t c f vs ρ = some (ds.map F, backR ρ1 (wipeR ρ1 vs) vs) := by
  have key : ∀ es, (∀ d ∈ es, d ∈ ds) → lcF t c f vs es (wipeR ρ1 vs) = some (es.map F, wipeR ρ1 vs) := by
    intro es
    induction es with
    | nil => intro _; rfl
    | cons d es ih =>
      intro hs
      obtain ⟨ρ2, ρ3, ρ4, e1, e2, e3, e4⟩ := st d (hs d List.mem_cons_self)
      unfold lcF
      rw [e1, Option.bind_some, e2, Option.bind_some]
      simp only [if_true]
      rw [e3, Option.bind_some, e4, ih fun d hd => hs d (List.mem_cons_of_mem _ hd)]; rfl
  unfold lcO
  rw [h1, Option.bind_some, key ds fun _ h => h]; rfl
end
/-! the operators at ints -/
theorem ev_mod {a b : Int} (h : 0 < b) : modD (.int a) (.int b) = some (.int (a % b)) := by unfold modD; simp only; rw [if_pos h]
theorem ev_div {a b : Int} (h : 0 < b) (h2 : b < 1073741824) : divD (.int a) (.int b) = some (.int (a / b)) := by unfold divD; simp only; rw [if_pos ⟨h, h2⟩]
theorem ev_mulL {a b : Int} (h : -18446744073709551616 < a) (h2 : a < 18446744073709551616) : mulD (.int a) (.int b) = some (.int (a * b)) := by unfold mulD; simp only; rw [if_pos (.inl ⟨by omega, by omega⟩)]
theorem ev_mulR {a b : Int} (h : -18446744073709551616 < b) (h2 : b < 18446744073709551616) : mulD (.int a) (.int b) = some (.int (a * b)) := by unfold mulD; simp only; rw [if_pos (.inr ⟨by omega, by omega⟩)]
end G

set_option maxRecDepth 100000
set_option maxHeartbeats 4000000
namespace G
open PySem PySem.Spec PyProof.Rows L2
theorem at3_0 (a b c : Int) : atI [PyData.int a, .int b, .int c] 0 = some (.int a) := rfl
theorem at3_1 (a b c : Int) : atI [PyData.int a, .int b, .int c] 1 = some (.int b) := rfl
theorem at3_2 (a b c : Int) : atI [PyData.int a, .int b, .int c] 2 = some (.int c) := rfl
theorem sz_le {n : Nat} (h : n ≤ 16000000) : (n ≤ sizeLine) = True := eq_true (Nat.le_trans h (Nat.le_of_ble_eq_true rfl))
theorem sz_lt {n : Nat} (h : n < 16000000) : (n < sizeLine) = True := eq_true (Nat.lt_of_lt_of_le h (Nat.le_of_ble_eq_true rfl))
theorem sz_leI {j : Int} (h : j ≤ 16000000) : (j ≤ (sizeLine : Int)) = True := eq_true (Int.le_trans h (by decide))
theorem at2_0 (a b : Dt) : atI [a, b] 0 = some a := rfl
theorem at2_1 (a b : Dt) : atI [a, b] 1 = some b := rfl
theorem lc_mapE {α : Type} {xs : List α} {enc : α → Dt} {F : α → Dt} {it : Exs} {t : Tg} {c : Te} {f : Ex} {vs : List Nat} {ρ ρ1 : Rho} (h1 : it ρ = some (xs.map enc, ρ1)) (st : ∀ x, x ∈ xs → ∃ ρ2 ρ3 ρ4, t (enc x) (wipeR ρ1 vs) = some ρ2 ∧ c ρ2 = some (true, ρ3) ∧ f ρ3 = some (F x, ρ4) ∧ wipeR ρ4 vs = wipeR ρ1 vs) :
    lcO it t c f vs ρ = some (xs.map F, backR ρ1 (wipeR ρ1 vs) vs) := by
  have key : ∀ es : List α, (∀ d ∈ es, d ∈ xs) → lcF t c f vs (es.map enc) (wipeR ρ1 vs) = some (es.map F, wipeR ρ1 vs) := by
    intro es
    induction es with
    | nil => intro _; rfl
    | cons d es ih =>
      intro hs
      obtain ⟨ρ2, ρ3, ρ4, e1, e2, e3, e4⟩ := st d (hs d List.mem_cons_self)
      rw [List.map_cons]
      unfold lcF
      rw [e1, Option.bind_some, e2, Option.bind_some]
      simp only [if_true]
      rw [e3, Option.bind_some, e4, ih fun d hd => hs d (List.mem_cons_of_mem _ hd)]; rfl
  unfold lcO
  rw [h1, Option.bind_some, key xs fun _ h => h]; rfl
end G

set_option maxRecDepth 100000
set_option maxHeartbeats 4000000
namespace G
open PySem PySem.Spec PyProof.Rows L2
/-! ### zip, enumerate -/
def zipL (xs ys : List Dt) : List Dt := (xs.zip ys).map fun p => .tuple [p.1, p.2]
theorem zipL_len (xs ys : List Dt) : (zipL xs ys).length = min xs.length ys.length := by unfold zipL; rw [List.length_map, List.length_zip]
theorem zipL_get {xs ys : List Dt} {i : Nat} {d : Dt} (h : (zipL xs ys)[i]? = some d) : ∃ x y, xs[i]? = some x ∧ ys[i]? = some y ∧ d = .tuple [x, y] := by
  unfold zipL at h
  rw [List.getElem?_map] at h
  obtain ⟨p, h1, h2⟩ := opt_map h
  obtain ⟨a, b⟩ := List.getElem?_zip_eq_some.mp h1
  exact ⟨p.1, p.2, a, b, h2.symm⟩
def zipD : Dt → Dt → Option (List Dt)
  | .list xs, .list ys => some (zipL xs ys)
  | .tuple xs, .tuple ys => some (zipL xs ys)
  | _, _ => none
def zipI2 (f g : Ex) : Exs := fun ρ => (f ρ).bind fun p => (g p.2).bind fun q => (zipD p.1 q.1).map fun d => (d, q.2)
theorem pair_dp {K : PySem.W.Frag} {G H : Hp} {T : Addr} {x y : V} {d e : Dt} (s : Sub G H) (h : H T = none) (a : Dq K G x d) (b : Dq K G y e) : Ext G H (upd G T (.tup [x, y])) (upd H T (.tup [x, y])) ∧ Dq K (upd G T (.tup [x, y])) (.ref T) (.tuple [d, e]) :=
  have u : Sub G (upd G T (.tup [x, y])) := Sub.upd .refl (s.no h)
  ⟨.new s h, .tup (.of upd_same) (.cons (dp_mono u a) (.cons (dp_mono u b) .nil))⟩
theorem yields_zipL {K : PySem.W.Frag} {G0 : Hp} {a b : Addr} {xs ys : List V} {ds es : List Dt} (h1 : Rd G0 a (.lst xs)) (h2 : Rd G0 b (.lst ys)) (d1 : DqAll K G0 xs ds) (d2 : DqAll K G0 ys es) : Yields K G0 (Itz K a b) (zipL ds es) where
  go := fun i G H s0 s hi => by
    rw [zipL_len] at hi
    obtain ⟨x, hx, _⟩ := dpAll_get d1 (List.getElem?_eq_getElem (by omega : i < ds.length))
    obtain ⟨y, hy, _⟩ := dpAll_get d2 (List.getElem?_eq_getElem (by omega : i < es.length))
    exact ⟨xs, ys, x, y, .inl (rd_mono (s0.trans s) h1), .inl (rd_mono (s0.trans s) h2), hx, hy⟩
  yld := fun i G H v H' s0 s y d hd => by
    obtain ⟨T, x, z, rfl, hT, rfl, kx, kz⟩ := y
    obtain ⟨dx, dz, e1, e2, rfl⟩ := zipL_get hd
    have ex := kx xs (.inl (rd_mono (s0.trans s) h1))
    have ez := kz ys (.inl (rd_mono (s0.trans s) h2))
    obtain ⟨x', ex', qx⟩ := dpAll_get d1 e1
    obtain ⟨z', ez', qz⟩ := dpAll_get d2 e2
    rw [ex] at ex'; cases ex'
    rw [ez] at ez'; cases ez'
    exact ⟨_, pair_dp s hT (dp_mono s0 qx) (dp_mono s0 qz)⟩
  stop := fun i G H s0 s hi => by
    rw [zipL_len] at hi
    exact ⟨xs, ys, .inl (rd_mono (s0.trans s) h1), .inl (rd_mono (s0.trans s) h2), by rw [dpAll_len d1, dpAll_len d2]; omega⟩
theorem yields_zipT {K : PySem.W.Frag} {G0 : Hp} {a b : Addr} {xs ys : List V} {ds es : List Dt} (h1 : SqT K G0 a xs) (h2 : SqT K G0 b ys) (d1 : DqAll K G0 xs ds) (d2 : DqAll K G0 ys es) : Yields K G0 (RZ.ItzT K a b) (zipL ds es) where
  go := fun i G H s0 s hi => by
    rw [zipL_len] at hi
    obtain ⟨x, hx, _⟩ := dpAll_get d1 (List.getElem?_eq_getElem (by omega : i < ds.length))
    obtain ⟨y, hy, _⟩ := dpAll_get d2 (List.getElem?_eq_getElem (by omega : i < es.length))
    exact ⟨xs, ys, x, y, seqT_mono (s0.trans s) h1, seqT_mono (s0.trans s) h2, hx, hy⟩
  yld := fun i G H v H' s0 s y d hd => by
    obtain ⟨T, x, z, rfl, hT, rfl, kx, kz⟩ := y
    obtain ⟨dx, dz, e1, e2, rfl⟩ := zipL_get hd
    have ex := kx xs (seqT_mono (s0.trans s) h1)
    have ez := kz ys (seqT_mono (s0.trans s) h2)
    obtain ⟨x', ex', qx⟩ := dpAll_get d1 e1
    obtain ⟨z', ez', qz⟩ := dpAll_get d2 e2
    rw [ex] at ex'; cases ex'
    rw [ez] at ez'; cases ez'
    exact ⟨_, pair_dp s hT (dp_mono s0 qx) (dp_mono s0 qz)⟩
  stop := fun i G H s0 s hi => by
    rw [zipL_len] at hi
    exact ⟨xs, ys, seqT_mono (s0.trans s) h1, seqT_mono (s0.trans s) h2, by rw [dpAll_len d1, dpAll_len d2]; omega⟩
section
variable {X : Cx} {pos tpos p : Pos} {e e2 : Expr} {elts : List Expr} {kk : Nat} {f g : Ex}
theorem pi_zp2 (hc : X.calm = true) (hg : Gl X "zip") (hm : X.mg "zip" = none) (ha : PEd X e f) (hb : PEd X e2 g)
    (hs : starEach [e, e2] X.env = (false, eval e X.env) :: starEach [e2] X.env := by rfl) (hs2 : starEach [e2] X.env = (false, eval e2 X.env) :: starEach [] X.env := by rfl) (hpl : (backTo pos (starEach [e2] X.env)).any (·.1) = false := by rfl) :
    PId X (.Tuple elts kk tpos) (.Call (.Name "zip" p) [e, e2] [] pos) (zipI2 f g) :=
  PI.to (RZ.pi_zipA hg hm (L2.pa_cons ha (L2.pa_cons hb L2.pa_nil hs2) hs) hs hpl) fun σ H Q bd q => by
    obtain ⟨B, G, R, ρ, ds, ρ', o, e0, k⟩ := q
    obtain ⟨⟨pd, pρ⟩, e1, e2⟩ := opt_bind e0
    obtain ⟨⟨qd, qρ⟩, e3, e4⟩ := opt_bind e2
    obtain ⟨r, e5, e6⟩ := opt_map e4
    cases e6
    refine ⟨B, G, R, ρ, pd, pρ, o, e1, fun G1 H1 R1 v s1 o1 d1 => ⟨B, G1, R1, pρ, qd, qρ, o1, e3, fun G2 H2 R2 u s2 o2 d2 => ?_⟩⟩
    have d1' := dp_mono s2.g d1
    clear d1
    unfold zipD at e5
    simp only at e5
    split at e5
    · rename_i xs ys
      cases e5
      obtain ⟨a, vs, rfl, a1, a2⟩ := dp_lst d1'
      obtain ⟨b, us, rfl, b1, b2⟩ := dp_lst d2
      exact ⟨a, b, vs, us, rfl, .inl ⟨.inl (rd_mono o2.sub a1), .inl (rd_mono o2.sub b1), fun bd2 => k G2 H2 R2 _ (s1.trans s2) o2 (yields_zipL a1 b1 a2 b2) (by
        have := rd_bd bd2 (rd_mono o2.sub a1)
        have e : vs.length ≤ sizeLine := this
        rw [zipL_len, ← dpAll_len a2]; omega)⟩⟩
    · rename_i xs ys
      cases e5
      obtain ⟨a, vs, rfl, a1, a2⟩ := dp_tup d1'
      obtain ⟨b, us, rfl, b1, b2⟩ := dp_tup d2
      exact ⟨a, b, vs, us, rfl, .inr ⟨seqT_mono o2.sub a1, seqT_mono o2.sub b1, fun bd2 => k G2 H2 R2 _ (s1.trans s2) o2 (yields_zipT a1 b1 a2 b2) (by
        have := seqT_bd bd2 (seqT_mono o2.sub a1)
        rw [zipL_len, ← dpAll_len a2]; omega)⟩⟩
    · cases e5
end
end G

set_option maxRecDepth 100000
set_option maxHeartbeats 4000000
namespace G
open PySem PySem.Spec PyProof.Rows L2
/-! ### in, not in -/
def memD (a : Dt) : Dt → Option Bool
  | .list xs => if SeqAt.shaped a = true ∧ SeqAt.shaped (.list xs) = true then some (xs.any fun x => PyData.eqv x a) else none
  | .tuple xs => if SeqAt.shaped a = true ∧ SeqAt.shaped (.tuple xs) = true then some (xs.any fun x => PyData.eqv x a) else none
  | _ => none
def notMemD (a b : Dt) : Option Bool := (memD a b).map (!·)
theorem room65 {k : Nat} {A : Around} (r : Room k A) : A.units + 65 < cLine := by have := r.un; omega
section
variable {X : Cx}
theorem inOp (hu : X.A.units + 65 < cLine) : OpR X (compareOp .In) (rB X.K memD) := by
  intro pins s σ H x y v u Q I rx ry h
  obtain ⟨G, d, e, r, sb, h1, h2, h3, k⟩ := h
  unfold memD at h3
  split at h3
  · split at h3
    · rename_i hs
      cases h3
      obtain ⟨as, r1⟩ := Dp.reads I d x v (dp_of (dp_mono sb h1) (SeqAt.canLay_of_shaped hs.1)) rx
      obtain ⟨bs, r2⟩ := Dp.reads I _ y u (dp_of (dp_mono sb h2) (SeqAt.canLay_of_shaped hs.2)) ry
      exact SeqAt.in_list_reads r2 r1 (SeqAt.canLay_of_shaped hs.2) (SeqAt.canLay_of_shaped hs.1) (room_in_shaped hs.1 hu) ⟨.bl _, H, I, rfl, k⟩
    · cases h3
  · split at h3
    · rename_i hs
      cases h3
      obtain ⟨as, r1⟩ := Dp.reads I d x v (dp_of (dp_mono sb h1) (SeqAt.canLay_of_shaped hs.1)) rx
      obtain ⟨bs, r2⟩ := Dp.reads I _ y u (dp_of (dp_mono sb h2) (SeqAt.canLay_of_shaped hs.2)) ry
      exact SeqAt.in_tuple_reads r2 r1 (SeqAt.canLay_of_shaped hs.2) (SeqAt.canLay_of_shaped hs.1) (room_in_shaped hs.1 hu) ⟨.bl _, H, I, rfl, k⟩
    · cases h3
  · cases h3
theorem notInOp (hu : X.A.units + 65 < cLine) : OpR X (compareOp .NotIn) (rB X.K notMemD) := by
  intro pins s σ H x y v u Q I rx ry h
  obtain ⟨G, d, e, r, sb, h1, h2, h30, k⟩ := h
  obtain ⟨z, h3, h4⟩ := opt_map' h30
  subst h4
  unfold memD at h3
  split at h3
  · split at h3
    · rename_i hs
      cases h3
      obtain ⟨as, r1⟩ := Dp.reads I d x v (dp_of (dp_mono sb h1) (SeqAt.canLay_of_shaped hs.1)) rx
      obtain ⟨bs, r2⟩ := Dp.reads I _ y u (dp_of (dp_mono sb h2) (SeqAt.canLay_of_shaped hs.2)) ry
      exact SeqAt.notIn_list_reads r2 r1 (SeqAt.canLay_of_shaped hs.2) (SeqAt.canLay_of_shaped hs.1) (room_in_shaped hs.1 hu) ⟨.bl _, H, I, rfl, k⟩
    · cases h3
  · split at h3
    · rename_i hs
      cases h3
      obtain ⟨as, r1⟩ := Dp.reads I d x v (dp_of (dp_mono sb h1) (SeqAt.canLay_of_shaped hs.1)) rx
      obtain ⟨bs, r2⟩ := Dp.reads I _ y u (dp_of (dp_mono sb h2) (SeqAt.canLay_of_shaped hs.2)) ry
      exact SeqAt.notIn_tuple_reads r2 r1 (SeqAt.canLay_of_shaped hs.2) (SeqAt.canLay_of_shaped hs.1) (room_in_shaped hs.1 hu) ⟨.bl _, H, I, rfl, k⟩
    · cases h3
  · cases h3
end
/-! ### isinstance of two classes -/
def isi2D (T U : String) : Dt → Option Dt := fun d => (kitB (tyN d) T).bind fun b => if b = true then some (.bool true) else (kitB (tyN d) U).map .bool
def isi2E (T U : String) (f : Ex) : Ex := unE (isi2D T U) f
theorem pd_isi2 {X : Cx} {T U : String} {x y : Str} {e : Expr} {p tp up pos kp : Pos} {k : Nat} {f : Ex} (hg : Gl X "isinstance") (hm : X.mg "isinstance" = none) (he : PEd X e f) (ht : PE X (.Name x tp) (L2.tC (.ty T))) (hu : PE X (.Name y up) (L2.tC (.ty U)))
    (hs : starEach (e :: [.Tuple [.Name x tp, .Name y up] k kp]) X.env = (false, eval e X.env) :: starEach [.Tuple [.Name x tp, .Name y up] k kp] X.env := by rfl)
    (hs2 : starEach (.Tuple [.Name x tp, .Name y up] k kp :: []) X.env = (false, eval (.Tuple [.Name x tp, .Name y up] k kp) X.env) :: starEach [] X.env := by rfl) (hpl : (backTo pos (starEach [.Tuple [.Name x tp, .Name y up] k kp] X.env)).any (·.1) = false := by rfl)
    (hs3 : starEach (.Name x tp :: [.Name y up]) X.env = (false, eval (.Name x tp) X.env) :: starEach [.Name y up] X.env := by rfl) (hs4 : starEach (.Name y up :: []) X.env = (false, eval (.Name y up) X.env) :: starEach [] X.env := by rfl) :
    PEd X (.Call (.Name "isinstance" p) [e, .Tuple [.Name x tp, .Name y up] k kp] [] pos) (isi2E T U f) :=
  PE.to (L2.pe_callB call_isiT hg hm boot_isinstance (L2.pa_cons he (L2.pa_cons (L2.pe_tup (L2.pa_cons ht (L2.pa_cons hu L2.pa_nil hs4) hs3)) L2.pa_nil hs2) hs) (by decide) (by decide) hs hpl) fun σ H Q _ q => by
  obtain ⟨B, G, R, ρ, d, ρ', o, e0, kk⟩ := q
  obtain ⟨p, e1, e2⟩ := opt_bind e0
  obtain ⟨r, e3, e4⟩ := opt_map e2
  cases e4
  obtain ⟨b, e5, e6⟩ := opt_bind e3
  refine ⟨B, G, R, ρ, p.1, p.2, o, e1, fun G1 H1 R1 v s1 o1 d1 => ⟨Nat.le_of_ble_eq_true rfl, fun t ht => ?_⟩⟩
  have x1 := Ext.newH (o := HO.tup [V.ty T, V.ty U]) o1.sub ht
  have ty : TyX X.K (upd H1 t (.tup [V.ty T, V.ty U])) v (.type (tyN p.1)) := tyX_of x1.s d1
  cases b with
  | true =>
    rw [if_pos rfl] at e6
    cases e6
    exact ⟨v, t, [.ty T, .ty U], _, [.type T, .type U], true, rfl, upd_same, .cons (.ty T) (.cons (.ty U) .nil), ty, kitAny_cons (kit_ty e5) (fun z => by cases z) (fun _ => rfl), fun _ => kk G1 _ R1 _ (s1.trans (o1.stp x1)) (o1.ext x1) (.bl true)⟩
  | false =>
    rw [if_neg Bool.false_ne_true] at e6
    obtain ⟨b2, e7, e8⟩ := opt_map e6
    cases e8
    exact ⟨v, t, [.ty T, .ty U], _, [.type T, .type U], b2, rfl, upd_same, .cons (.ty T) (.cons (.ty U) .nil), ty, kitAny_cons (kit_ty e5) (fun _ => kitAny_cons (kit_ty e7) (fun z => by rw [kitAny_nil, z]) (fun z => z)) (fun z => by cases z), fun _ => kk G1 _ R1 _ (s1.trans (o1.stp x1)) (o1.ext x1) (.bl b2)⟩
def isSeq : Dt → Bool
  | .list _ => true
  | .tuple _ => true
  | .dict _ => true
  | _ => false
theorem isi2_of {T U : String} {d : Dt} {b c : Bool} (h1 : isiD T d = some (.bool b)) (h2 : isiD U d = some (.bool c)) : isi2D T U d = some (.bool (b || c)) := by
  obtain ⟨p, a1, a2⟩ := opt_map h1
  obtain ⟨q, a3, a4⟩ := opt_map h2
  cases a2; cases a4
  unfold isi2D
  rw [a1, Option.bind_some]
  cases b with
  | true => rfl
  | false => rw [if_neg Bool.false_ne_true, a3]; rfl
end G

set_option maxRecDepth 100000
set_option maxHeartbeats 4000000
namespace G
open PySem PySem.Spec PyProof.Rows L2
theorem eqD_int (a b : Int) : eqD (.int a) (.int b) = some (decide (a = b)) := rfl
theorem eqD_str (a b : Str) : eqD (.str a) (.str b) = some (decide (a = b)) := rfl
theorem eqD_bl (a b : Bool) : eqD (.bool a) (.bool b) = some (decide (a = b)) := by cases a <;> cases b <;> rfl
theorem eqD_non : eqD .none .none = some true := rfl
theorem maxD_2 (a b : Int) : maxD [.int a, .int b] = some (.int (if b > a then b else a)) := rfl
theorem minD_2 (a b : Int) : minD [.int a, .int b] = some (.int (if b < a then b else a)) := rfl
end G

namespace G
open PySem PySem.Spec PyProof.Rows L2
def topS (i : Nat) : Stmt := PySem.Challenge.pw_emptybox_k41_how_far_up.main.body.getD i (.Pass ⟨0, 0, 0, 0⟩)
/-! rise_over -/
abbrev s_rise_over : Stmt := topS 1
theorem sc_rise_over : FnScope ["room", "left", "right", "low", "above", "top", "wall"] ["room", "left", "right", "low"] (defScope s_rise_over) := ⟨rfl, rfl, rfl, by decide +kernel, rfl, by decide +kernel, by decide +kernel⟩
def b_rise_over : Sm :=
    seqS (asgS 4 (lstE (lcO (seqI (binE itemD (nameE 0) (conE (.int 2)))) (nameG 6) (andT (cmpT ltD (nameE 1) (binE itemD (nameE 6) (conE (.int 2)))) (andT (cmpT ltD (binE itemD (nameE 6) (conE (.int 0))) (nameE 2)) (cmpT ltD (nameE 3) (binE itemD (nameE 6) (conE (.int 3)))))) (binE itemD (nameE 6) (conE (.int 1))) [6])))
    (seqS (asgS 5 (bltE minD (consA (lstE (binO catD (nameE 4) (lstE (lstO (consA (binE itemD (nameE 0) (conE (.int 1))) (nilA)))))) (nilA))))
    (retS (ifE (cmpT gtD (nameE 5) (nameE 3)) (nameE 5) (conE .none))))
def m_rise_over : Mt := mDef 7 b_rise_over
theorem bo_rise_over {P : Program} {w : World} {K : PySem.W.Frag} {mg : Str → Option Value} {base : Heap} {f : Addr} (Z : Blt mg) (cdv : Value) (A : Around) (outer : List Env) (s : Shared) (H : Hp) (E : XK) (hr : Room 0 (A.deeper (envOfC "rise_over" (defScope s_rise_over) s.heap.objs.size f cdv))) :
    PSsd (cxOf CX0 P w K mg base ["room", "left", "right", "low", "above", "top", "wall"] "rise_over" (defScope s_rise_over) f cdv A outer s H E).nox (defBody s_rise_over) b_rise_over :=
  have nd := sc_rise_over.nd
  pss_cons (ps_setLcD (i := 4) rfl nd rfl rfl (sw_true rfl rfl rfl (by decide +kernel)) (pi_seq (pd_item (pd_name (pv 0)) (pd_int) (fun _ _ => rfl))) (blkOk_by (own := [("wall", 6)]) (by kernel_rfl)) (fun _ _ _ _ _ => pg_name (L2.pg_name (i := 6) nd rfl (Or.inl rfl))) (fun _ _ _ _ _ => pts_one (pt_w (pw_and (pt_cmp ltOp (pd_name (pv 1)) (pd_item (pd_name (pv 6)) (pd_int) (fun _ _ => rfl)) (nomark _)) (pw_and (pt_cmp ltOp (pd_item (pd_name (pv 6)) (pd_int) (fun _ _ => rfl)) (pd_name (pv 2)) (nomark _)) (pw_and1 (pt_cmp ltOp (pd_name (pv 3)) (pd_item (pd_name (pv 6)) (pd_int) (fun _ _ => rfl)) (nomark _))))))) (fun _ _ _ _ _ => pd_item (pd_name (pv 6)) (pd_int) (fun _ _ => rfl)) (by decide))
    (pss_cons (ps_set (fun _ h => L2.ps_set (i := 5) nd rfl (Or.inl rfl) h) (pd_callB (minB rfl) rfl Z.b_min boot_min (pa_cons (po_d (po_bin catO (pd_name (pv 4)) (po_d (po_lst (pa_cons (pd_item (pd_name (pv 0)) (pd_int) (fun _ _ => rfl)) (pa_nil)))))) (pa_nil))))
    (pss_one (ps_ret (pd_if (pt_cmp gtOp (pd_name (pv 5)) (pd_name (pv 3)) (nomark _)) (pd_name (pv 5)) (pd_non)))))
theorem ok_rise_over {P : Program} {w : World} {K : PySem.W.Frag} {mg : Str → Option Value} {base : Heap} {f : Addr} {fd : FuncData} (Z : Blt mg) (F : Fun K "rise_over" "rise_over" s_rise_over f fd) (hm : mg "rise_over" = some (.ref f)) (hb : Binds K fd ["room", "left", "right", "low"] []) : Cal P w K mg base 1 "rise_over" ["room", "left", "right", "low"] m_rise_over :=
  ⟨f, fd, def_ok F sc_rise_over (bo_rise_over Z), hm, F.kp, hb⟩
/-! _law_cell_at -/
abbrev s__law_cell_at : Stmt := topS 3
theorem sc__law_cell_at : FnScope ["_law_script", "_law_k"] ["_law_script", "_law_k"] (defScope s__law_cell_at) := ⟨rfl, rfl, rfl, by decide +kernel, rfl, by decide +kernel, by decide +kernel⟩
def b__law_cell_at : Sm :=
    seqS (ifS (cmpT ltD (nameE 1) (bltE lenD (consA (nameE 0) (nilA)))) (retS (binE itemD (nameE 0) (nameE 1))) (nilS))
    (retS (conE (.int 0)))
def m__law_cell_at : Mt := mDef 2 b__law_cell_at
theorem bo__law_cell_at {P : Program} {w : World} {K : PySem.W.Frag} {mg : Str → Option Value} {base : Heap} {f : Addr} (Z : Blt mg) (cdv : Value) (A : Around) (outer : List Env) (s : Shared) (H : Hp) (E : XK) (hr : Room 0 (A.deeper (envOfC "_law_cell_at" (defScope s__law_cell_at) s.heap.objs.size f cdv))) :
    PSsd (cxOf CX0 P w K mg base ["_law_script", "_law_k"] "_law_cell_at" (defScope s__law_cell_at) f cdv A outer s H E).nox (defBody s__law_cell_at) b__law_cell_at :=
  have nd := sc__law_cell_at.nd
  pss_cons (ps_if (pt_cmp ltOp (pd_name (pv 1)) (pd_callB lenB rfl Z.b_len PySem.boot_len (pa_cons (pd_name (pv 0)) (pa_nil))) (nomark _)) (pss_one (ps_ret (pd_item (pd_name (pv 0)) (pd_name (pv 1)) (fun _ _ => rfl)))) (pss_nil))
    (pss_one (ps_ret (pd_int)))
theorem ok__law_cell_at {P : Program} {w : World} {K : PySem.W.Frag} {mg : Str → Option Value} {base : Heap} {f : Addr} {fd : FuncData} (Z : Blt mg) (F : Fun K "_law_cell_at" "_law_cell_at" s__law_cell_at f fd) (hm : mg "_law_cell_at" = some (.ref f)) (hb : Binds K fd ["_law_script", "_law_k"] []) : Cal P w K mg base 1 "_law_cell_at" ["_law_script", "_law_k"] m__law_cell_at :=
  ⟨f, fd, def_ok F sc__law_cell_at (bo__law_cell_at Z), hm, F.kp, hb⟩
/-! _law_tape -/
abbrev s__law_tape : Stmt := topS 4
theorem sc__law_tape : FnScope ["_law_script", "_law_k", "_law_cell"] ["_law_script", "_law_k"] (defScope s__law_tape) := ⟨rfl, rfl, rfl, by decide +kernel, rfl, by decide +kernel, by decide +kernel⟩
def b__law_tape : Sm :=
    seqS (asgS 2 (callE 2 m__law_cell_at (consC (nameE 0) (consC (nameE 1) (nilC)))))
    (retO (lstO (consA (binE mulD (bltE absD (consA (nameE 2) (nilA))) (bltE intD (consA (boolE (cmpT geD (bltE absD (consA (nameE 2) (nilA))) (binE powD (conE (.int 10)) (conE (.int 18))))) (nilA)))) (consA (binE addD (binE addD (binE modD (nameE 2) (conE (.int 2305843009213693951))) (binE mulD (conE (.int 39373)) (nameE 1))) (conE (.int 17))) (consA (conE (.int 0)) (nilA))))))
def m__law_tape : Mt := mDef 3 b__law_tape
def o__law_tape : MtO := mDefO 3 b__law_tape
theorem bo__law_tape {P : Program} {w : World} {K : PySem.W.Frag} {mg : Str → Option Value} {base : Heap} {f : Addr} (Z : Blt mg) (C__law_cell_at : Cal P w K mg base 1 "_law_cell_at" ["_law_script", "_law_k"] m__law_cell_at) (cdv : Value) (A : Around) (outer : List Env) (s : Shared) (H : Hp) (E : XK) (hr : Room 1 (A.deeper (envOfC "_law_tape" (defScope s__law_tape) s.heap.objs.size f cdv))) :
    PSsd (cxOf CX0 P w K mg base ["_law_script", "_law_k", "_law_cell"] "_law_tape" (defScope s__law_tape) f cdv A outer s H E).nox (defBody s__law_tape) b__law_tape :=
  have nd := sc__law_tape.nd
  pss_cons (ps_set (fun _ h => L2.ps_set (i := 2) nd rfl (Or.inl rfl) h) (pd_callC C__law_cell_at hr (by decide) rfl (pc_cons (pd_name (pv 0)) (pc_cons (pd_name (pv 1)) (pc_nil)))))
    (pss_one (ps_retO (po_lst (pa_cons (pd_bin mulOp (pd_callB absB rfl Z.b_abs boot_abs (pa_cons (pd_name (pv 2)) (pa_nil))) (pd_callTy intB rfl Z.b_int PyProof.Rows.boot_int (pa_cons (pd_cmp geOp (pd_callB absB rfl Z.b_abs boot_abs (pa_cons (pd_name (pv 2)) (pa_nil))) (pd_bin powOp (pd_int) (pd_int)) (nomark _)) (pa_nil)))) (pa_cons (pd_bin addOp (pd_bin addOp (pd_bin modOp (pd_name (pv 2)) (pd_int)) (pd_bin mulOp (pd_int) (pd_name (pv 1)))) (pd_int)) (pa_cons (pd_int) (pa_nil)))))))
theorem ok__law_tape {P : Program} {w : World} {K : PySem.W.Frag} {mg : Str → Option Value} {base : Heap} {f : Addr} {fd : FuncData} (Z : Blt mg) (F : Fun K "_law_tape" "_law_tape" s__law_tape f fd) (hm : mg "_law_tape" = some (.ref f)) (hb : Binds K fd ["_law_script", "_law_k"] []) (C__law_cell_at : Cal P w K mg base 1 "_law_cell_at" ["_law_script", "_law_k"] m__law_cell_at) : Cal P w K mg base 2 "_law_tape" ["_law_script", "_law_k"] m__law_tape :=
  ⟨f, fd, def_ok F sc__law_tape (bo__law_tape Z C__law_cell_at), hm, F.kp, hb⟩
theorem okO__law_tape {P : Program} {w : World} {K : PySem.W.Frag} {mg : Str → Option Value} {base : Heap} {f : Addr} {fd : FuncData} (Z : Blt mg) (F : Fun K "_law_tape" "_law_tape" s__law_tape f fd) (hm : mg "_law_tape" = some (.ref f)) (hb : Binds K fd ["_law_script", "_law_k"] []) (C__law_cell_at : Cal P w K mg base 1 "_law_cell_at" ["_law_script", "_law_k"] m__law_cell_at) : CalO P w K mg base 2 "_law_tape" ["_law_script", "_law_k"] o__law_tape :=
  ⟨f, fd, def_okO F sc__law_tape (bo__law_tape Z C__law_cell_at), hm, F.kp, hb⟩
/-! _law_take -/
abbrev s__law_take : Stmt := topS 5
theorem sc__law_take : FnScope ["_law_tape_here", "_law_many", "_law_found", "_law_once", "_law_twice"] ["_law_tape_here", "_law_many"] (defScope s__law_take) := ⟨rfl, rfl, rfl, by decide +kernel, rfl, by decide +kernel, by decide +kernel⟩
def b__law_take : Sm :=
    seqS (ifS (cmpT gtD (ownItem 0 (conE (.int 0))) (conE (.int 0))) (seqS (asgS 2 (binE modD (ownItem 0 (conE (.int 0))) (nameE 1)))
    (seqS (putS 0 (binE divD (ownItem 0 (conE (.int 0))) (nameE 1)) (conE (.int 0)))
    (retS (nameE 2)))) (nilS))
    (seqS (putS 0 (binE addD (ownItem 0 (conE (.int 2))) (conE (.int 1))) (conE (.int 2)))
    (seqS (asgS 3 (binE modD (binE mulD (binE addD (ownItem 0 (conE (.int 1))) (binE mulD (conE (.int 48271)) (ownItem 0 (conE (.int 2))))) (binE addD (conE (.int 39373)) (ownItem 0 (conE (.int 2))))) (conE (.int 2147483647))))
    (seqS (asgS 4 (binE modD (binE mulD (binE addD (nameE 3) (ownItem 0 (conE (.int 2)))) (binE addD (binE modD (nameE 3) (conE (.int 40009))) (conE (.int 7)))) (conE (.int 2147483629))))
    (retS (binE modD (binE divD (binE modD (binE addD (binE mulD (nameE 4) (conE (.int 48271))) (nameE 3)) (conE (.int 2147483587))) (conE (.int 64))) (nameE 1))))))
def m__law_take : Mt := mDef 5 b__law_take
theorem bo__law_take {P : Program} {w : World} {K : PySem.W.Frag} {mg : Str → Option Value} {base : Heap} {f : Addr} (Z : Blt mg) (cdv : Value) (A : Around) (outer : List Env) (s : Shared) (H : Hp) (E : XK) (hr : Room 0 (A.deeper (envOfC "_law_take" (defScope s__law_take) s.heap.objs.size f cdv))) :
    PSsd (cxOf CX0 P w K mg base ["_law_tape_here", "_law_many", "_law_found", "_law_once", "_law_twice"] "_law_take" (defScope s__law_take) f cdv A outer s H E).nox (defBody s__law_take) b__law_take :=
  have nd := sc__law_take.nd
  pss_cons (ps_if (pt_cmp gtOp (pd_ownItem (pv 0) (pd_int) (fun _ _ => rfl)) (pd_int) (nomark _)) (pss_cons (ps_set (fun _ h => L2.ps_set (i := 2) nd rfl (Or.inl rfl) h) (pd_bin modOp (pd_ownItem (pv 0) (pd_int) (fun _ _ => rfl)) (pd_name (pv 1))))
    (pss_cons (ps_put (pv 0) (pd_int) (pd_bin divOp (pd_ownItem (pv 0) (pd_int) (fun _ _ => rfl)) (pd_name (pv 1))) (fun _ _ h g => L2.ps_asg h g))
    (pss_one (ps_ret (pd_name (pv 2)))))) (pss_nil))
    (pss_cons (ps_put (pv 0) (pd_int) (pd_bin addOp (pd_ownItem (pv 0) (pd_int) (fun _ _ => rfl)) (pd_int)) (fun _ _ h g => L2.ps_asg h g))
    (pss_cons (ps_set (fun _ h => L2.ps_set (i := 3) nd rfl (Or.inl rfl) h) (pd_bin modOp (pd_bin mulOp (pd_bin addOp (pd_ownItem (pv 0) (pd_int) (fun _ _ => rfl)) (pd_bin mulOp (pd_int) (pd_ownItem (pv 0) (pd_int) (fun _ _ => rfl)))) (pd_bin addOp (pd_int) (pd_ownItem (pv 0) (pd_int) (fun _ _ => rfl)))) (pd_int)))
    (pss_cons (ps_set (fun _ h => L2.ps_set (i := 4) nd rfl (Or.inl rfl) h) (pd_bin modOp (pd_bin mulOp (pd_bin addOp (pd_name (pv 3)) (pd_ownItem (pv 0) (pd_int) (fun _ _ => rfl))) (pd_bin addOp (pd_bin modOp (pd_name (pv 3)) (pd_int)) (pd_int))) (pd_int)))
    (pss_one (ps_ret (pd_bin modOp (pd_bin divOp (pd_bin modOp (pd_bin addOp (pd_bin mulOp (pd_name (pv 4)) (pd_int)) (pd_name (pv 3))) (pd_int)) (pd_int)) (pd_name (pv 1))))))))
theorem ok__law_take {P : Program} {w : World} {K : PySem.W.Frag} {mg : Str → Option Value} {base : Heap} {f : Addr} {fd : FuncData} (Z : Blt mg) (F : Fun K "_law_take" "_law_take" s__law_take f fd) (hm : mg "_law_take" = some (.ref f)) (hb : Binds K fd ["_law_tape_here", "_law_many"] []) : Cal P w K mg base 1 "_law_take" ["_law_tape_here", "_law_many"] m__law_take :=
  ⟨f, fd, def_ok F sc__law_take (bo__law_take Z), hm, F.kp, hb⟩
/-! _law_marks -/
abbrev s__law_marks : Stmt := topS 6
theorem sc__law_marks : FnScope ["_law_tape_here", "_law_most", "_law_turn"] ["_law_tape_here", "_law_most"] (defScope s__law_marks) := ⟨rfl, rfl, rfl, by decide +kernel, rfl, by decide +kernel, by decide +kernel⟩
def b__law_marks : Sm :=
    seqS (ifS (cmpT ltD (nameE 1) (conE (.int 9))) (retO (listRg1 (binE addD (nameE 1) (conE (.int 1))))) (nilS))
    (retO (sortSetO (lstE (binO catD (lstE (lstO (consA (conE (.int 0)) (consA (nameE 1) (nilA))))) (lstE (lcO (rngI1 (conE (.int 10))) (nameG 2) (yesT) (callE 2 m__law_take (consP 0 (consC (binE addD (nameE 1) (conE (.int 1))) (nilC)))) [2]))))))
def m__law_marks : Mt := mDef 3 b__law_marks
theorem bo__law_marks {P : Program} {w : World} {K : PySem.W.Frag} {mg : Str → Option Value} {base : Heap} {f : Addr} (Z : Blt mg) (C__law_take : Cal P w K mg base 1 "_law_take" ["_law_tape_here", "_law_many"] m__law_take) (cdv : Value) (A : Around) (outer : List Env) (s : Shared) (H : Hp) (E : XK) (hr : Room 1 (A.deeper (envOfC "_law_marks" (defScope s__law_marks) s.heap.objs.size f cdv))) :
    PSsd (cxOf CX0 P w K mg base ["_law_tape_here", "_law_most", "_law_turn"] "_law_marks" (defScope s__law_marks) f cdv A outer s H E).nox (defBody s__law_marks) b__law_marks :=
  have nd := sc__law_marks.nd
  pss_cons (ps_if (pt_cmp ltOp (pd_name (pv 1)) (pd_int) (nomark _)) (pss_one (ps_retO (po_listRg1 rfl rfl Z.b_list rfl Z.b_range (pd_bin addOp (pd_name (pv 1)) (pd_int))))) (pss_nil))
    (pss_one (ps_retO (po_sortSet rfl hr rfl Z.b_sorted rfl Z.b_set (po_d (po_bin catO (po_d (po_lst (pa_cons (pd_int) (pa_cons (pd_name (pv 1)) (pa_nil))))) (po_d (po_lc rfl nd (pi_rng1 rfl Z.b_range (pd_int)) (blkOk_by (own := [("_law_turn", 2)]) (by kernel_rfl)) (fun _ _ _ _ _ => pg_name (L2.pg_name (i := 2) nd rfl (Or.inl rfl))) (fun _ _ _ _ _ => pts_nil) (fun _ _ _ _ _ => pd_callC C__law_take hr (by decide) rfl (pc_consP (pv 0) (pc_cons (pd_bin addOp (pd_name (pv 1)) (pd_int)) (pc_nil)))) (by decide))))))))
theorem ok__law_marks {P : Program} {w : World} {K : PySem.W.Frag} {mg : Str → Option Value} {base : Heap} {f : Addr} {fd : FuncData} (Z : Blt mg) (F : Fun K "_law_marks" "_law_marks" s__law_marks f fd) (hm : mg "_law_marks" = some (.ref f)) (hb : Binds K fd ["_law_tape_here", "_law_most"] []) (C__law_take : Cal P w K mg base 1 "_law_take" ["_law_tape_here", "_law_many"] m__law_take) : Cal P w K mg base 2 "_law_marks" ["_law_tape_here", "_law_most"] m__law_marks :=
  ⟨f, fd, def_ok F sc__law_marks (bo__law_marks Z C__law_take), hm, F.kp, hb⟩
/-! _law_shut_here -/
abbrev s__law_shut_here : Stmt := topS 7
theorem sc__law_shut_here : FnScope ["_law_tape_here", "_law_across", "_law_up", "_law_one", "_law_other", "_law_low", "_law_high", "_law_sort"] ["_law_tape_here", "_law_across", "_law_up"] (defScope s__law_shut_here) := ⟨rfl, rfl, rfl, by decide +kernel, rfl, by decide +kernel, by decide +kernel⟩
def b__law_shut_here : Sm :=
    seqS (parS 3 4 (consA (binE itemD (nameE 1) (callE 2 m__law_take (consP 0 (consC (bltE lenD (consA (nameE 1) (nilA))) (nilC))))) (consA (binE itemD (nameE 1) (callE 2 m__law_take (consP 0 (consC (bltE lenD (consA (nameE 1) (nilA))) (nilC))))) (nilA))))
    (seqS (parS 5 6 (consA (binE itemD (nameE 2) (callE 2 m__law_take (consP 0 (consC (bltE lenD (consA (nameE 2) (nilA))) (nilC))))) (consA (binE itemD (nameE 2) (callE 2 m__law_take (consP 0 (consC (bltE lenD (consA (nameE 2) (nilA))) (nilC))))) (nilA))))
    (seqS (asgS 7 (callE 2 m__law_take (consP 0 (consC (conE (.int 8)) (nilC)))))
    (seqS (ifS (cmpT ltD (nameE 7) (conE (.int 6))) (asgS 4 (nameE 3)) (nilS))
    (seqS (ifS (orT (cmpT ltD (nameE 7) (conE (.int 5))) (cmpT eqD (nameE 7) (conE (.int 6)))) (asgS 6 (nameE 5)) (nilS))
    (retS (tupE (consA (bltE minD (consA (nameE 3) (consA (nameE 4) (nilA)))) (consA (bltE minD (consA (nameE 5) (consA (nameE 6) (nilA)))) (consA (bltE maxD (consA (nameE 3) (consA (nameE 4) (nilA)))) (consA (bltE maxD (consA (nameE 5) (consA (nameE 6) (nilA)))) (nilA)))))))))))
def m__law_shut_here : Mt := mDef 8 b__law_shut_here
theorem bo__law_shut_here {P : Program} {w : World} {K : PySem.W.Frag} {mg : Str → Option Value} {base : Heap} {f : Addr} (Z : Blt mg) (C__law_take : Cal P w K mg base 1 "_law_take" ["_law_tape_here", "_law_many"] m__law_take) (cdv : Value) (A : Around) (outer : List Env) (s : Shared) (H : Hp) (E : XK) (hr : Room 1 (A.deeper (envOfC "_law_shut_here" (defScope s__law_shut_here) s.heap.objs.size f cdv))) :
    PSsd (cxOf CX0 P w K mg base ["_law_tape_here", "_law_across", "_law_up", "_law_one", "_law_other", "_law_low", "_law_high", "_law_sort"] "_law_shut_here" (defScope s__law_shut_here) f cdv A outer s H E).nox (defBody s__law_shut_here) b__law_shut_here :=
  have nd := sc__law_shut_here.nd
  pss_cons (ps_par (i := 3) (j := 4) (fun _ h => L2.ps_par rfl nd rfl rfl (by decide) rfl rfl h (by rfl)) (pa_cons (pd_item (pd_name (pv 1)) (pd_callC C__law_take hr (by decide) rfl (pc_consP (pv 0) (pc_cons (pd_callB lenB rfl Z.b_len PySem.boot_len (pa_cons (pd_name (pv 1)) (pa_nil))) (pc_nil)))) (fun _ _ => rfl)) (pa_cons (pd_item (pd_name (pv 1)) (pd_callC C__law_take hr (by decide) rfl (pc_consP (pv 0) (pc_cons (pd_callB lenB rfl Z.b_len PySem.boot_len (pa_cons (pd_name (pv 1)) (pa_nil))) (pc_nil)))) (fun _ _ => rfl)) (pa_nil))))
    (pss_cons (ps_par (i := 5) (j := 6) (fun _ h => L2.ps_par rfl nd rfl rfl (by decide) rfl rfl h (by rfl)) (pa_cons (pd_item (pd_name (pv 2)) (pd_callC C__law_take hr (by decide) rfl (pc_consP (pv 0) (pc_cons (pd_callB lenB rfl Z.b_len PySem.boot_len (pa_cons (pd_name (pv 2)) (pa_nil))) (pc_nil)))) (fun _ _ => rfl)) (pa_cons (pd_item (pd_name (pv 2)) (pd_callC C__law_take hr (by decide) rfl (pc_consP (pv 0) (pc_cons (pd_callB lenB rfl Z.b_len PySem.boot_len (pa_cons (pd_name (pv 2)) (pa_nil))) (pc_nil)))) (fun _ _ => rfl)) (pa_nil))))
    (pss_cons (ps_set (fun _ h => L2.ps_set (i := 7) nd rfl (Or.inl rfl) h) (pd_callC C__law_take hr (by decide) rfl (pc_consP (pv 0) (pc_cons (pd_int) (pc_nil)))))
    (pss_cons (ps_if (pt_cmp ltOp (pd_name (pv 7)) (pd_int) (nomark _)) (pss_one (ps_set (fun _ h => L2.ps_set (i := 4) nd rfl (Or.inl rfl) h) (pd_name (pv 3)))) (pss_nil))
    (pss_cons (ps_if (pt_w (pw_or (pt_cmp ltOp (pd_name (pv 7)) (pd_int) (nomark _)) (pw_or1 (pt_cmp (eqOp hr.units) (pd_name (pv 7)) (pd_int) (nomark _))))) (pss_one (ps_set (fun _ h => L2.ps_set (i := 6) nd rfl (Or.inl rfl) h) (pd_name (pv 5)))) (pss_nil))
    (pss_one (ps_ret (pd_tup (pa_cons (pd_callB (minB rfl) rfl Z.b_min boot_min (pa_cons (pd_name (pv 3)) (pa_cons (pd_name (pv 4)) (pa_nil)))) (pa_cons (pd_callB (minB rfl) rfl Z.b_min boot_min (pa_cons (pd_name (pv 5)) (pa_cons (pd_name (pv 6)) (pa_nil)))) (pa_cons (pd_callB (maxB rfl) rfl Z.b_max boot_max (pa_cons (pd_name (pv 3)) (pa_cons (pd_name (pv 4)) (pa_nil)))) (pa_cons (pd_callB (maxB rfl) rfl Z.b_max boot_max (pa_cons (pd_name (pv 5)) (pa_cons (pd_name (pv 6)) (pa_nil)))) (pa_nil))))))))))))
theorem ok__law_shut_here {P : Program} {w : World} {K : PySem.W.Frag} {mg : Str → Option Value} {base : Heap} {f : Addr} {fd : FuncData} (Z : Blt mg) (F : Fun K "_law_shut_here" "_law_shut_here" s__law_shut_here f fd) (hm : mg "_law_shut_here" = some (.ref f)) (hb : Binds K fd ["_law_tape_here", "_law_across", "_law_up"] []) (C__law_take : Cal P w K mg base 1 "_law_take" ["_law_tape_here", "_law_many"] m__law_take) : Cal P w K mg base 2 "_law_shut_here" ["_law_tape_here", "_law_across", "_law_up"] m__law_shut_here :=
  ⟨f, fd, def_ok F sc__law_shut_here (bo__law_shut_here Z C__law_take), hm, F.kp, hb⟩
/-! _law_room -/
abbrev s__law_room : Stmt := topS 8
theorem sc__law_room : FnScope ["_law_tape_here", "_law_great", "_law_wide", "_law_high", "_law_across", "_law_up", "_law_many", "_law_shuts", "_law_turn"] ["_law_tape_here", "_law_great"] (defScope s__law_room) := ⟨rfl, rfl, rfl, by decide +kernel, rfl, by decide +kernel, by decide +kernel⟩
def b__law_room : Sm :=
    seqS (asgS 2 (binE itemD (lstE (lstO (consA (binE addD (conE (.int 1)) (callE 2 m__law_take (consP 0 (consC (conE (.int 8)) (nilC))))) (consA (binE addD (conE (.int 9)) (callE 2 m__law_take (consP 0 (consC (binE itemD (lstE (lstO (consA (conE (.int 12)) (consA (binE subD (binE powD (conE (.int 10)) (conE (.int 6))) (conE (.int 8))) (nilA))))) (callE 2 m__law_take (consP 0 (consC (conE (.int 2)) (nilC))))) (nilC))))) (nilA))))) (bltE intD (consA (nameE 1) (nilA)))))
    (seqS (asgS 3 (binE itemD (lstE (lstO (consA (binE addD (conE (.int 1)) (callE 2 m__law_take (consP 0 (consC (conE (.int 8)) (nilC))))) (consA (binE addD (conE (.int 9)) (callE 2 m__law_take (consP 0 (consC (binE itemD (lstE (lstO (consA (conE (.int 12)) (consA (binE subD (binE powD (conE (.int 10)) (conE (.int 6))) (conE (.int 8))) (nilA))))) (callE 2 m__law_take (consP 0 (consC (conE (.int 2)) (nilC))))) (nilC))))) (nilA))))) (bltE intD (consA (nameE 1) (nilA)))))
    (seqS (asgT (tupG 2 (consG (nameG 4) (consG (nameG 5) (nilG)))) (tupE (consA (callE 2 m__law_marks (consP 0 (consC (nameE 2) (nilC)))) (consA (callE 2 m__law_marks (consP 0 (consC (nameE 3) (nilC)))) (nilA)))))
    (seqS (asgS 6 (binE itemD (lstE (lstO (consA (callE 2 m__law_take (consP 0 (consC (conE (.int 10)) (nilC)))) (consA (binE addD (conE (.int 7)) (callE 2 m__law_take (consP 0 (consC (conE (.int 24)) (nilC))))) (nilA))))) (bltE intD (consA (nameE 1) (nilA)))))
    (seqS (asgS 7 (lstE (lcO (rngI1 (nameE 6)) (nameG 8) (yesT) (callE 3 m__law_shut_here (consP 0 (consC (nameE 4) (consC (nameE 5) (nilC))))) [8])))
    (retS (tupE (consA (nameE 2) (consA (nameE 3) (consA (bltE tupleD (consA (lstE (sortSetO (nameE 7))) (nilA))) (nilA))))))))))
def m__law_room : Mt := mDef 9 b__law_room
theorem bo__law_room {P : Program} {w : World} {K : PySem.W.Frag} {mg : Str → Option Value} {base : Heap} {f : Addr} (Z : Blt mg) (C__law_marks : Cal P w K mg base 2 "_law_marks" ["_law_tape_here", "_law_most"] m__law_marks) (C__law_shut_here : Cal P w K mg base 2 "_law_shut_here" ["_law_tape_here", "_law_across", "_law_up"] m__law_shut_here) (C__law_take : Cal P w K mg base 1 "_law_take" ["_law_tape_here", "_law_many"] m__law_take) (cdv : Value) (A : Around) (outer : List Env) (s : Shared) (H : Hp) (E : XK) (hr : Room 2 (A.deeper (envOfC "_law_room" (defScope s__law_room) s.heap.objs.size f cdv))) :
    PSsd (cxOf CX0 P w K mg base ["_law_tape_here", "_law_great", "_law_wide", "_law_high", "_law_across", "_law_up", "_law_many", "_law_shuts", "_law_turn"] "_law_room" (defScope s__law_room) f cdv A outer s H E).nox (defBody s__law_room) b__law_room :=
  have nd := sc__law_room.nd
  pss_cons (ps_set (fun _ h => L2.ps_set (i := 2) nd rfl (Or.inl rfl) h) (pd_item (po_d (po_lst (pa_cons (pd_bin addOp (pd_int) (pd_callC C__law_take hr (by decide) rfl (pc_consP (pv 0) (pc_cons (pd_int) (pc_nil))))) (pa_cons (pd_bin addOp (pd_int) (pd_callC C__law_take hr (by decide) rfl (pc_consP (pv 0) (pc_cons (pd_item (po_d (po_lst (pa_cons (pd_int) (pa_cons (pd_bin subOp (pd_bin powOp (pd_int) (pd_int)) (pd_int)) (pa_nil))))) (pd_callC C__law_take hr (by decide) rfl (pc_consP (pv 0) (pc_cons (pd_int) (pc_nil)))) (fun _ _ => rfl)) (pc_nil))))) (pa_nil))))) (pd_callTy intB rfl Z.b_int PyProof.Rows.boot_int (pa_cons (pd_name (pv 1)) (pa_nil))) (fun _ _ => rfl)))
    (pss_cons (ps_set (fun _ h => L2.ps_set (i := 3) nd rfl (Or.inl rfl) h) (pd_item (po_d (po_lst (pa_cons (pd_bin addOp (pd_int) (pd_callC C__law_take hr (by decide) rfl (pc_consP (pv 0) (pc_cons (pd_int) (pc_nil))))) (pa_cons (pd_bin addOp (pd_int) (pd_callC C__law_take hr (by decide) rfl (pc_consP (pv 0) (pc_cons (pd_item (po_d (po_lst (pa_cons (pd_int) (pa_cons (pd_bin subOp (pd_bin powOp (pd_int) (pd_int)) (pd_int)) (pa_nil))))) (pd_callC C__law_take hr (by decide) rfl (pc_consP (pv 0) (pc_cons (pd_int) (pc_nil)))) (fun _ _ => rfl)) (pc_nil))))) (pa_nil))))) (pd_callTy intB rfl Z.b_int PyProof.Rows.boot_int (pa_cons (pd_name (pv 1)) (pa_nil))) (fun _ _ => rfl)))
    (pss_cons (ps_asg (fun _ _ h g => L2.ps_asg h g) (pd_tup (pa_cons (pd_callC C__law_marks hr (by decide) rfl (pc_consP (pv 0) (pc_cons (pd_name (pv 2)) (pc_nil)))) (pa_cons (pd_callC C__law_marks hr (by decide) rfl (pc_consP (pv 0) (pc_cons (pd_name (pv 3)) (pc_nil)))) (pa_nil)))) (pg_tup rfl (pgs_cons (pg_name (L2.pg_name (i := 4) nd rfl (Or.inr rfl))) (pgs_cons (pg_name (L2.pg_name (i := 5) nd rfl (Or.inr rfl))) (pgs_nil)))))
    (pss_cons (ps_set (fun _ h => L2.ps_set (i := 6) nd rfl (Or.inl rfl) h) (pd_item (po_d (po_lst (pa_cons (pd_callC C__law_take hr (by decide) rfl (pc_consP (pv 0) (pc_cons (pd_int) (pc_nil)))) (pa_cons (pd_bin addOp (pd_int) (pd_callC C__law_take hr (by decide) rfl (pc_consP (pv 0) (pc_cons (pd_int) (pc_nil))))) (pa_nil))))) (pd_callTy intB rfl Z.b_int PyProof.Rows.boot_int (pa_cons (pd_name (pv 1)) (pa_nil))) (fun _ _ => rfl)))
    (pss_cons (ps_setLcD (i := 7) rfl nd rfl rfl (sw_true rfl rfl rfl (by decide +kernel)) (pi_rng1 rfl Z.b_range (pd_name (pv 6))) (blkOk_by (own := [("_law_turn", 8)]) (by kernel_rfl)) (fun _ _ _ _ _ => pg_name (L2.pg_name (i := 8) nd rfl (Or.inl rfl))) (fun _ _ _ _ _ => pts_nil) (fun _ _ _ _ _ => pd_callC C__law_shut_here hr (by decide) rfl (pc_consP (pv 0) (pc_cons (pd_name (pv 4)) (pc_cons (pd_name (pv 5)) (pc_nil))))) (by decide))
    (pss_one (ps_ret (pd_tup (pa_cons (pd_name (pv 2)) (pa_cons (pd_name (pv 3)) (pa_cons (pd_callTy tupleB rfl Z.b_tuple PyProof.Rows.boot_tuple (pa_cons (po_d (po_sortSet rfl hr rfl Z.b_sorted rfl Z.b_set (pd_name (pv 7)))) (pa_nil))) (pa_nil)))))))))))
theorem ok__law_room {P : Program} {w : World} {K : PySem.W.Frag} {mg : Str → Option Value} {base : Heap} {f : Addr} {fd : FuncData} (Z : Blt mg) (F : Fun K "_law_room" "_law_room" s__law_room f fd) (hm : mg "_law_room" = some (.ref f)) (hb : Binds K fd ["_law_tape_here", "_law_great"] []) (C__law_marks : Cal P w K mg base 2 "_law_marks" ["_law_tape_here", "_law_most"] m__law_marks) (C__law_shut_here : Cal P w K mg base 2 "_law_shut_here" ["_law_tape_here", "_law_across", "_law_up"] m__law_shut_here) (C__law_take : Cal P w K mg base 1 "_law_take" ["_law_tape_here", "_law_many"] m__law_take) : Cal P w K mg base 3 "_law_room" ["_law_tape_here", "_law_great"] m__law_room :=
  ⟨f, fd, def_ok F sc__law_room (bo__law_room Z C__law_marks C__law_shut_here C__law_take), hm, F.kp, hb⟩
/-! _law_ends -/
abbrev s__law_ends : Stmt := topS 9
theorem sc__law_ends : FnScope ["_law_room_here", "_law_up", "_law_found", "_law_shut"] ["_law_room_here", "_law_up"] (defScope s__law_ends) := ⟨rfl, rfl, rfl, by decide +kernel, rfl, by decide +kernel, by decide +kernel⟩
def b__law_ends : Sm :=
    seqS (asgO 2 (lstO (consA (conE (.int 0)) (consA (binE itemD (nameE 0) (bltE intD (consA (nameE 1) (nilA)))) (nilA)))))
    (seqS (forS (seqI (binE itemD (nameE 0) (conE (.int 2)))) (nameG 3) (extS 2 (lstE (lstO (consA (binE itemD (nameE 3) (bltE intD (consA (nameE 1) (nilA)))) (consA (binE itemD (nameE 3) (binE addD (conE (.int 2)) (bltE intD (consA (nameE 1) (nilA))))) (nilA)))))))
    (retO (sortSetO (nameE 2))))
def m__law_ends : Mt := mDef 4 b__law_ends
theorem bo__law_ends {P : Program} {w : World} {K : PySem.W.Frag} {mg : Str → Option Value} {base : Heap} {f : Addr} (Z : Blt mg) (cdv : Value) (A : Around) (outer : List Env) (s : Shared) (H : Hp) (E : XK) (hr : Room 0 (A.deeper (envOfC "_law_ends" (defScope s__law_ends) s.heap.objs.size f cdv))) :
    PSsd (cxOf CX0 P w K mg base ["_law_room_here", "_law_up", "_law_found", "_law_shut"] "_law_ends" (defScope s__law_ends) f cdv A outer s H E).nox (defBody s__law_ends) b__law_ends :=
  have nd := sc__law_ends.nd
  pss_cons (ps_setO (fun _ h => L2.ps_set (i := 2) nd rfl (Or.inl rfl) h) (po_lst (pa_cons (pd_int) (pa_cons (pd_item (pd_name (pv 0)) (pd_callTy intB rfl Z.b_int PyProof.Rows.boot_int (pa_cons (pd_name (pv 1)) (pa_nil))) (fun _ _ => rfl)) (pa_nil)))))
    (pss_cons (ps_for PassesOwn.never rfl (pi_seq (pd_item (pd_name (pv 0)) (pd_int) (fun _ _ => rfl))) (pg_name (L2.pg_name (i := 3) nd rfl (Or.inl rfl))) (pss_one (ps_extend (i := 2) (fun _ _ hn hm ha => pe_bm PySem.F.plainAttrs_list PySem.F.slot_list_extend PySem.F.type_list_extend hm hn ha) (pv 2) (po_d (po_lst (pa_cons (pd_item (pd_name (pv 3)) (pd_callTy intB rfl Z.b_int PyProof.Rows.boot_int (pa_cons (pd_name (pv 1)) (pa_nil))) (fun _ _ => rfl)) (pa_cons (pd_item (pd_name (pv 3)) (pd_bin addOp (pd_int) (pd_callTy intB rfl Z.b_int PyProof.Rows.boot_int (pa_cons (pd_name (pv 1)) (pa_nil)))) (fun _ _ => rfl)) (pa_nil))))))))
    (pss_one (ps_retO (po_sortSet rfl hr rfl Z.b_sorted rfl Z.b_set (pd_name (pv 2))))))
theorem ok__law_ends {P : Program} {w : World} {K : PySem.W.Frag} {mg : Str → Option Value} {base : Heap} {f : Addr} {fd : FuncData} (Z : Blt mg) (F : Fun K "_law_ends" "_law_ends" s__law_ends f fd) (hm : mg "_law_ends" = some (.ref f)) (hb : Binds K fd ["_law_room_here", "_law_up"] []) : Cal P w K mg base 1 "_law_ends" ["_law_room_here", "_law_up"] m__law_ends :=
  ⟨f, fd, def_ok F sc__law_ends (bo__law_ends Z), hm, F.kp, hb⟩
/-! _law_stands -/
abbrev s__law_stands : Stmt := topS 10
theorem sc__law_stands : FnScope ["_law_shut", "_law_box"] ["_law_shut", "_law_box"] (defScope s__law_stands) := ⟨rfl, rfl, rfl, by decide +kernel, rfl, by decide +kernel, by decide +kernel⟩
def b__law_stands : Sm :=
    retS (andV (boolE (cmpT ltD (binE itemD (nameE 1) (conE (.int 0))) (binE itemD (nameE 0) (conE (.int 2))))) (andV (boolE (cmpT ltD (binE itemD (nameE 0) (conE (.int 0))) (binE itemD (nameE 1) (conE (.int 2))))) (andV (boolE (cmpT ltD (binE itemD (nameE 1) (conE (.int 1))) (binE itemD (nameE 0) (conE (.int 3))))) (boolE (cmpT ltD (binE itemD (nameE 0) (conE (.int 1))) (binE itemD (nameE 1) (conE (.int 3))))))))
def m__law_stands : Mt := mDef 2 b__law_stands
theorem bo__law_stands {P : Program} {w : World} {K : PySem.W.Frag} {mg : Str → Option Value} {base : Heap} {f : Addr} (Z : Blt mg) (cdv : Value) (A : Around) (outer : List Env) (s : Shared) (H : Hp) (E : XK) (hr : Room 0 (A.deeper (envOfC "_law_stands" (defScope s__law_stands) s.heap.objs.size f cdv))) :
    PSsd (cxOf CX0 P w K mg base ["_law_shut", "_law_box"] "_law_stands" (defScope s__law_stands) f cdv A outer s H E).nox (defBody s__law_stands) b__law_stands :=
  have nd := sc__law_stands.nd
  pss_one (ps_ret (pd_and (pd_cmp ltOp (pd_item (pd_name (pv 1)) (pd_int) (fun _ _ => rfl)) (pd_item (pd_name (pv 0)) (pd_int) (fun _ _ => rfl)) (nomark _)) (pd_and (pd_cmp ltOp (pd_item (pd_name (pv 0)) (pd_int) (fun _ _ => rfl)) (pd_item (pd_name (pv 1)) (pd_int) (fun _ _ => rfl)) (nomark _)) (pd_and (pd_cmp ltOp (pd_item (pd_name (pv 1)) (pd_int) (fun _ _ => rfl)) (pd_item (pd_name (pv 0)) (pd_int) (fun _ _ => rfl)) (nomark _)) (pd_one (pd_cmp ltOp (pd_item (pd_name (pv 0)) (pd_int) (fun _ _ => rfl)) (pd_item (pd_name (pv 1)) (pd_int) (fun _ _ => rfl)) (nomark _)))))))
theorem ok__law_stands {P : Program} {w : World} {K : PySem.W.Frag} {mg : Str → Option Value} {base : Heap} {f : Addr} {fd : FuncData} (Z : Blt mg) (F : Fun K "_law_stands" "_law_stands" s__law_stands f fd) (hm : mg "_law_stands" = some (.ref f)) (hb : Binds K fd ["_law_shut", "_law_box"] []) : Cal P w K mg base 1 "_law_stands" ["_law_shut", "_law_box"] m__law_stands :=
  ⟨f, fd, def_ok F sc__law_stands (bo__law_stands Z), hm, F.kp, hb⟩
/-! _law_free -/
abbrev s__law_free : Stmt := topS 11
theorem sc__law_free : FnScope ["_law_room_here", "_law_box", "_law_shut"] ["_law_room_here", "_law_box"] (defScope s__law_free) := ⟨rfl, rfl, rfl, by decide +kernel, rfl, by decide +kernel, by decide +kernel⟩
def b__law_free : Sm :=
    retS (boolE (notT (truT (bltE anyD (consA (lstE (lcO (seqI (binE itemD (nameE 0) (conE (.int 2)))) (nameG 2) (yesT) (callE 2 m__law_stands (consC (nameE 2) (consC (nameE 1) (nilC)))) [2])) (nilA))))))
def m__law_free : Mt := mDef 3 b__law_free
theorem bo__law_free {P : Program} {w : World} {K : PySem.W.Frag} {mg : Str → Option Value} {base : Heap} {f : Addr} (Z : Blt mg) (C__law_stands : Cal P w K mg base 1 "_law_stands" ["_law_shut", "_law_box"] m__law_stands) (cdv : Value) (A : Around) (outer : List Env) (s : Shared) (H : Hp) (E : XK) (hr : Room 1 (A.deeper (envOfC "_law_free" (defScope s__law_free) s.heap.objs.size f cdv))) :
    PSsd (cxOf CX0 P w K mg base ["_law_room_here", "_law_box", "_law_shut"] "_law_free" (defScope s__law_free) f cdv A outer s H E).nox (defBody s__law_free) b__law_free :=
  have nd := sc__law_free.nd
  pss_one (ps_ret (pd_not (pd_callB (anyB rfl) rfl Z.b_any boot_any (pa_cons (po_d (po_lc rfl nd (pi_seq (pd_item (pd_name (pv 0)) (pd_int) (fun _ _ => rfl))) (blkOk_by (own := [("_law_shut", 2)]) (by kernel_rfl)) (fun _ _ _ _ _ => pg_name (L2.pg_name (i := 2) nd rfl (Or.inl rfl))) (fun _ _ _ _ _ => pts_nil) (fun _ _ _ _ _ => pd_callC C__law_stands hr (by decide) rfl (pc_cons (pd_name (pv 2)) (pc_cons (pd_name (pv 1)) (pc_nil)))) (by decide))) (pa_nil)))))
theorem ok__law_free {P : Program} {w : World} {K : PySem.W.Frag} {mg : Str → Option Value} {base : Heap} {f : Addr} {fd : FuncData} (Z : Blt mg) (F : Fun K "_law_free" "_law_free" s__law_free f fd) (hm : mg "_law_free" = some (.ref f)) (hb : Binds K fd ["_law_room_here", "_law_box"] []) (C__law_stands : Cal P w K mg base 1 "_law_stands" ["_law_shut", "_law_box"] m__law_stands) : Cal P w K mg base 2 "_law_free" ["_law_room_here", "_law_box"] m__law_free :=
  ⟨f, fd, def_ok F sc__law_free (bo__law_free Z C__law_stands), hm, F.kp, hb⟩
/-! _law_same -/
abbrev s__law_same : Stmt := topS 12
theorem sc__law_same : FnScope ["_law_found", "_law_due", "_law_one", "_law_other"] ["_law_found", "_law_due"] (defScope s__law_same) := ⟨rfl, rfl, rfl, by decide +kernel, rfl, by decide +kernel, by decide +kernel⟩
def b__law_same (m__law_same : Mt) : Sm :=
    seqS (ifS (truT (isi2E "list" "tuple" (nameE 1))) (seqS (ifS (orT (cmpT neD (isiE "list" (nameE 0)) (isiE "list" (nameE 1))) (cmpT neD (isiE "tuple" (nameE 0)) (isiE "tuple" (nameE 1)))) (retS (conE (.bool false))) (nilS))
    (retS (andV (boolE (cmpT eqD (bltE lenD (consA (nameE 0) (nilA))) (bltE lenD (consA (nameE 1) (nilA))))) (bltE allD (consA (lstE (lcO (zipI2 (nameE 0) (nameE 1)) (tupG 2 (consG (nameG 2) (consG (nameG 3) (nilG)))) (yesT) (callE 2 m__law_same (consC (nameE 2) (consC (nameE 3) (nilC)))) [2, 3])) (nilA)))))) (nilS))
    (seqS (ifS (orT (cmpT isD (nameE 1) (conE .none)) (truT (isiE "str" (nameE 1)))) (retS (andV (boolE (cmpT eqD (nameE 0) (nameE 1))) (boolE (cmpT eqD (isiE "str" (nameE 0)) (isiE "str" (nameE 1)))))) (nilS))
    (seqS (ifS (truT (isiE "bool" (nameE 1))) (retS (andV (isiE "bool" (nameE 0)) (boolE (cmpT eqD (nameE 0) (nameE 1))))) (nilS))
    (retS (andV (isiE "int" (nameE 0)) (andV (boolE (notT (truT (isiE "bool" (nameE 0))))) (boolE (cmpT eqD (nameE 0) (nameE 1))))))))
def m__law_same : Nat → Mt
  | 0 => fun _ => none
  | n + 1 => mDef 4 (b__law_same (m__law_same n))
theorem okr__law_same {P : Program} {w : World} {K : PySem.W.Frag} {mg : Str → Option Value} {base : Heap} {f : Addr} {fd : FuncData} (Z : Blt mg) (F : Fun K "_law_same" "_law_same" s__law_same f fd) (hm : mg "_law_same" = some (.ref f)) (hb : Binds K fd ["_law_found", "_law_due"] []) (n : Nat) : Cal P w K mg base (0 + n) "_law_same" ["_law_found", "_law_due"] (m__law_same n) := by
  have nd := sc__law_same.nd
  induction n with
  | zero => exact ⟨f, fd, def_none rfl, hm, F.kp, hb⟩
  | succ n C__law_same => exact ⟨f, fd, def_ok F sc__law_same (fun cdv A outer s H E hr => pss_cons (ps_if (pt_tru (pd_isi2 (T := "list") (U := "tuple") rfl Z.b_isinstance (pd_name (pv 1)) (pe_bltn rfl Z.b_list PyProof.Rows.boot_list rfl) (pe_bltn rfl Z.b_tuple PyProof.Rows.boot_tuple rfl))) (pss_cons (ps_if (pt_w (pw_or (pt_cmp (neOp hr.units) (pd_isi (T := "list") rfl Z.b_isinstance (pd_name (pv 0)) (pe_bltn rfl Z.b_list PyProof.Rows.boot_list rfl)) (pd_isi (T := "list") rfl Z.b_isinstance (pd_name (pv 1)) (pe_bltn rfl Z.b_list PyProof.Rows.boot_list rfl)) (nomark _)) (pw_or1 (pt_cmp (neOp hr.units) (pd_isi (T := "tuple") rfl Z.b_isinstance (pd_name (pv 0)) (pe_bltn rfl Z.b_tuple PyProof.Rows.boot_tuple rfl)) (pd_isi (T := "tuple") rfl Z.b_isinstance (pd_name (pv 1)) (pe_bltn rfl Z.b_tuple PyProof.Rows.boot_tuple rfl)) (nomark _))))) (pss_one (ps_ret (pd_bl))) (pss_nil))
    (pss_one (ps_ret (pd_and (pd_cmp (eqOp hr.units) (pd_callB lenB rfl Z.b_len PySem.boot_len (pa_cons (pd_name (pv 0)) (pa_nil))) (pd_callB lenB rfl Z.b_len PySem.boot_len (pa_cons (pd_name (pv 1)) (pa_nil))) (nomark _)) (pd_one (pd_callB (allB rfl) rfl Z.b_all boot_all (pa_cons (po_d (po_lc rfl nd (pi_zp2 rfl rfl Z.b_zip (pd_name (pv 0)) (pd_name (pv 1))) (blkOk_by (own := [("_law_one", 2), ("_law_other", 3)]) (by kernel_rfl)) (fun _ _ _ _ _ => pg_tup rfl (pgs_cons (pg_name (L2.pg_name (i := 2) nd rfl (Or.inl rfl))) (pgs_cons (pg_name (L2.pg_name (i := 3) nd rfl (Or.inl rfl))) (pgs_nil)))) (fun _ _ _ _ _ => pts_nil) (fun _ _ _ _ _ => pd_callC C__law_same hr (Nat.le_refl _) rfl (pc_cons (pd_name (pv 2)) (pc_cons (pd_name (pv 3)) (pc_nil)))) (by decide))) (pa_nil)))))))) (pss_nil))
    (pss_cons (ps_if (pt_w (pw_or (pt_cmp isOp (pd_name (pv 1)) (pd_non) (nomark _)) (pw_or1 (pt_tru (pd_isi (T := "str") rfl Z.b_isinstance (pd_name (pv 1)) (pe_bltn rfl Z.b_str PyProof.Rows.boot_str rfl)))))) (pss_one (ps_ret (pd_and (pd_cmp (eqOp hr.units) (pd_name (pv 0)) (pd_name (pv 1)) (nomark _)) (pd_one (pd_cmp (eqOp hr.units) (pd_isi (T := "str") rfl Z.b_isinstance (pd_name (pv 0)) (pe_bltn rfl Z.b_str PyProof.Rows.boot_str rfl)) (pd_isi (T := "str") rfl Z.b_isinstance (pd_name (pv 1)) (pe_bltn rfl Z.b_str PyProof.Rows.boot_str rfl)) (nomark _)))))) (pss_nil))
    (pss_cons (ps_if (pt_tru (pd_isi (T := "bool") rfl Z.b_isinstance (pd_name (pv 1)) (pe_bltn rfl Z.b_bool PyProof.Rows.boot_bool rfl))) (pss_one (ps_ret (pd_and (pd_isi (T := "bool") rfl Z.b_isinstance (pd_name (pv 0)) (pe_bltn rfl Z.b_bool PyProof.Rows.boot_bool rfl)) (pd_one (pd_cmp (eqOp hr.units) (pd_name (pv 0)) (pd_name (pv 1)) (nomark _)))))) (pss_nil))
    (pss_one (ps_ret (pd_and (pd_isi (T := "int") rfl Z.b_isinstance (pd_name (pv 0)) (pe_bltn rfl Z.b_int PyProof.Rows.boot_int rfl)) (pd_and (pd_not (pd_isi (T := "bool") rfl Z.b_isinstance (pd_name (pv 0)) (pe_bltn rfl Z.b_bool PyProof.Rows.boot_bool rfl))) (pd_one (pd_cmp (eqOp hr.units) (pd_name (pv 0)) (pd_name (pv 1)) (nomark _)))))))))), hm, F.kp, hb⟩
theorem ok__law_same {P : Program} {w : World} {K : PySem.W.Frag} {mg : Str → Option Value} {base : Heap} {f : Addr} {fd : FuncData} (Z : Blt mg) (F : Fun K "_law_same" "_law_same" s__law_same f fd) (hm : mg "_law_same" = some (.ref f)) (hb : Binds K fd ["_law_found", "_law_due"] []) : Cal P w K mg base 40 "_law_same" ["_law_found", "_law_due"] (m__law_same 40) := okr__law_same Z F hm hb 40
/-! _law_some_box -/
abbrev s__law_some_box : Stmt := topS 13
theorem sc__law_some_box : FnScope ["_law_tape_here", "_law_room_here", "_law_sides", "_law_up", "_law_some", "_law_one", "_law_other", "_law_turn"] ["_law_tape_here", "_law_room_here"] (defScope s__law_some_box) := ⟨rfl, rfl, rfl, by decide +kernel, rfl, by decide +kernel, by decide +kernel⟩
def b__law_some_box : Sm :=
    seqS (asgO 2 (lstO (nilA)))
    (seqS (forS (seqI (tupE (consA (conE (.bool false)) (consA (conE (.bool true)) (nilA))))) (nameG 3) (seqS (asgS 4 (callE 2 m__law_ends (consC (nameE 1) (consC (nameE 3) (nilC)))))
    (seqS (ifS (orT (cmpT eqD (callE 2 m__law_take (consP 0 (consC (conE (.int 3)) (nilC)))) (conE (.int 0))) (cmpT ltD (bltE lenD (consA (nameE 4) (nilA))) (conE (.int 2)))) (asgS 4 (lstE (binO catD (lstE (lcO (rngI1 (conE (.int 4))) (nameG 7) (yesT) (callE 2 m__law_take (consP 0 (consC (binE addD (binE itemD (nameE 1) (bltE intD (consA (nameE 3) (nilA)))) (conE (.int 1))) (nilC)))) [7])) (lstE (lstO (consA (conE (.int 0)) (consA (binE itemD (nameE 1) (bltE intD (consA (nameE 3) (nilA)))) (nilA)))))))) (nilS))
    (seqS (parS 5 6 (consA (binE itemD (nameE 4) (callE 2 m__law_take (consP 0 (consC (bltE lenD (consA (nameE 4) (nilA))) (nilC))))) (consA (binE itemD (nameE 4) (callE 2 m__law_take (consP 0 (consC (bltE lenD (consA (nameE 4) (nilA))) (nilC))))) (nilA))))
    (seqS (ifS (cmpT eqD (nameE 5) (nameE 6)) (parS 5 6 (consA (conE (.int 0)) (consA (binE itemD (nameE 1) (bltE intD (consA (nameE 3) (nilA)))) (nilA)))) (nilS))
    (appS 2 (tupE (consA (bltE minD (consA (nameE 5) (consA (nameE 6) (nilA)))) (consA (bltE maxD (consA (nameE 5) (consA (nameE 6) (nilA)))) (nilA))))))))))
    (retS (tupE (consA (binE itemD (ownItem 2 (conE (.int 0))) (conE (.int 0))) (consA (binE itemD (ownItem 2 (conE (.int 1))) (conE (.int 0))) (consA (binE itemD (ownItem 2 (conE (.int 0))) (conE (.int 1))) (consA (binE itemD (ownItem 2 (conE (.int 1))) (conE (.int 1))) (nilA))))))))
def m__law_some_box : Mt := mDef 8 b__law_some_box
theorem bo__law_some_box {P : Program} {w : World} {K : PySem.W.Frag} {mg : Str → Option Value} {base : Heap} {f : Addr} (Z : Blt mg) (C__law_ends : Cal P w K mg base 1 "_law_ends" ["_law_room_here", "_law_up"] m__law_ends) (C__law_take : Cal P w K mg base 1 "_law_take" ["_law_tape_here", "_law_many"] m__law_take) (cdv : Value) (A : Around) (outer : List Env) (s : Shared) (H : Hp) (E : XK) (hr : Room 1 (A.deeper (envOfC "_law_some_box" (defScope s__law_some_box) s.heap.objs.size f cdv))) :
    PSsd (cxOf CX0 P w K mg base ["_law_tape_here", "_law_room_here", "_law_sides", "_law_up", "_law_some", "_law_one", "_law_other", "_law_turn"] "_law_some_box" (defScope s__law_some_box) f cdv A outer s H E).nox (defBody s__law_some_box) b__law_some_box :=
  have nd := sc__law_some_box.nd
  pss_cons (ps_setO (fun _ h => L2.ps_set (i := 2) nd rfl (Or.inl rfl) h) (po_lst (pa_nil)))
    (pss_cons (ps_for PassesOwn.never rfl (pi_seq (pd_tup (pa_cons (pd_bl) (pa_cons (pd_bl) (pa_nil))))) (pg_name (L2.pg_name (i := 3) nd rfl (Or.inr rfl))) (pss_cons (ps_set (fun _ h => L2.ps_set (i := 4) nd rfl (Or.inl rfl) h) (pd_callC C__law_ends hr (by decide) rfl (pc_cons (pd_name (pv 1)) (pc_cons (pd_name (pv 3)) (pc_nil)))))
    (pss_cons (ps_if (pt_w (pw_or (pt_cmp (eqOp hr.units) (pd_callC C__law_take hr (by decide) rfl (pc_consP (pv 0) (pc_cons (pd_int) (pc_nil)))) (pd_int) (nomark _)) (pw_or1 (pt_cmp ltOp (pd_callB lenB rfl Z.b_len PySem.boot_len (pa_cons (pd_name (pv 4)) (pa_nil))) (pd_int) (nomark _))))) (pss_one (ps_set (fun _ h => L2.ps_set (i := 4) nd rfl (Or.inl rfl) h) (po_d (po_bin catO (po_d (po_lc rfl nd (pi_rng1 rfl Z.b_range (pd_int)) (blkOk_by (own := [("_law_turn", 7)]) (by kernel_rfl)) (fun _ _ _ _ _ => pg_name (L2.pg_name (i := 7) nd rfl (Or.inl rfl))) (fun _ _ _ _ _ => pts_nil) (fun _ _ _ _ _ => pd_callC C__law_take hr (by decide) rfl (pc_consP (pv 0) (pc_cons (pd_bin addOp (pd_item (pd_name (pv 1)) (pd_callTy intB rfl Z.b_int PyProof.Rows.boot_int (pa_cons (pd_name (pv 3)) (pa_nil))) (fun _ _ => rfl)) (pd_int)) (pc_nil)))) (by decide))) (po_d (po_lst (pa_cons (pd_int) (pa_cons (pd_item (pd_name (pv 1)) (pd_callTy intB rfl Z.b_int PyProof.Rows.boot_int (pa_cons (pd_name (pv 3)) (pa_nil))) (fun _ _ => rfl)) (pa_nil))))))))) (pss_nil))
    (pss_cons (ps_par (i := 5) (j := 6) (fun _ h => L2.ps_par rfl nd rfl rfl (by decide) rfl rfl h (by rfl)) (pa_cons (pd_item (pd_name (pv 4)) (pd_callC C__law_take hr (by decide) rfl (pc_consP (pv 0) (pc_cons (pd_callB lenB rfl Z.b_len PySem.boot_len (pa_cons (pd_name (pv 4)) (pa_nil))) (pc_nil)))) (fun _ _ => rfl)) (pa_cons (pd_item (pd_name (pv 4)) (pd_callC C__law_take hr (by decide) rfl (pc_consP (pv 0) (pc_cons (pd_callB lenB rfl Z.b_len PySem.boot_len (pa_cons (pd_name (pv 4)) (pa_nil))) (pc_nil)))) (fun _ _ => rfl)) (pa_nil))))
    (pss_cons (ps_if (pt_cmp (eqOp hr.units) (pd_name (pv 5)) (pd_name (pv 6)) (nomark _)) (pss_one (ps_par (i := 5) (j := 6) (fun _ h => L2.ps_par rfl nd rfl rfl (by decide) rfl rfl h (by rfl)) (pa_cons (pd_int) (pa_cons (pd_item (pd_name (pv 1)) (pd_callTy intB rfl Z.b_int PyProof.Rows.boot_int (pa_cons (pd_name (pv 3)) (pa_nil))) (fun _ _ => rfl)) (pa_nil))))) (pss_nil))
    (pss_one (ps_append (i := 2) (fun _ _ hn hm ha => pe_bm PySem.F.plainAttrs_list PySem.F.slot_list_append PySem.F.type_list_append hm hn ha) (pv 2) (pd_tup (pa_cons (pd_callB (minB rfl) rfl Z.b_min boot_min (pa_cons (pd_name (pv 5)) (pa_cons (pd_name (pv 6)) (pa_nil)))) (pa_cons (pd_callB (maxB rfl) rfl Z.b_max boot_max (pa_cons (pd_name (pv 5)) (pa_cons (pd_name (pv 6)) (pa_nil)))) (pa_nil)))))))))))
    (pss_one (ps_ret (pd_tup (pa_cons (pd_item (pd_ownItem (pv 2) (pd_int) (fun _ _ => rfl)) (pd_int) (fun _ _ => rfl)) (pa_cons (pd_item (pd_ownItem (pv 2) (pd_int) (fun _ _ => rfl)) (pd_int) (fun _ _ => rfl)) (pa_cons (pd_item (pd_ownItem (pv 2) (pd_int) (fun _ _ => rfl)) (pd_int) (fun _ _ => rfl)) (pa_cons (pd_item (pd_ownItem (pv 2) (pd_int) (fun _ _ => rfl)) (pd_int) (fun _ _ => rfl)) (pa_nil)))))))))
theorem ok__law_some_box {P : Program} {w : World} {K : PySem.W.Frag} {mg : Str → Option Value} {base : Heap} {f : Addr} {fd : FuncData} (Z : Blt mg) (F : Fun K "_law_some_box" "_law_some_box" s__law_some_box f fd) (hm : mg "_law_some_box" = some (.ref f)) (hb : Binds K fd ["_law_tape_here", "_law_room_here"] []) (C__law_ends : Cal P w K mg base 1 "_law_ends" ["_law_room_here", "_law_up"] m__law_ends) (C__law_take : Cal P w K mg base 1 "_law_take" ["_law_tape_here", "_law_many"] m__law_take) : Cal P w K mg base 2 "_law_some_box" ["_law_tape_here", "_law_room_here"] m__law_some_box :=
  ⟨f, fd, def_ok F sc__law_some_box (bo__law_some_box Z C__law_ends C__law_take), hm, F.kp, hb⟩
/-! law -/
abbrev s_law : Stmt := topS 14
theorem sc_law : FnScope ["_law_script", "_law_k", "_law_tape_here", "_law_room_here", "_law_turn", "_law_left", "_law_low", "_law_right", "_law_top", "_law_tops", "_law_good", "_law_due", "_law_one"] ["_law_script"] (defScope s_law) := ⟨rfl, rfl, rfl, by decide +kernel, rfl, by decide +kernel, by decide +kernel⟩
def b_law : Sm :=
    seqS (forS (rngI1 (bltE maxD (consA (conE (.int 2)) (consA (bltE minD (consA (bltE lenD (consA (nameE 0) (nilA))) (consA (conE (.int 8)) (nilA)))) (nilA))))) (nameG 1) (seqS (asgO 2 (callO 2 o__law_tape (consC (nameE 0) (consC (nameE 1) (nilC)))))
    (seqS (asgS 3 (callE 2 m__law_room (consP 2 (consC (andV (boolE (cmpT eqD (nameE 1) (conE (.int 0)))) (boolE (cmpT eqD (callE 2 m__law_take (consP 2 (consC (conE (.int 8)) (nilC)))) (conE (.int 0))))) (nilC)))))
    (forS (rngI1 (conE (.int 12))) (nameG 4) (seqS (asgT (tupG 4 (consG (nameG 5) (consG (nameG 6) (consG (nameG 7) (consG (nameG 8) (nilG)))))) (callE 2 m__law_some_box (consP 2 (consC (nameE 3) (nilC)))))
    (seqS (ifS (cmpT eqD (callE 2 m__law_take (consP 2 (consC (conE (.int 4)) (nilC)))) (conE (.int 0))) (asgS 6 (conE (.int 0))) (nilS))
    (seqS (asgS 9 (lstE (lcO (seqI (lstE (binO catD (callE 2 m__law_ends (consC (nameE 3) (consC (conE (.bool true)) (nilC)))) (lstE (lstO (consA (binE addD (nameE 6) (conE (.int 1))) (nilA))))))) (nameG 12) (cmpT gtD (nameE 12) (nameE 6)) (nameE 12) [12])))
    (seqS (asgS 10 (lstE (lcO (seqI (nameE 9)) (nameG 12) (truT (callE 2 m__law_free (consC (nameE 3) (consC (tupE (consA (nameE 5) (consA (nameE 6) (consA (nameE 7) (consA (nameE 12) (nilA)))))) (nilC))))) (nameE 12) [12])))
    (seqS (asgS 11 (ifE (cmpT neD (nameE 10) (lstE (lstO (nilA)))) (bltE maxD (consA (nameE 10) (nilA))) (conE .none)))
    (seqS (ifS (andT (cmpT isNotD (nameE 11) (conE .none)) (andT (cmpT ltD (nameE 11) (binE itemD (nameE 3) (conE (.int 1)))) (truT (callE 2 m__law_free (consC (nameE 3) (consC (tupE (consA (nameE 5) (consA (nameE 6) (consA (nameE 7) (consA (binE addD (nameE 11) (conE (.int 1))) (nilA)))))) (nilC))))))) (retS (conE (.bool false))) (nilS))
    (ifS (notT (truT (callE 2 (m__law_same 40) (consC (callE 4 m_rise_over (consC (nameE 3) (consC (nameE 5) (consC (nameE 7) (consC (nameE 6) (nilC)))))) (consC (nameE 11) (nilC)))))) (retS (conE (.bool false))) (nilS))))))))))))
    (retS (conE (.bool true)))
def m_law : Mt := mDef 13 b_law
theorem bo_law {P : Program} {w : World} {K : PySem.W.Frag} {mg : Str → Option Value} {base : Heap} {f : Addr} (Z : Blt mg) (C__law_ends : Cal P w K mg base 1 "_law_ends" ["_law_room_here", "_law_up"] m__law_ends) (C__law_free : Cal P w K mg base 2 "_law_free" ["_law_room_here", "_law_box"] m__law_free) (C__law_room : Cal P w K mg base 3 "_law_room" ["_law_tape_here", "_law_great"] m__law_room) (C__law_same : Cal P w K mg base 40 "_law_same" ["_law_found", "_law_due"] (m__law_same 40)) (C__law_some_box : Cal P w K mg base 2 "_law_some_box" ["_law_tape_here", "_law_room_here"] m__law_some_box) (C__law_take : Cal P w K mg base 1 "_law_take" ["_law_tape_here", "_law_many"] m__law_take) (C_rise_over : Cal P w K mg base 1 "rise_over" ["room", "left", "right", "low"] m_rise_over) (CO__law_tape : CalO P w K mg base 2 "_law_tape" ["_law_script", "_law_k"] o__law_tape) (cdv : Value) (A : Around) (outer : List Env) (s : Shared) (H : Hp) (E : XK) (hr : Room 40 (A.deeper (envOfC "law" (defScope s_law) s.heap.objs.size f cdv))) :
    PSsd (cxOf CX0 P w K mg base ["_law_script", "_law_k", "_law_tape_here", "_law_room_here", "_law_turn", "_law_left", "_law_low", "_law_right", "_law_top", "_law_tops", "_law_good", "_law_due", "_law_one"] "law" (defScope s_law) f cdv A outer s H E).nox (defBody s_law) b_law :=
  have nd := sc_law.nd
  pss_cons (ps_for PassesOwn.never rfl (pi_rng1 rfl Z.b_range (pd_callB (maxB rfl) rfl Z.b_max boot_max (pa_cons (pd_int) (pa_cons (pd_callB (minB rfl) rfl Z.b_min boot_min (pa_cons (pd_callB lenB rfl Z.b_len PySem.boot_len (pa_cons (pd_name (pv 0)) (pa_nil))) (pa_cons (pd_int) (pa_nil)))) (pa_nil))))) (pg_name (L2.pg_name (i := 1) nd rfl (Or.inl rfl))) (pss_cons (ps_setO (fun _ h => L2.ps_set (i := 2) nd rfl (Or.inl rfl) h) (po_callC CO__law_tape hr (by decide) rfl (pc_cons (pd_name (pv 0)) (pc_cons (pd_name (pv 1)) (pc_nil)))))
    (pss_cons (ps_set (fun _ h => L2.ps_set (i := 3) nd rfl (Or.inr rfl) h) (pd_callC C__law_room hr (by decide) rfl (pc_consP (pv 2) (pc_cons (pd_and (pd_cmp (eqOp hr.units) (pd_name (pv 1)) (pd_int) (nomark _)) (pd_one (pd_cmp (eqOp hr.units) (pd_callC C__law_take hr (by decide) rfl (pc_consP (pv 2) (pc_cons (pd_int) (pc_nil)))) (pd_int) (nomark _)))) (pc_nil)))))
    (pss_one (ps_for PassesOwn.never rfl (pi_rng1 rfl Z.b_range (pd_int)) (pg_name (L2.pg_name (i := 4) nd rfl (Or.inl rfl))) (pss_cons (ps_asg (fun _ _ h g => L2.ps_asg h g) (pd_callC C__law_some_box hr (by decide) rfl (pc_consP (pv 2) (pc_cons (pd_name (pv 3)) (pc_nil)))) (pg_tup rfl (pgs_cons (pg_name (L2.pg_name (i := 5) nd rfl (Or.inr rfl))) (pgs_cons (pg_name (L2.pg_name (i := 6) nd rfl (Or.inr rfl))) (pgs_cons (pg_name (L2.pg_name (i := 7) nd rfl (Or.inr rfl))) (pgs_cons (pg_name (L2.pg_name (i := 8) nd rfl (Or.inl rfl))) (pgs_nil)))))))
    (pss_cons (ps_if (pt_cmp (eqOp hr.units) (pd_callC C__law_take hr (by decide) rfl (pc_consP (pv 2) (pc_cons (pd_int) (pc_nil)))) (pd_int) (nomark _)) (pss_one (ps_set (fun _ h => L2.ps_set (i := 6) nd rfl (Or.inr rfl) h) (pd_int))) (pss_nil))
    (pss_cons (ps_setLcD (i := 9) rfl nd rfl rfl (sw_true rfl rfl rfl (by decide +kernel)) (pi_seq (po_d (po_bin catO (pd_callC C__law_ends hr (by decide) rfl (pc_cons (pd_name (pv 3)) (pc_cons (pd_bl) (pc_nil)))) (po_d (po_lst (pa_cons (pd_bin addOp (pd_name (pv 6)) (pd_int)) (pa_nil))))))) (blkOk_by (own := [("_law_one", 12)]) (by kernel_rfl)) (fun _ _ _ _ _ => pg_name (L2.pg_name (i := 12) nd rfl (Or.inl rfl))) (fun _ _ _ _ _ => pts_one (pt_cmp gtOp (pd_name (pv 12)) (pd_name (pv 6)) (nomark _))) (fun _ _ _ _ _ => pd_name (pv 12)) (by decide))
    (pss_cons (ps_setLcD (i := 10) rfl nd rfl rfl (sw_true rfl rfl rfl (by decide +kernel)) (pi_seq (pd_name (pv 9))) (blkOk_by (own := [("_law_one", 12)]) (by kernel_rfl)) (fun _ _ _ _ _ => pg_name (L2.pg_name (i := 12) nd rfl (Or.inl rfl))) (fun _ _ _ _ _ => pts_one (pt_tru (pd_callC C__law_free hr (by decide) rfl (pc_cons (pd_name (pv 3)) (pc_cons (pd_tup (pa_cons (pd_name (pv 5)) (pa_cons (pd_name (pv 6)) (pa_cons (pd_name (pv 7)) (pa_cons (pd_name (pv 12)) (pa_nil)))))) (pc_nil)))))) (fun _ _ _ _ _ => pd_name (pv 12)) (by decide))
    (pss_cons (ps_set (fun _ h => L2.ps_set (i := 11) nd rfl (Or.inl rfl) h) (pd_if (pt_cmp (neOp hr.units) (pd_name (pv 10)) (po_d (po_lst (pa_nil))) (nomark _)) (pd_callB (maxB rfl) rfl Z.b_max boot_max (pa_cons (pd_name (pv 10)) (pa_nil))) (pd_non)))
    (pss_cons (ps_if (pt_w (pw_and (pt_cmp isNotOp (pd_name (pv 11)) (pd_non) (nomark _)) (pw_and (pt_cmp ltOp (pd_name (pv 11)) (pd_item (pd_name (pv 3)) (pd_int) (fun _ _ => rfl)) (nomark _)) (pw_and1 (pt_tru (pd_callC C__law_free hr (by decide) rfl (pc_cons (pd_name (pv 3)) (pc_cons (pd_tup (pa_cons (pd_name (pv 5)) (pa_cons (pd_name (pv 6)) (pa_cons (pd_name (pv 7)) (pa_cons (pd_bin addOp (pd_name (pv 11)) (pd_int)) (pa_nil)))))) (pc_nil))))))))) (pss_one (ps_ret (pd_bl))) (pss_nil))
    (pss_one (ps_if (pt_not (pt_tru (pd_callC C__law_same hr (by decide) rfl (pc_cons (pd_callC C_rise_over hr (by decide) rfl (pc_cons (pd_name (pv 3)) (pc_cons (pd_name (pv 5)) (pc_cons (pd_name (pv 7)) (pc_cons (pd_name (pv 6)) (pc_nil)))))) (pc_cons (pd_name (pv 11)) (pc_nil)))))) (pss_one (ps_ret (pd_bl))) (pss_nil))))))))))))))
    (pss_one (ps_ret (pd_bl)))
theorem ok_law {P : Program} {w : World} {K : PySem.W.Frag} {mg : Str → Option Value} {base : Heap} {f : Addr} {fd : FuncData} (Z : Blt mg) (F : Fun K "law" "law" s_law f fd) (hm : mg "law" = some (.ref f)) (hb : Binds K fd ["_law_script"] []) (C__law_ends : Cal P w K mg base 1 "_law_ends" ["_law_room_here", "_law_up"] m__law_ends) (C__law_free : Cal P w K mg base 2 "_law_free" ["_law_room_here", "_law_box"] m__law_free) (C__law_room : Cal P w K mg base 3 "_law_room" ["_law_tape_here", "_law_great"] m__law_room) (C__law_same : Cal P w K mg base 40 "_law_same" ["_law_found", "_law_due"] (m__law_same 40)) (C__law_some_box : Cal P w K mg base 2 "_law_some_box" ["_law_tape_here", "_law_room_here"] m__law_some_box) (C__law_take : Cal P w K mg base 1 "_law_take" ["_law_tape_here", "_law_many"] m__law_take) (C_rise_over : Cal P w K mg base 1 "rise_over" ["room", "left", "right", "low"] m_rise_over) (CO__law_tape : CalO P w K mg base 2 "_law_tape" ["_law_script", "_law_k"] o__law_tape) : Cal P w K mg base 41 "law" ["_law_script"] m_law :=
  ⟨f, fd, def_ok F sc_law (bo_law Z C__law_ends C__law_free C__law_room C__law_same C__law_some_box C__law_take C_rise_over CO__law_tape), hm, F.kp, hb⟩
/-! the end -/
theorem all_mk {l : PySem.W.OpenLaw} {w : World} {K : PySem.W.Frag} {h : Heap} {mg : Str → Option Value} {fa : Addr} (X : K.In h) (G : h.Ns mainGlobals mg) (hfa : mg "law" = some (.ref fa))
    {f0 : Addr} {od0 an0 : Option Addr} {sl0 : Array (Option Value)} {oc0 kV0 dc0 pm0 cd0 ct0 : Value}
    (a0 : PySem.W.nsIn K mainGlobals "rise_over" = some (some (.ref f0))) (l0 : K.lookup f0 = some ⟨oc0, od0, .func (PySem.W.fnOf "rise_over" "rise_over" (defArgs s_rise_over) (defBody s_rise_over) (defScope s_rise_over) .none kV0 dc0 pm0 an0 cd0 ct0), sl0⟩) (c0 : PySem.W.codeIn K cd0 "rise_over" = true) (k0 : PySem.W.keepIn K (.ref f0) = true)
    {f1 : Addr} {od1 an1 : Option Addr} {sl1 : Array (Option Value)} {oc1 kV1 dc1 pm1 cd1 ct1 : Value}
    (a1 : PySem.W.nsIn K mainGlobals "_law_cell_at" = some (some (.ref f1))) (l1 : K.lookup f1 = some ⟨oc1, od1, .func (PySem.W.fnOf "_law_cell_at" "_law_cell_at" (defArgs s__law_cell_at) (defBody s__law_cell_at) (defScope s__law_cell_at) .none kV1 dc1 pm1 an1 cd1 ct1), sl1⟩) (c1 : PySem.W.codeIn K cd1 "_law_cell_at" = true) (k1 : PySem.W.keepIn K (.ref f1) = true)
    {f2 : Addr} {od2 an2 : Option Addr} {sl2 : Array (Option Value)} {oc2 kV2 dc2 pm2 cd2 ct2 : Value}
    (a2 : PySem.W.nsIn K mainGlobals "_law_tape" = some (some (.ref f2))) (l2 : K.lookup f2 = some ⟨oc2, od2, .func (PySem.W.fnOf "_law_tape" "_law_tape" (defArgs s__law_tape) (defBody s__law_tape) (defScope s__law_tape) .none kV2 dc2 pm2 an2 cd2 ct2), sl2⟩) (c2 : PySem.W.codeIn K cd2 "_law_tape" = true) (k2 : PySem.W.keepIn K (.ref f2) = true)
    {f3 : Addr} {od3 an3 : Option Addr} {sl3 : Array (Option Value)} {oc3 kV3 dc3 pm3 cd3 ct3 : Value}
    (a3 : PySem.W.nsIn K mainGlobals "_law_take" = some (some (.ref f3))) (l3 : K.lookup f3 = some ⟨oc3, od3, .func (PySem.W.fnOf "_law_take" "_law_take" (defArgs s__law_take) (defBody s__law_take) (defScope s__law_take) .none kV3 dc3 pm3 an3 cd3 ct3), sl3⟩) (c3 : PySem.W.codeIn K cd3 "_law_take" = true) (k3 : PySem.W.keepIn K (.ref f3) = true)
    {f4 : Addr} {od4 an4 : Option Addr} {sl4 : Array (Option Value)} {oc4 kV4 dc4 pm4 cd4 ct4 : Value}
    (a4 : PySem.W.nsIn K mainGlobals "_law_marks" = some (some (.ref f4))) (l4 : K.lookup f4 = some ⟨oc4, od4, .func (PySem.W.fnOf "_law_marks" "_law_marks" (defArgs s__law_marks) (defBody s__law_marks) (defScope s__law_marks) .none kV4 dc4 pm4 an4 cd4 ct4), sl4⟩) (c4 : PySem.W.codeIn K cd4 "_law_marks" = true) (k4 : PySem.W.keepIn K (.ref f4) = true)
    {f5 : Addr} {od5 an5 : Option Addr} {sl5 : Array (Option Value)} {oc5 kV5 dc5 pm5 cd5 ct5 : Value}
    (a5 : PySem.W.nsIn K mainGlobals "_law_shut_here" = some (some (.ref f5))) (l5 : K.lookup f5 = some ⟨oc5, od5, .func (PySem.W.fnOf "_law_shut_here" "_law_shut_here" (defArgs s__law_shut_here) (defBody s__law_shut_here) (defScope s__law_shut_here) .none kV5 dc5 pm5 an5 cd5 ct5), sl5⟩) (c5 : PySem.W.codeIn K cd5 "_law_shut_here" = true) (k5 : PySem.W.keepIn K (.ref f5) = true)
    {f6 : Addr} {od6 an6 : Option Addr} {sl6 : Array (Option Value)} {oc6 kV6 dc6 pm6 cd6 ct6 : Value}
    (a6 : PySem.W.nsIn K mainGlobals "_law_room" = some (some (.ref f6))) (l6 : K.lookup f6 = some ⟨oc6, od6, .func (PySem.W.fnOf "_law_room" "_law_room" (defArgs s__law_room) (defBody s__law_room) (defScope s__law_room) .none kV6 dc6 pm6 an6 cd6 ct6), sl6⟩) (c6 : PySem.W.codeIn K cd6 "_law_room" = true) (k6 : PySem.W.keepIn K (.ref f6) = true)
    {f7 : Addr} {od7 an7 : Option Addr} {sl7 : Array (Option Value)} {oc7 kV7 dc7 pm7 cd7 ct7 : Value}
    (a7 : PySem.W.nsIn K mainGlobals "_law_ends" = some (some (.ref f7))) (l7 : K.lookup f7 = some ⟨oc7, od7, .func (PySem.W.fnOf "_law_ends" "_law_ends" (defArgs s__law_ends) (defBody s__law_ends) (defScope s__law_ends) .none kV7 dc7 pm7 an7 cd7 ct7), sl7⟩) (c7 : PySem.W.codeIn K cd7 "_law_ends" = true) (k7 : PySem.W.keepIn K (.ref f7) = true)
    {f8 : Addr} {od8 an8 : Option Addr} {sl8 : Array (Option Value)} {oc8 kV8 dc8 pm8 cd8 ct8 : Value}
    (a8 : PySem.W.nsIn K mainGlobals "_law_stands" = some (some (.ref f8))) (l8 : K.lookup f8 = some ⟨oc8, od8, .func (PySem.W.fnOf "_law_stands" "_law_stands" (defArgs s__law_stands) (defBody s__law_stands) (defScope s__law_stands) .none kV8 dc8 pm8 an8 cd8 ct8), sl8⟩) (c8 : PySem.W.codeIn K cd8 "_law_stands" = true) (k8 : PySem.W.keepIn K (.ref f8) = true)
    {f9 : Addr} {od9 an9 : Option Addr} {sl9 : Array (Option Value)} {oc9 kV9 dc9 pm9 cd9 ct9 : Value}
    (a9 : PySem.W.nsIn K mainGlobals "_law_free" = some (some (.ref f9))) (l9 : K.lookup f9 = some ⟨oc9, od9, .func (PySem.W.fnOf "_law_free" "_law_free" (defArgs s__law_free) (defBody s__law_free) (defScope s__law_free) .none kV9 dc9 pm9 an9 cd9 ct9), sl9⟩) (c9 : PySem.W.codeIn K cd9 "_law_free" = true) (k9 : PySem.W.keepIn K (.ref f9) = true)
    {f10 : Addr} {od10 an10 : Option Addr} {sl10 : Array (Option Value)} {oc10 kV10 dc10 pm10 cd10 ct10 : Value}
    (a10 : PySem.W.nsIn K mainGlobals "_law_same" = some (some (.ref f10))) (l10 : K.lookup f10 = some ⟨oc10, od10, .func (PySem.W.fnOf "_law_same" "_law_same" (defArgs s__law_same) (defBody s__law_same) (defScope s__law_same) .none kV10 dc10 pm10 an10 cd10 ct10), sl10⟩) (c10 : PySem.W.codeIn K cd10 "_law_same" = true) (k10 : PySem.W.keepIn K (.ref f10) = true)
    {f11 : Addr} {od11 an11 : Option Addr} {sl11 : Array (Option Value)} {oc11 kV11 dc11 pm11 cd11 ct11 : Value}
    (a11 : PySem.W.nsIn K mainGlobals "_law_some_box" = some (some (.ref f11))) (l11 : K.lookup f11 = some ⟨oc11, od11, .func (PySem.W.fnOf "_law_some_box" "_law_some_box" (defArgs s__law_some_box) (defBody s__law_some_box) (defScope s__law_some_box) .none kV11 dc11 pm11 an11 cd11 ct11), sl11⟩) (c11 : PySem.W.codeIn K cd11 "_law_some_box" = true) (k11 : PySem.W.keepIn K (.ref f11) = true)
    {f12 : Addr} {od12 an12 : Option Addr} {sl12 : Array (Option Value)} {oc12 kV12 dc12 pm12 cd12 ct12 : Value}
    (a12 : PySem.W.nsIn K mainGlobals "law" = some (some (.ref f12))) (l12 : K.lookup f12 = some ⟨oc12, od12, .func (PySem.W.fnOf "law" "law" (defArgs s_law) (defBody s_law) (defScope s_law) .none kV12 dc12 pm12 an12 cd12 ct12), sl12⟩) (c12 : PySem.W.codeIn K cd12 "law" = true) (k12 : PySem.W.keepIn K (.ref f12) = true)
    (z_abs : PySem.W.nsIn K mainGlobals "abs" = some none)
    (z_all : PySem.W.nsIn K mainGlobals "all" = some none)
    (z_any : PySem.W.nsIn K mainGlobals "any" = some none)
    (z_bool : PySem.W.nsIn K mainGlobals "bool" = some none)
    (z_dict : PySem.W.nsIn K mainGlobals "dict" = some none)
    (z_enumerate : PySem.W.nsIn K mainGlobals "enumerate" = some none)
    (z_int : PySem.W.nsIn K mainGlobals "int" = some none)
    (z_isinstance : PySem.W.nsIn K mainGlobals "isinstance" = some none)
    (z_len : PySem.W.nsIn K mainGlobals "len" = some none)
    (z_list : PySem.W.nsIn K mainGlobals "list" = some none)
    (z_max : PySem.W.nsIn K mainGlobals "max" = some none)
    (z_min : PySem.W.nsIn K mainGlobals "min" = some none)
    (z_range : PySem.W.nsIn K mainGlobals "range" = some none)
    (z_repr : PySem.W.nsIn K mainGlobals "repr" = some none)
    (z_set : PySem.W.nsIn K mainGlobals "set" = some none)
    (z_sorted : PySem.W.nsIn K mainGlobals "sorted" = some none)
    (z_str : PySem.W.nsIn K mainGlobals "str" = some none)
    (z_sum : PySem.W.nsIn K mainGlobals "sum" = some none)
    (z_tuple : PySem.W.nsIn K mainGlobals "tuple" = some none)
    (z_zip : PySem.W.nsIn K mainGlobals "zip" = some none)
    (hlaw : ∀ ns : List Int, ns.length ≤ 63 → ∃ r, m_law [.dat (scrD ns)] = some (.bool true, r)) :
    ∃ fd : FuncData, (∀ (s : Shared) (v : Value), BindsTo s fd ⟨[v], []⟩ [("_law_script", v)]) ∧ ∀ base : Heap, K.In base → base.Ns mainGlobals mg → FnOk l.prog w K mg base CX0 41 fa fd ["_law_script"] (spLaw K) := by
  have e := hfa.symm.trans (PySem.W.mg_of X G a12)
  cases e
  have Z : Blt mg := ⟨PySem.W.mg_none_of X G z_abs, PySem.W.mg_none_of X G z_all, PySem.W.mg_none_of X G z_any, PySem.W.mg_none_of X G z_bool, PySem.W.mg_none_of X G z_dict, PySem.W.mg_none_of X G z_enumerate, PySem.W.mg_none_of X G z_int, PySem.W.mg_none_of X G z_isinstance, PySem.W.mg_none_of X G z_len, PySem.W.mg_none_of X G z_list, PySem.W.mg_none_of X G z_max, PySem.W.mg_none_of X G z_min, PySem.W.mg_none_of X G z_range, PySem.W.mg_none_of X G z_repr, PySem.W.mg_none_of X G z_set, PySem.W.mg_none_of X G z_sorted, PySem.W.mg_none_of X G z_str, PySem.W.mg_none_of X G z_sum, PySem.W.mg_none_of X G z_tuple, PySem.W.mg_none_of X G z_zip⟩
  have F0 := fun_mk (st := s_rise_over) l0 c0 k0
  have b0 := F0.binds (ps := ["room", "left", "right", "low"]) fun _ _ _ _ _ _ us hl => match us, hl with | [_, _, _, _], _ => rfl
  have F1 := fun_mk (st := s__law_cell_at) l1 c1 k1
  have b1 := F1.binds (ps := ["_law_script", "_law_k"]) fun _ _ _ _ _ _ us hl => match us, hl with | [_, _], _ => rfl
  have F2 := fun_mk (st := s__law_tape) l2 c2 k2
  have b2 := F2.binds (ps := ["_law_script", "_law_k"]) fun _ _ _ _ _ _ us hl => match us, hl with | [_, _], _ => rfl
  have F3 := fun_mk (st := s__law_take) l3 c3 k3
  have b3 := F3.binds (ps := ["_law_tape_here", "_law_many"]) fun _ _ _ _ _ _ us hl => match us, hl with | [_, _], _ => rfl
  have F4 := fun_mk (st := s__law_marks) l4 c4 k4
  have b4 := F4.binds (ps := ["_law_tape_here", "_law_most"]) fun _ _ _ _ _ _ us hl => match us, hl with | [_, _], _ => rfl
  have F5 := fun_mk (st := s__law_shut_here) l5 c5 k5
  have b5 := F5.binds (ps := ["_law_tape_here", "_law_across", "_law_up"]) fun _ _ _ _ _ _ us hl => match us, hl with | [_, _, _], _ => rfl
  have F6 := fun_mk (st := s__law_room) l6 c6 k6
  have b6 := F6.binds (ps := ["_law_tape_here", "_law_great"]) fun _ _ _ _ _ _ us hl => match us, hl with | [_, _], _ => rfl
  have F7 := fun_mk (st := s__law_ends) l7 c7 k7
  have b7 := F7.binds (ps := ["_law_room_here", "_law_up"]) fun _ _ _ _ _ _ us hl => match us, hl with | [_, _], _ => rfl
  have F8 := fun_mk (st := s__law_stands) l8 c8 k8
  have b8 := F8.binds (ps := ["_law_shut", "_law_box"]) fun _ _ _ _ _ _ us hl => match us, hl with | [_, _], _ => rfl
  have F9 := fun_mk (st := s__law_free) l9 c9 k9
  have b9 := F9.binds (ps := ["_law_room_here", "_law_box"]) fun _ _ _ _ _ _ us hl => match us, hl with | [_, _], _ => rfl
  have F10 := fun_mk (st := s__law_same) l10 c10 k10
  have b10 := F10.binds (ps := ["_law_found", "_law_due"]) fun _ _ _ _ _ _ us hl => match us, hl with | [_, _], _ => rfl
  have F11 := fun_mk (st := s__law_some_box) l11 c11 k11
  have b11 := F11.binds (ps := ["_law_tape_here", "_law_room_here"]) fun _ _ _ _ _ _ us hl => match us, hl with | [_, _], _ => rfl
  have F12 := fun_mk (st := s_law) l12 c12 k12
  have b12 := F12.binds (ps := ["_law_script"]) fun _ _ _ _ _ _ us hl => match us, hl with | [_], _ => rfl
  refine ⟨PySem.W.fnOf "law" "law" (defArgs s_law) (defBody s_law) (defScope s_law) .none kV12 dc12 pm12 an12 cd12 ct12, fun s v => .of_eq rfl, fun base _ _ => ?_⟩
  have C0 := ok_rise_over (P := l.prog) (w := w) (base := base) Z F0 (PySem.W.mg_of X G a0) b0
  have C1 := ok__law_cell_at (P := l.prog) (w := w) (base := base) Z F1 (PySem.W.mg_of X G a1) b1
  have C2 := ok__law_tape (P := l.prog) (w := w) (base := base) Z F2 (PySem.W.mg_of X G a2) b2 C1
  have O2 := okO__law_tape (P := l.prog) (w := w) (base := base) Z F2 (PySem.W.mg_of X G a2) b2 C1
  have C3 := ok__law_take (P := l.prog) (w := w) (base := base) Z F3 (PySem.W.mg_of X G a3) b3
  have C4 := ok__law_marks (P := l.prog) (w := w) (base := base) Z F4 (PySem.W.mg_of X G a4) b4 C3
  have C5 := ok__law_shut_here (P := l.prog) (w := w) (base := base) Z F5 (PySem.W.mg_of X G a5) b5 C3
  have C6 := ok__law_room (P := l.prog) (w := w) (base := base) Z F6 (PySem.W.mg_of X G a6) b6 C4 C5 C3
  have C7 := ok__law_ends (P := l.prog) (w := w) (base := base) Z F7 (PySem.W.mg_of X G a7) b7
  have C8 := ok__law_stands (P := l.prog) (w := w) (base := base) Z F8 (PySem.W.mg_of X G a8) b8
  have C9 := ok__law_free (P := l.prog) (w := w) (base := base) Z F9 (PySem.W.mg_of X G a9) b9 C8
  have C10 := ok__law_same (P := l.prog) (w := w) (base := base) Z F10 (PySem.W.mg_of X G a10) b10
  have C11 := ok__law_some_box (P := l.prog) (w := w) (base := base) Z F11 (PySem.W.mg_of X G a11) b11 C7 C3
  have C12 := ok_law (P := l.prog) (w := w) (base := base) Z F12 (PySem.W.mg_of X G a12) b12 C7 C9 C6 C10 C11 C3 C0 O2
  exact law_of F12 (bo_law Z C7 C9 C6 C10 C11 C3 C0 O2) sc_law hlaw
local macro_rules | `(tactic| walk_at "nrm") => `(tactic| first | (simp only [List.set_cons_zero, List.set_cons_succ, List.cons_append, List.nil_append, List.length_cons, List.length_nil, List.replicate_succ, List.replicate_zero, Nat.reduceAdd, Nat.reduceSub, Int.reduceToNat]; exact rfl) | exact rfl)
local macro_rules | `(tactic| walk_at "yes") => `(tactic| first | rfl | assumption | (exact decide_eq_true (by omega)) | (simp only [decide_eq_true_eq, Bool.or_eq_true, Bool.and_eq_true, Bool.not_eq_true', Bool.not_eq_false', decide_eq_false_iff_not, Bool.false_eq_true, Bool.true_eq_false, not_false_eq_true, not_true_eq_false, or_true, true_or, and_true, true_and, or_false, false_or, PyData.bool.injEq] at *; omega) | (simp only [*, decide_true, decide_false, Bool.not_true, Bool.not_false, Bool.or_true, Bool.true_or, Bool.or_false, Bool.false_or, Bool.and_true, Bool.true_and, Bool.and_false, Bool.false_and]; done))
local macro_rules | `(tactic| walk_at "not") => `(tactic| first | exact Bool.false_ne_true | assumption | (simp only [decide_eq_true_eq, Bool.or_eq_true, Bool.and_eq_true, Bool.not_eq_true', decide_eq_false_iff_not, Bool.false_eq_true, not_false_eq_true, or_false, false_or, and_true, true_and]; omega) | (simp only [*, decide_true, decide_false, Bool.not_true, Bool.not_false, Bool.or_true, Bool.true_or, Bool.or_false, Bool.false_or, Bool.and_true, Bool.true_and, Bool.and_false, Bool.false_and, Bool.false_eq_true, not_false_eq_true]; done))
local macro_rules | `(tactic| walk_at "op") => `(tactic| first | assumption | exact rfl | exact ev_mod (by omega) | exact ev_div (by omega) (by omega) | exact ev_mulL (by omega) (by omega) | exact ev_mulR (by omega) (by omega) | (exact if_pos (by omega)) | (exact if_pos ⟨by omega, by omega⟩) | exact Nat.le_of_ble_eq_true rfl | exact Nat.lt_of_lt_of_le (Nat.lt_of_lt_of_le (by omega) (Nat.le_of_ble_eq_true (rfl : Nat.ble 16000000 sizeLine = true))) (Nat.le_refl _) | decide | omega)
local macro_rules | `(tactic| walk_at "ev1") => `(tactic| with_reducible first
  | assumption
  | exact ev_con | exact ev_nilA | exact ev_nilC | exact ev_nil | exact ev_noP | exact ev_nilG | exact ev_seqBk | exact ev_seqCt | exact ev_bk | exact ev_ct
  | apply ev_seqIf | apply ev_seqA | apply ev_seqRet | apply ev_seqRetO | apply ev_seqNil | apply ev_seq
  | apply ev_bin | apply ev_binO | apply ev_cmp | apply ev_bool | apply ev_un | apply ev_tru | apply ev_not
  | apply ev_and | apply ev_or | apply ev_ifE | apply ev_ifO | apply ev_consA | apply ev_tup | apply ev_lstO | apply ev_lst | apply ev_blt | apply ev_bltO
  | apply ev_ownItem | apply ev_ownLen | apply ev_somP | apply ev_slice | apply ev_sortSet | apply ev_listRg1 | apply ev_listRg2
  | apply ev_consC | apply ev_consP | apply ev_call | apply ev_callO
  | apply ev_ret | apply ev_retO | apply ev_expr | apply ev_if | apply ev_asg | apply ev_asgO | apply ev_asgT | apply ev_par | apply ev_par3 | apply ev_aug | apply ev_put | apply ev_app | apply ev_ext | apply ev_rev | apply ev_clr
  | apply ev_tupG | apply ev_consG
  | exact ev_slN | apply ev_slD | apply ev_slP | exact ev_bkN | apply ev_bkD | apply ev_bkP | exact ev_outN | apply ev_outD | apply ev_outP)
local macro_rules | `(tactic| walk_at "ls") => `(tactic| first | ((with_reducible apply ev_name); exact rfl) | ((with_reducible apply ev_nameO); (exact rfl); (walk_at "nrm")) | ((with_reducible apply ev_nameG); walk_at "nrm") | ((with_reducible apply ev_ownNm); (exact rfl); (walk_at "nrm")) | ((with_reducible refine (?_ : List.set _ _ _ = _)); walk_at "nrm") | ((with_reducible refine (?_ : (_ : List _) ++ _ = _)); walk_at "nrm") | ((with_reducible apply ev_lsP); exact rfl) | ((with_reducible apply ev_lsO); exact rfl) | ((with_reducible apply ev_lsSetP); (exact rfl); walk_at "nrm") | ((with_reducible apply ev_lsSetO); (exact rfl); walk_at "nrm"))
local macro_rules | `(tactic| walk_at "ev") => `(tactic| repeat' (first | walk_at "ev1" | walk_at "ls" | (refine (if_pos (by walk_at "yes")).trans ?_) | (refine (if_neg (by walk_at "not")).trans ?_) | (walk_at "op"; done)))
local macro_rules | `(tactic| walk_at "gs") => `(tactic| simp (disch := omega) only [*, maxD_2, minD_2, eqD_int, eqD_str, eqD_bl, eqD_non, neD, mDef, mDefO, outA, seqS, thenO, retS, retO, exprS, ifS, asgS, asgO, asgT, parS, par3S, augS, iaddD, nilS, bkS, ctS, putS, appS, extS, revS, clrS, forS, lsAt, lsSet, nameE, conE, binE, binO, cmpT, boolE, cmp2T, cmp3T, unE, truT, notT, andT, orT, ifE, ifO, andV, orV, nilA, consA, tupE, lstO, lstE, bltE, bltO, ownItem, ownLen, callE, callO, nilC, consC, consP, slotsOf, backOf, idxs, nameG, tupG, consG, nilG, seqI, rngI1, rngI2, yesT, wipeR, backR, keepSl, noP, somP, sliceE, listRg1, listRg2, sortSetO, ownNm,
  addD, subD, ltD, leD, gtD, geD, absD, intD,  negD, truD, isD, isNotD, ev_mod, ev_div, ev_mulL, ev_mulR,
  List.length_cons, List.length_nil, List.replicate_succ, List.replicate_zero, List.cons_append, List.nil_append, List.append_nil, List.getElem?_cons_zero, List.getElem?_cons_succ, List.getElem?_nil, List.set_cons_zero, List.set_cons_succ, List.set_nil, Option.bind_some, Option.map_some, Option.bind_none, Option.map_none, Nat.reduceAdd, Nat.reduceSub, Nat.zero_add, Nat.sub_self, Nat.sub_zero, decide_eq_true_eq, Bool.not_eq_true', decide_eq_false_iff_not, ↓reduceIte, if_true, if_false, List.nodup_cons, List.not_mem_nil, not_false_eq_true, List.nodup_nil, and_self, and_true, true_and, List.mem_cons, List.mem_singleton, or_false, false_or, Nat.reduceLT, Nat.reduceLeDiff, Nat.reduceEqDiff, Bool.false_eq_true, Bool.true_eq_false, decide_true, decide_false, Bool.not_true, Bool.not_false, Nat.succ_eq_add_one, Int.reduceToNat, Int.reduceSub, Int.reduceAdd, at2_0, at2_1, at3_0, at3_1, at3_2, sz_le, sz_lt, sz_leI, itemD, ixN, if_pos, if_neg])
/-! ### the tape -/
structure Tp (n : Int) (a b c : Int) : Prop where
  a0 : 0 ≤ a
  b0 : 0 ≤ b
  b1 : b < 4611686018427387904
  c0 : 0 ≤ c
  c1 : c ≤ n
def tpD (a b c : Int) : List Dt := [.int a, .int b, .int c]
def Tk (n : Int) (ds : List Dt) : Prop := ∃ a b c, ds = tpD a b c ∧ Tp n a b c
theorem Tk.mono {n m : Int} {ds : List Dt} (h : Tk n ds) (l : n ≤ m) : Tk m ds := by
  obtain ⟨a, b, c, e, q⟩ := h
  exact ⟨a, b, c, e, ⟨q.a0, q.b0, q.b1, q.c0, by have := q.c1; omega⟩⟩
theorem take_ok {n : Int} {ds : List Dt} {m : Int} (h : Tk n ds) (hn : n ≤ 1000000000000) (h0 : 0 < m) (h1 : m < 1073741824) :
    ∃ r ds', m__law_take [.par ds, .dat (.int m)] = some (.int r, [.par ds', .dat (.int m)]) ∧ 0 ≤ r ∧ r < m ∧ Tk (n + 1) ds' := by
  obtain ⟨a, b, c, rfl, T⟩ := h
  obtain ⟨a0, b0, b1, c0, c1⟩ := T
  by_cases ha : 0 < a
  · refine ⟨a % m, tpD (a / m) b c, ?_, Int.emod_nonneg _ (by omega), Int.emod_lt_of_pos _ h0, _, _, _, rfl, Int.ediv_nonneg a0 (by omega), b0, b1, c0, by omega⟩
    unfold m__law_take b__law_take tpD
    walk_at "gs"
  · refine' Exists.intro _ (Exists.intro (tpD a b (c + 1)) (And.intro (?e : _ = _) (And.intro ?p0 (And.intro ?p1 ⟨a, b, c + 1, rfl, ⟨a0, b0, b1, by omega, by omega⟩⟩))))
    case e =>
      unfold m__law_take b__law_take tpD
      walk_at "gs"
      rfl
    case p0 => exact Int.emod_nonneg _ (by omega)
    case p1 => exact Int.emod_lt_of_pos _ h0
/-! ### the cell, the tape -/
theorem cell_ok {ns : List Int} {k : Int} (hn : ns.length ≤ 63) (hk : 0 ≤ k) : ∃ c : Int, m__law_cell_at [.dat (scrD ns), .dat (.int k)] = some (.int c, [.dat (scrD ns), .dat (.int k)]) := by
  have hl : lenD [scrD ns] = some (.int ns.length) := by simp only [lenD, List.length_map]
  by_cases h : k < ns.length
  · have hi : itemD (scrD ns) (.int k) = some (.int (ns.getD k.toNat 0)) := by
      have e : ((ns.map fun n => ((.int n, .none) : PyData × PyData)).map (·.1)) = ns.map .int := by rw [List.map_map]; rfl
      show atI ((ns.map fun n => ((.int n, .none) : PyData × PyData)).map (·.1)) k = _
      rw [e, atI_map]
      unfold atI ixN
      rw [if_pos hk, if_pos h]
      have hlt : k.toNat < ns.length := by omega
      simp only [Option.bind_some, List.getElem?_eq_getElem hlt, List.getD_eq_getElem?_getD]
      rfl
    refine' Exists.intro _ (?e : _ = _)
    case e =>
      unfold m__law_cell_at b__law_cell_at
      apply ev_def
      walk_at "ev"
  · refine' Exists.intro _ (?e : _ = _)
    case e =>
      unfold m__law_cell_at b__law_cell_at
      apply ev_def
      walk_at "ev"
theorem tape_ok {ns : List Int} {k : Int} (hn : ns.length ≤ 63) (hk : 0 ≤ k) (hk1 : k ≤ 1000000) : ∃ ds, o__law_tape [.dat (scrD ns), .dat (.int k)] = some (ds, [.dat (scrD ns), .dat (.int k)]) ∧ Tk 0 ds := by
  obtain ⟨c, e1⟩ := cell_ok hn hk
  have ha : absD [.int c] = some (.int (if c < 0 then -c else c)) := rfl
  have hp : powD (.int 10) (.int 18) = some (.int 1000000000000000000) := rfl
  have hi : intD [.bool (decide (1000000000000000000 ≤ if c < 0 then -c else c))] = some (.int (if decide (1000000000000000000 ≤ if c < 0 then -c else c) = true then 1 else 0)) := rfl
  have hm : mulD (.int (if c < 0 then -c else c)) (.int (if decide (1000000000000000000 ≤ if c < 0 then -c else c) = true then 1 else 0)) = some (.int ((if c < 0 then -c else c) * (if decide (1000000000000000000 ≤ if c < 0 then -c else c) = true then 1 else 0))) :=
    ev_mulR (by split <;> omega) (by split <;> omega)
  have ge : geD (.int (if c < 0 then -c else c)) (.int 1000000000000000000) = some (decide (1000000000000000000 ≤ if c < 0 then -c else c)) := rfl
  refine' Exists.intro [.int _, .int _, .int _] (And.intro (?e : _ = _) ⟨_, _, _, rfl, ?t⟩)
  case e =>
    unfold o__law_tape b__law_tape
    apply ev_defO
    walk_at "ev"
  case t =>
    refine ⟨?_, ?_, ?_, by omega, by omega⟩
    · by_cases hc : c < 0
      · rw [if_pos hc]; by_cases hd : decide (1000000000000000000 ≤ -c) = true
        · rw [if_pos hd]; omega
        · rw [if_neg hd]; omega
      · rw [if_neg hc]; by_cases hd : decide (1000000000000000000 ≤ c) = true
        · rw [if_pos hd]; omega
        · rw [if_neg hd]; omega
    · omega
    · omega
/-! ### marks -/
structure Marks (m : Int) (ns : List Int) : Prop where
  m0 : 0 ∈ ns
  m1 : m ∈ ns
  len : ns.length < 64
  bd : ∀ x, x ∈ ns → 0 ≤ x ∧ x ≤ m
  srt : ns.Pairwise (· < ·)
theorem Marks.pos {m : Int} {ns : List Int} (h : Marks m ns) : 0 < ns.length := List.length_pos_of_mem h.m0
theorem rg_ints (b : Int) : rgD 0 b = ((List.range (b - 0).toNat).map fun i : Nat => (0 + (i : Int))).map PyData.int := by
  unfold rgD; rw [List.map_map]; rfl
theorem marks_ok {n : Int} {ds : List Dt} {m : Int} (h : Tk n ds) (hn : n ≤ 100000000000) (h0 : 0 ≤ m) (h1 : m < 1000000000) :
    ∃ ns ds', m__law_marks [.par ds, .dat (.int m)] = some (.list (ns.map .int), [.par ds', .dat (.int m)]) ∧ Marks m ns ∧ Tk (n + 10) ds' := by
  by_cases hm : m < 9
  · refine ⟨(List.range (m + 1 - 0).toNat).map fun i : Nat => (0 + (i : Int)), ds, ?_, ⟨?_, ?_, ?_, fun x hx => ?_, ?_⟩, h.mono (by omega)⟩
    · rw [← rg_ints]
      unfold m__law_marks b__law_marks
      have e : rgL (.int 0) (.int (m + 1)) = some (rgD 0 (m + 1)) := if_pos (by unfold rgOkB; simp only [Bool.and_eq_true, decide_eq_true_eq]; omega)
      walk_at "gs"
    · exact List.mem_map.mpr ⟨0, List.mem_range.mpr (by omega), by omega⟩
    · exact List.mem_map.mpr ⟨m.toNat, List.mem_range.mpr (by omega), by omega⟩
    · rw [List.length_map, List.length_range]; omega
    · obtain ⟨i, hi, rfl⟩ := List.mem_map.mp hx
      have := List.mem_range.mp hi
      omega
    · rw [List.pairwise_map]
      exact List.pairwise_lt_range.imp fun h => by omega
  · obtain ⟨out, ρ', e, ns, ds', rfl, hb, hl, rfl, ht⟩ := lc_inv (it := rngI1 (conE (.int 10))) (t := nameG 2) (c := yesT) (f := callE 2 m__law_take (consP 0 (consC (binE addD (nameE 1) (conE (.int 1))) (nilC)))) (vs := [2]) (ρ := [.par ds, .dat (.int m), .un]) (ρ1 := [.par ds, .dat (.int m), .un])
      (fun i acc ρ => ∃ (ns : List Int) (ds' : List Dt), acc = ns.map .int ∧ (∀ x ∈ ns, 0 ≤ x ∧ x ≤ m) ∧ ns.length = i ∧ ρ = [.par ds', .dat (.int m), .un] ∧ Tk (n + i) ds')
      (ev_rng1 ev_con (by decide)) ⟨[], ds, rfl, (fun _ h => nomatch h), rfl, rfl, h.mono (by omega)⟩ (fun i d acc ρ hd hp => by
        obtain ⟨ns, ds1, rfl, hb, hl, rfl, ht⟩ := hp
        obtain ⟨hi, rfl⟩ := intsF_get hd
        obtain ⟨r, ds2, e2, r0, r1, ht2⟩ := take_ok (m := m + 1) ht (by omega) (by omega) (by omega)
        refine ⟨_, true, _, ev_nameG rfl, rfl, .inr ⟨.int r, [.par ds2, .dat (.int m), .dat (.int (0 + (i : Nat)))], rfl, ?_, ns ++ [r], ds2, by rw [List.map_append]; rfl, fun x hx => ?_, by rw [List.length_append, hl]; rfl, rfl, ht2.mono (by omega)⟩⟩
        · clear ht hb h
          walk_at "gs"
        · rcases List.mem_append.mp hx with z | z
          · exact hb x z
          · rw [List.mem_singleton.mp z]; omega)
    rw [intsF_len] at hl ht
    have hcat : catD (.list [.int 0, .int m]) (.list (ns.map .int)) = some ((0 :: m :: ns).map .int) := if_pos (by
      rw [List.length_map, hl]; exact Nat.le_of_ble_eq_true rfl)
    have hss : sortSetD (.list ((0 :: m :: ns).map .int)) = some ((uniq ltI (0 :: m :: ns)).map .int) := by
      unfold sortSetD
      simp only [intsD_map]
      rw [if_pos (by rw [List.length_cons, List.length_cons, hl]; decide)]
    refine ⟨uniq ltI (0 :: m :: ns), ds', ?_, ⟨mem_uniq.mpr (by simp), mem_uniq.mpr (by simp), ?_, fun x hx => ?_, ?_⟩, ht.mono (by
      have : ((10 : Int).toNat : Int) = 10 := rfl
      omega)⟩
    · unfold m__law_marks b__law_marks
      clear ht hb h
      walk_at "gs"
    · have := len_uniq (lt := ltI) (0 :: m :: ns)
      rw [List.length_cons, List.length_cons, hl] at this
      have e : (10 : Int).toNat = 10 := rfl
      omega
    · rcases List.mem_cons.mp (mem_uniq.mp hx) with z | z
      · omega
      · rcases List.mem_cons.mp z with z | z
        · omega
        · exact hb x z
    · exact (pw_uniq (S := fun _ => True) (fun a b _ _ => (Int.lt_trichotomy a b).elim (fun z => .inr (.inl (decide_eq_true z))) fun z => z.elim .inl fun z => .inr (.inr (decide_eq_true z))) (fun a b c x y => decide_eq_true (Int.lt_trans (of_decide_eq_true x) (of_decide_eq_true y))) fun _ _ => trivial).imp fun z => of_decide_eq_true z
/-! ### walls, rooms -/
structure Wl (w h : Int) (k : List Int) : Prop where
  ex : ∃ a b c d, k = [a, b, c, d] ∧ 0 ≤ a ∧ a ≤ c ∧ c ≤ w ∧ 0 ≤ b ∧ b ≤ d ∧ d ≤ h
theorem wl_of {w h x o y u : Int} (hx : 0 ≤ x ∧ x ≤ w) (ho : 0 ≤ o ∧ o ≤ w) (hy : 0 ≤ y ∧ y ≤ h) (hu : 0 ≤ u ∧ u ≤ h) : Wl w h [if o < x then o else x, if u < y then u else y, if o > x then o else x, if u > y then u else y] := by
  refine ⟨_, _, _, _, rfl, ?_⟩
  by_cases h1 : o < x
  · rw [if_pos h1, if_neg (show ¬ o > x by omega)]
    by_cases h2 : u < y
    · rw [if_pos h2, if_neg (show ¬ u > y by omega)]; omega
    · rw [if_neg h2]
      by_cases h3 : u > y
      · rw [if_pos h3]; omega
      · rw [if_neg h3]; omega
  · rw [if_neg h1]
    by_cases h4 : o > x
    · rw [if_pos h4]
      by_cases h2 : u < y
      · rw [if_pos h2, if_neg (show ¬ u > y by omega)]; omega
      · rw [if_neg h2]
        by_cases h3 : u > y
        · rw [if_pos h3]; omega
        · rw [if_neg h3]; omega
    · rw [if_neg h4]
      by_cases h2 : u < y
      · rw [if_pos h2, if_neg (show ¬ u > y by omega)]; omega
      · rw [if_neg h2]
        by_cases h3 : u > y
        · rw [if_pos h3]; omega
        · rw [if_neg h3]; omega
theorem item_ints {xs : List Int} {r : Int} (h0 : 0 ≤ r) (h1 : r < xs.length) : ∃ x, x ∈ xs ∧ atI (xs.map .int) r = some (PyData.int x) := by
  have hlt : r.toNat < xs.length := by omega
  refine ⟨xs[r.toNat], List.getElem_mem hlt, ?_⟩
  show atI (xs.map PyData.int) r = _
  rw [atI_map]
  unfold atI ixN
  rw [if_pos h0, if_pos h1]
  simp only [Option.bind_some, List.getElem?_eq_getElem hlt]
  rfl
theorem len_ints (xs : List Int) : lenD [.list (xs.map .int)] = some (.int xs.length) := by simp only [lenD, List.length_map]
theorem shut_ok {n : Int} {ds : List Dt} {w h : Int} {xs ys : List Int} (T : Tk n ds) (hn : n ≤ 100000000000) (mx : Marks w xs) (my : Marks h ys) :
    ∃ (k : List Int) (ds' : List Dt), m__law_shut_here [.par ds, .dat (.list (xs.map .int)), .dat (.list (ys.map .int))] = some (.tuple (k.map .int), [.par ds', .dat (.list (xs.map .int)), .dat (.list (ys.map .int))]) ∧ Wl w h k ∧ Tk (n + 5) ds' := by
  have lx := len_ints xs
  have ly := len_ints ys
  have px := mx.pos
  have py := my.pos
  have qx := mx.len
  have qy := my.len
  obtain ⟨r1, d1, e1, a1, b1, T1⟩ := take_ok (m := xs.length) T (by omega) (by omega) (by omega)
  obtain ⟨r2, d2, e2, a2, b2, T2⟩ := take_ok (m := xs.length) T1 (by omega) (by omega) (by omega)
  obtain ⟨r3, d3, e3, a3, b3, T3⟩ := take_ok (m := ys.length) T2 (by omega) (by omega) (by omega)
  obtain ⟨r4, d4, e4, a4, b4, T4⟩ := take_ok (m := ys.length) T3 (by omega) (by omega) (by omega)
  obtain ⟨r5, d5, e5, a5, b5, T5⟩ := take_ok (m := 8) T4 (by omega) (by omega) (by omega)
  obtain ⟨x1, i1, f1⟩ := item_ints a1 b1
  obtain ⟨x2, i2, f2⟩ := item_ints a2 b2
  obtain ⟨y1, i3, f3⟩ := item_ints a3 b3
  obtain ⟨y2, i4, f4⟩ := item_ints a4 b4
  have g1 := mx.bd _ i1
  have g2 := mx.bd _ i2
  have g3 := my.bd _ i3
  have g4 := my.bd _ i4
  have go : ∀ o u : Int, (o = x1 ∧ r5 < 6 ∨ o = x2 ∧ ¬ r5 < 6) → (u = y1 ∧ (r5 < 5 ∨ r5 = 6) ∨ u = y2 ∧ ¬ (r5 < 5 ∨ r5 = 6)) → 0 ≤ o ∧ o ≤ w → 0 ≤ u ∧ u ≤ h →
      m__law_shut_here [.par ds, .dat (.list (xs.map .int)), .dat (.list (ys.map .int))] = some (.tuple [.int (if o < x1 then o else x1), .int (if u < y1 then u else y1), .int (if o > x1 then o else x1), .int (if u > y1 then u else y1)], [.par d5, .dat (.list (xs.map .int)), .dat (.list (ys.map .int))]) →
      ∃ (k : List Int) (ds' : List Dt), m__law_shut_here [.par ds, .dat (.list (xs.map .int)), .dat (.list (ys.map .int))] = some (.tuple (k.map .int), [.par ds', .dat (.list (xs.map .int)), .dat (.list (ys.map .int))]) ∧ Wl w h k ∧ Tk (n + 5) ds' :=
    fun o u _ _ ho hu e => ⟨[_, _, _, _], d5, e, wl_of g1 ho g3 hu, T5.mono (by omega)⟩
  clear i1 i2 i3 i4 T T1 T2 T3 T4 mx my px py qx qy a1 b1 a2 b2 a3 b3 a4 b4
  by_cases h6 : r5 < 6
  · by_cases h5 : r5 < 5
    · refine go x1 y1 (.inl ⟨rfl, h6⟩) (.inl ⟨rfl, .inl h5⟩) g1 g3 ?_
      unfold m__law_shut_here b__law_shut_here
      walk_at "gs"
    · refine go x1 y2 (.inl ⟨rfl, h6⟩) (.inr ⟨rfl, by omega⟩) g1 g4 ?_
      unfold m__law_shut_here b__law_shut_here
      walk_at "gs"
  · by_cases h7 : r5 = 6
    · refine go x2 y1 (.inr ⟨rfl, h6⟩) (.inl ⟨rfl, .inr h7⟩) g2 g3 ?_
      unfold m__law_shut_here b__law_shut_here
      walk_at "gs"
    · refine go x2 y2 (.inr ⟨rfl, h6⟩) (.inr ⟨rfl, by omega⟩) g2 g4 ?_
      unfold m__law_shut_here b__law_shut_here
      walk_at "gs"
structure Rm (w h : Int) (ks : List (List Int)) : Prop where
  w1 : 1 ≤ w
  w2 : w ≤ 1000000
  h1 : 1 ≤ h
  h2 : h ≤ 1000000
  bd : ∀ k, k ∈ ks → Wl w h k
  len : ks.length < 64
  few : ks.length ≤ 30
  srt : ks.Pairwise (fun a b => ltT a b = true)
def wlsD (ks : List (List Int)) : List Dt := ks.map fun k => .tuple (k.map .int)
def roomD (w h : Int) (ks : List (List Int)) : Dt := .tuple [.int w, .int h, .tuple (wlsD ks)]
theorem pick_ok {r : Int} (h0 : 0 ≤ r) (h1 : r < 2) : ∃ m, atI [PyData.int 12, .int 999992] r = some (.int m) ∧ 12 ≤ m ∧ m ≤ 999992 := by
  rcases (show r = 0 ∨ r = 1 by omega) with rfl | rfl
  · exact ⟨12, rfl, by omega, by omega⟩
  · exact ⟨999992, rfl, by omega, by omega⟩
theorem wl_len {w h : Int} {k : List Int} (x : Wl w h k) : k.length = 4 ∧ ∀ i, i ∈ k → 0 ≤ i := by
  obtain ⟨a, b, c, d, rfl, h1⟩ := x
  refine ⟨rfl, fun i hi => ?_⟩
  simp only [List.mem_cons, List.not_mem_nil, or_false] at hi
  omega
theorem sort_wls {w h : Int} {ks : List (List Int)} (hb : ∀ k, k ∈ ks → Wl w h k) (hl : ks.length < 64) : sortSetD (.list (wlsD ks)) = some (wlsD (uniq ltT ks)) := by
  cases ks with
  | nil => rfl
  | cons k r =>
    have hn : intsD (wlsD (k :: r)) = none := rfl
    unfold sortSetD
    simp only [hn]
    have ht : tupsD (wlsD (k :: r)) = some (k :: r) := tupsD_map _
    rw [ht, Option.bind_some, if_pos]
    · rfl
    · refine ⟨hl, ?_⟩
      have hk := wl_len (hb k List.mem_cons_self)
      unfold tupOkB
      rw [Bool.and_eq_true]
      refine ⟨decide_eq_true (by omega), List.all_eq_true.mpr fun m hm => ?_⟩
      have h2 := wl_len (hb m hm)
      rw [Bool.and_eq_true]
      exact ⟨decide_eq_true (by omega), List.all_eq_true.mpr fun i hi => decide_eq_true (h2.2 i hi)⟩
theorem room_ok {n : Int} {ds : List Dt} {g : Bool} (T : Tk n ds) (hn : n ≤ 10000000000) :
    ∃ (w h : Int) (ks : List (List Int)) (ds' : List Dt), m__law_room [.par ds, .dat (.bool g)] = some (roomD w h ks, [.par ds', .dat (.bool g)]) ∧ Rm w h ks ∧ Tk (n + 200) ds' := by
  have hp : powD (.int 10) (.int 6) = some (.int 1000000) := rfl
  obtain ⟨r1, d1, e1, a1, b1, T1⟩ := take_ok (m := 8) T (by omega) (by omega) (by omega)
  obtain ⟨r2, d2, e2, a2, b2, T2⟩ := take_ok (m := 2) T1 (by omega) (by omega) (by omega)
  obtain ⟨q2, f2, c2, c2'⟩ := pick_ok a2 b2
  obtain ⟨r3, d3, e3, a3, b3, T3⟩ := take_ok (m := q2) T2 (by omega) (by omega) (by omega)
  obtain ⟨r4, d4, e4, a4, b4, T4⟩ := take_ok (m := 8) T3 (by omega) (by omega) (by omega)
  obtain ⟨r5, d5, e5, a5, b5, T5⟩ := take_ok (m := 2) T4 (by omega) (by omega) (by omega)
  obtain ⟨q5, f5, c5, c5'⟩ := pick_ok a5 b5
  obtain ⟨r6, d6, e6, a6, b6, T6⟩ := take_ok (m := q5) T5 (by omega) (by omega) (by omega)
  have fin : ∀ (w h : Int) (xs ys : List Int) (many : Int) (d9 : List Dt), 1 ≤ w → w ≤ 1000000 → 1 ≤ h → h ≤ 1000000 → Marks w xs → Marks h ys → 0 ≤ many → many < 31 → Tk (n + 28) d9 →
      ∃ (ks : List (List Int)) (ds' : List Dt), lcO (rngI1 (nameE 6)) (nameG 8) yesT (callE 3 m__law_shut_here (consP 0 (consC (nameE 4) (consC (nameE 5) nilC)))) [8]
        [.par d9, .dat (.bool g), .dat (.int w), .dat (.int h), .dat (.list (xs.map .int)), .dat (.list (ys.map .int)), .dat (.int many), .un, .un] = some (wlsD ks, [.par ds', .dat (.bool g), .dat (.int w), .dat (.int h), .dat (.list (xs.map .int)), .dat (.list (ys.map .int)), .dat (.int many), .un, .un]) ∧
        (∀ k, k ∈ ks → Wl w h k) ∧ ks.length ≤ 30 ∧ Tk (n + 200) ds' := by
    intro w h xs ys many d9 w1 w2 h1 h2 mx my m0 m1 T9
    obtain ⟨out, ρ', e, ks, ds', rfl, hb, hl, rfl, ht⟩ := lc_inv (it := rngI1 (nameE 6)) (t := nameG 8) (c := yesT) (f := callE 3 m__law_shut_here (consP 0 (consC (nameE 4) (consC (nameE 5) nilC)))) (vs := [8]) (ρ := [.par d9, .dat (.bool g), .dat (.int w), .dat (.int h), .dat (.list (xs.map .int)), .dat (.list (ys.map .int)), .dat (.int many), .un, .un])
      (fun i acc ρ => ∃ (ks : List (List Int)) (ds' : List Dt), acc = wlsD ks ∧ (∀ k, k ∈ ks → Wl w h k) ∧ ks.length = i ∧ ρ = [.par ds', .dat (.bool g), .dat (.int w), .dat (.int h), .dat (.list (xs.map .int)), .dat (.list (ys.map .int)), .dat (.int many), .un, .un] ∧ Tk (n + 28 + 5 * i) ds')
      (ev_rng1 (ev_name rfl) ⟨by omega, by have := sz_leI (j := many) (by omega); rw [this]; trivial⟩) ⟨[], d9, rfl, (fun _ h => nomatch h), rfl, rfl, T9.mono (by omega)⟩ (fun i d acc ρ hd hp => by
        obtain ⟨ks, dd, rfl, hb, hl, rfl, ht⟩ := hp
        obtain ⟨hi, rfl⟩ := intsF_get hd
        obtain ⟨k, de, e2, wl, ht2⟩ := shut_ok ht (by omega) mx my
        refine ⟨_, true, _, ev_nameG rfl, rfl, .inr ⟨.tuple (k.map .int), [.par de, .dat (.bool g), .dat (.int w), .dat (.int h), .dat (.list (xs.map .int)), .dat (.list (ys.map .int)), .dat (.int many), .un, .dat (.int (0 + (i : Nat)))], rfl, ?_, ks ++ [k], de, by unfold wlsD; rw [List.map_append]; rfl, fun x hx => ?_, by rw [List.length_append, hl]; rfl, rfl, ht2.mono (by omega)⟩⟩
        · clear ht2 wl ht hb mx my T9
          walk_at "gs"
        · rcases List.mem_append.mp hx with z | z
          · exact hb x z
          · rw [List.mem_singleton.mp z]; exact wl)
    rw [intsF_len] at hl ht
    exact ⟨ks, ds', e, hb, by omega, ht.mono (by omega)⟩
  cases g with
  | true =>
    obtain ⟨xs, d7, e7, mx, T7⟩ := marks_ok (m := 9 + r3) T6 (by omega) (by omega) (by omega)
    obtain ⟨ys, d8, e8, my, T8⟩ := marks_ok (m := 9 + r6) T7 (by omega) (by omega) (by omega)
    obtain ⟨s1, d9, e9, a9, b9, T9⟩ := take_ok (m := 10) T8 (by omega) (by omega) (by omega)
    obtain ⟨s2, d10, e10, a10, b10, T10⟩ := take_ok (m := 24) T9 (by omega) (by omega) (by omega)
    obtain ⟨ks, de, e11, hb, hl, T11⟩ := fin (9 + r3) (9 + r6) xs ys (7 + s2) d10 (by omega) (by omega) (by omega) (by omega) mx my (by omega) (by omega) (T10.mono (by omega))
    have e12 := sort_wls hb (by omega)
    have e13 : tupleD [.list (wlsD (uniq ltT ks))] = some (.tuple (wlsD (uniq ltT ks))) := rfl
    refine ⟨9 + r3, 9 + r6, uniq ltT ks, de, ?_, ⟨by omega, by omega, by omega, by omega, fun k hk => hb k (mem_uniq.mp hk), Nat.lt_of_le_of_lt (len_uniq _) (by omega), Nat.le_trans (len_uniq _) hl, pw_uniq (S := fun _ => True) (fun a b _ _ => ltT_tri a b) ltT_tr fun _ _ => trivial⟩, T11⟩
    unfold m__law_room b__law_room roomD
    clear fin hb hl T11 T10 T9 T8 T7 T6 T5 T4 T3 T2 T1 T mx my a9 b9 a10 b10
    walk_at "gs"
  | false =>
    obtain ⟨xs, d7, e7, mx, T7⟩ := marks_ok (m := 1 + r1) T6 (by omega) (by omega) (by omega)
    obtain ⟨ys, d8, e8, my, T8⟩ := marks_ok (m := 1 + r4) T7 (by omega) (by omega) (by omega)
    obtain ⟨s1, d9, e9, a9, b9, T9⟩ := take_ok (m := 10) T8 (by omega) (by omega) (by omega)
    obtain ⟨s2, d10, e10, a10, b10, T10⟩ := take_ok (m := 24) T9 (by omega) (by omega) (by omega)
    obtain ⟨ks, de, e11, hb, hl, T11⟩ := fin (1 + r1) (1 + r4) xs ys (s1) d10 (by omega) (by omega) (by omega) (by omega) mx my (by omega) (by omega) (T10.mono (by omega))
    have e12 := sort_wls hb (by omega)
    have e13 : tupleD [.list (wlsD (uniq ltT ks))] = some (.tuple (wlsD (uniq ltT ks))) := rfl
    refine ⟨1 + r1, 1 + r4, uniq ltT ks, de, ?_, ⟨by omega, by omega, by omega, by omega, fun k hk => hb k (mem_uniq.mp hk), Nat.lt_of_le_of_lt (len_uniq _) (by omega), Nat.le_trans (len_uniq _) hl, pw_uniq (S := fun _ => True) (fun a b _ _ => ltT_tri a b) ltT_tr fun _ _ => trivial⟩, T11⟩
    unfold m__law_room b__law_room roomD
    clear fin hb hl T11 T10 T9 T8 T7 T6 T5 T4 T3 T2 T1 T mx my a9 b9 a10 b10
    walk_at "gs"
/-! ### texts of ints -/
def inT (i : Int) : Str := Str.ofString (toString i)
theorem log2_small {i : Int} (h0 : 0 ≤ i) (h1 : i ≤ 1000000000000) : i.natAbs.log2 < 1920 := by
  by_cases h : i.natAbs = 0
  · rw [h]; decide
  · refine (Nat.log2_lt h).mpr (Nat.lt_of_lt_of_le (show i.natAbs < 2 ^ 41 by omega) (Nat.pow_le_pow_right (by decide) (by decide)))
theorem str_ok {i : Int} (h0 : 0 ≤ i) (h1 : i ≤ 1000000000000) : strD [.int i] = some (.str (inT i)) := if_pos (log2_small h0 h1)
theorem inT_len {i : Int} (h0 : 0 ≤ i) (h1 : i ≤ 1000000000000) : (inT i).length ≤ 1921 := int_text_len_1921 (log2_small h0 h1)
theorem join2 (s x y : Str) : Txt.join s [x, y] = x ++ s ++ y := by rw [TL.join_eq]; rfl
theorem join3 (s x y z : Str) : Txt.join s [x, y, z] = x ++ s ++ (y ++ s ++ z) := by rw [TL.join_eq]; rfl
theorem join4 (s x y z u : Str) : Txt.join s [x, y, z, u] = x ++ s ++ (y ++ s ++ (z ++ s ++ u)) := by rw [TL.join_eq]; rfl
theorem join5 (s x y z u v : Str) : Txt.join s [x, y, z, u, v] = x ++ s ++ (y ++ s ++ (z ++ s ++ (u ++ s ++ v))) := by rw [TL.join_eq]; rfl
theorem join_okL {s : Str} {ys : List Str} (h : (ys.map (·.length)).sum + ys.length * s.length ≤ 16777216) : joinD (.str s) (.list (ys.map .str)) = some (.str (Txt.join s ys)) := by
  unfold joinD; simp only [strsD_map, Option.bind_some]; rw [if_pos h]
theorem sum_le {ys : List Str} {b : Nat} (h : ∀ y, y ∈ ys → y.length ≤ b) : (ys.map (·.length)).sum ≤ ys.length * b := by
  induction ys with
  | nil => simp
  | cons y r ih =>
    have h1 := h y List.mem_cons_self
    have h2 := ih fun z hz => h z (List.mem_cons_of_mem _ hz)
    rw [List.map_cons, List.sum_cons, List.length_cons, Nat.add_mul, Nat.one_mul]; omega
theorem eq_str (a b : Str) : eqD (.str a) (.str b) = some (decide (a = b)) := rfl
/-! ### the ends of a room's walls -/
theorem uniqI_srt (ns : List Int) : (uniq ltI ns).Pairwise (· < ·) :=
  (pw_uniq (S := fun _ => True) (fun a b _ _ => (Int.lt_trichotomy a b).elim (fun z => .inr (.inl (decide_eq_true z))) fun z => z.elim .inl fun z => .inr (.inr (decide_eq_true z))) (fun a b c x y => decide_eq_true (Int.lt_trans (of_decide_eq_true x) (of_decide_eq_true y))) fun _ _ => trivial).imp fun z => of_decide_eq_true z
theorem sort_ints {ns : List Int} (h : ns.length < 64) : sortSetD (.list (ns.map .int)) = some ((uniq ltI ns).map .int) := by
  unfold sortSetD
  simp only [intsD_map]
  rw [if_pos h]
def szW (w h : Int) (up : Bool) : Int := if up = true then h else w
def loW (k : List Int) (up : Bool) : Int := k.getD (if up = true then 1 else 0) 0
def hiW (k : List Int) (up : Bool) : Int := k.getD (if up = true then 3 else 2) 0
def endsL (ks : List (List Int)) (up : Bool) : List Int := ks.flatMap fun k => [loW k up, hiW k up]
theorem endsL_len (ks : List (List Int)) (up : Bool) : (endsL ks up).length = 2 * ks.length := by
  induction ks with
  | nil => rfl
  | cons k r ih =>
    have : endsL (k :: r) up = loW k up :: hiW k up :: endsL r up := rfl
    rw [this, List.length_cons, List.length_cons, ih, List.length_cons]; omega
theorem mem_endsL {ks : List (List Int)} {up : Bool} {x : Int} : x ∈ endsL ks up ↔ ∃ k, k ∈ ks ∧ (x = loW k up ∨ x = hiW k up) := by
  unfold endsL
  rw [List.mem_flatMap]
  constructor
  · rintro ⟨k, hk, hx⟩
    simp only [List.mem_cons, List.not_mem_nil, or_false] at hx
    exact ⟨k, hk, hx⟩
  · rintro ⟨k, hk, hx⟩
    exact ⟨k, hk, by simp only [List.mem_cons, List.not_mem_nil, or_false]; exact hx⟩
structure Ends (w h : Int) (ks : List (List Int)) (up : Bool) (ns : List Int) : Prop where
  mem : ∀ x, x ∈ ns ↔ x = 0 ∨ x = szW w h up ∨ ∃ k, k ∈ ks ∧ (x = loW k up ∨ x = hiW k up)
  len : ns.length < 64
  srt : ns.Pairwise (· < ·)
theorem wl_bd {w h : Int} {k : List Int} (x : Wl w h k) (up : Bool) : 0 ≤ loW k up ∧ loW k up ≤ hiW k up ∧ hiW k up ≤ szW w h up := by
  obtain ⟨a, b, c, d, rfl, h1, h2, h3, h4, h5, h6⟩ := x
  cases up with
  | true => exact ⟨h4, h5, h6⟩
  | false => exact ⟨h1, h2, h3⟩
theorem Ends.bd {w h : Int} {ks : List (List Int)} {up : Bool} {ns : List Int} (E : Ends w h ks up ns) (R : Rm w h ks) {x : Int} (hx : x ∈ ns) : 0 ≤ x ∧ x ≤ szW w h up := by
  have hs : 1 ≤ szW w h up := by unfold szW; split; exact R.h1; exact R.w1
  rcases (E.mem x).mp hx with rfl | rfl | ⟨k, hk, hx⟩
  · omega
  · omega
  · have := wl_bd (R.bd k hk) up
    rcases hx with rfl | rfl <;> omega
theorem ends_ok {w h : Int} {ks : List (List Int)} {up : Bool} (R : Rm w h ks) : ∃ ns : List Int, m__law_ends [.dat (roomD w h ks), .dat (.bool up)] = some (.list (ns.map .int), [.dat (roomD w h ks), .dat (.bool up)]) ∧ Ends w h ks up ns := by
  have f2 : atI [PyData.int w, .int h, .tuple (wlsD ks)] 2 = some (.tuple (wlsD ks)) := rfl
  have f0 : atI [PyData.int w, .int h, .tuple (wlsD ks)] 0 = some (.int w) := rfl
  have f1 : atI [PyData.int w, .int h, .tuple (wlsD ks)] 1 = some (.int h) := rfl
  have few := R.few
  obtain ⟨ρ', e, s3, rfl⟩ := loop_inv (t := nameG 3)
    (b := extS 2 (lstE (lstO (consA (binE itemD (nameE 3) (bltE intD (consA (nameE 1) (nilA)))) (consA (binE itemD (nameE 3) (binE addD (conE (.int 2)) (bltE intD (consA (nameE 1) (nilA))))) (nilA))))))
    (fun i ρ => ∃ s3 : Slot, ρ = [.dat (roomD w h ks), .dat (.bool up), .own ((0 :: szW w h up :: endsL (ks.take i) up).map .int), s3])
    (ds := wlsD ks) (ρ := [.dat (roomD w h ks), .dat (.bool up), .own [.int 0, .int (szW w h up)], .un]) ⟨_, rfl⟩ (fun i d ρ hd hp => by
      obtain ⟨s3, rfl⟩ := hp
      unfold wlsD at hd
      rw [List.getElem?_map] at hd
      obtain ⟨k, hk, rfl⟩ := opt_map hd
      have hm : k ∈ ks := List.mem_of_getElem? hk
      have ht : ks.take (i + 1) = ks.take i ++ [k] := by rw [List.take_succ, hk]; rfl
      have ilt : i < ks.length := (List.getElem?_eq_some_iff.mp hk).1
      have er : (0 :: szW w h up :: endsL (ks.take (i + 1)) up).map PyData.int = (0 :: szW w h up :: endsL (ks.take i) up).map PyData.int ++ [.int (loW k up), .int (hiW k up)] := by
        rw [ht]
        unfold endsL
        rw [List.flatMap_append]
        simp only [List.map_cons, List.map_append, List.flatMap_cons, List.flatMap_nil, List.append_nil, List.cons_append, List.map_nil, List.nil_append]
      have ll : ((0 :: szW w h up :: endsL (ks.take i) up).map PyData.int).length ≤ 70 := by
        rw [List.length_map, List.length_cons, List.length_cons, endsL_len, List.length_take]; omega
      rw [er]
      generalize (0 :: szW w h up :: endsL (ks.take i) up).map PyData.int = rows at ll ⊢
      refine ⟨[.dat (roomD w h ks), .dat (.bool up), .own rows, .dat (.tuple (k.map .int))], [.dat (roomD w h ks), .dat (.bool up), .own (rows ++ [.int (loW k up), .int (hiW k up)]), .dat (.tuple (k.map .int))], rfl, .inl ?_, _, rfl⟩
      obtain ⟨a, b, c, d, rfl, _⟩ := R.bd k hm
      have g0 : atI [PyData.int a, .int b, .int c, .int d] 0 = some (.int a) := rfl
      have g1 : atI [PyData.int a, .int b, .int c, .int d] 1 = some (.int b) := rfl
      have g2 : atI [PyData.int a, .int b, .int c, .int d] 2 = some (.int c) := rfl
      have g3 : atI [PyData.int a, .int b, .int c, .int d] 3 = some (.int d) := rfl
      clear er ht hd hk hm R
      simp only [List.map_cons, List.map_nil]
      cases up with
      | true =>
        show _ = some (Out.nx [_, _, .own (rows ++ [.int b, .int d]), _])
        walk_at "gs"
      | false =>
        show _ = some (Out.nx [_, _, .own (rows ++ [.int a, .int c]), _])
        walk_at "gs")
  have hlen : (wlsD ks).length = ks.length := by unfold wlsD; rw [List.length_map]
  rw [hlen, List.take_length] at e
  have hl : (0 :: szW w h up :: endsL ks up).length < 64 := by rw [List.length_cons, List.length_cons, endsL_len]; omega
  have es := sort_ints hl
  refine ⟨uniq ltI (0 :: szW w h up :: endsL ks up), ?_, ⟨fun x => by rw [mem_uniq, List.mem_cons, List.mem_cons, mem_endsL], Nat.lt_of_le_of_lt (len_uniq _) hl, uniqI_srt _⟩⟩
  generalize (0 :: szW w h up :: endsL ks up).map PyData.int = rows at e es
  unfold roomD at e
  unfold m__law_ends b__law_ends roomD
  clear R
  cases up with
  | true =>
    have ez : szW w h true = h := rfl
    rw [ez] at e
    walk_at "gs"
  | false =>
    have ez : szW w h false = w := rfl
    rw [ez] at e
    walk_at "gs"
/-! ### some box -/
def sbB : Sm := seqS (parS 5 6 (consA (binE itemD (nameE 4) (callE 2 m__law_take (consP 0 (consC (bltE lenD (consA (nameE 4) (nilA))) (nilC))))) (consA (binE itemD (nameE 4) (callE 2 m__law_take (consP 0 (consC (bltE lenD (consA (nameE 4) (nilA))) (nilC))))) (nilA))))
    (seqS (ifS (cmpT eqD (nameE 5) (nameE 6)) (parS 5 6 (consA (conE (.int 0)) (consA (binE itemD (nameE 1) (bltE intD (consA (nameE 3) (nilA)))) (nilA)))) (nilS))
    (appS 2 (tupE (consA (bltE minD (consA (nameE 5) (consA (nameE 6) (nilA)))) (consA (bltE maxD (consA (nameE 5) (consA (nameE 6) (nilA)))) (nilA))))))
theorem item_size {w h : Int} {ks : List (List Int)} (up : Bool) : atI [PyData.int w, .int h, .tuple (wlsD ks)] (if up = true then 1 else 0) = some (.int (szW w h up)) := by
  cases up <;> rfl
theorem sbB_ok {n w h : Int} {ks : List (List Int)} {up : Bool} {ds sides : List Dt} {L : List Int} {s5 s6 s7 : Slot} (T : Tk n ds) (hn : n ≤ 100000000000) (hs : 1 ≤ szW w h up) (h0 : 0 < L.length) (h1 : L.length < 70) (hb : ∀ x, x ∈ L → 0 ≤ x ∧ x ≤ szW w h up) (hl : sides.length ≤ 10) :
    ∃ (lo hi : Int) (ds' : List Dt) (s5' s6' : Slot), sbB [.par ds, .dat (roomD w h ks), .own sides, .dat (.bool up), .dat (.list (L.map .int)), s5, s6, s7] = some (.nx [.par ds', .dat (roomD w h ks), .own (sides ++ [.tuple [.int lo, .int hi]]), .dat (.bool up), .dat (.list (L.map .int)), s5', s6', s7]) ∧ 0 ≤ lo ∧ lo < hi ∧ hi ≤ szW w h up ∧ Tk (n + 2) ds' := by
  have el := len_ints L
  obtain ⟨r1, d1, e1, a1, b1, T1⟩ := take_ok (m := L.length) T (by omega) (by omega) (by omega)
  obtain ⟨r2, d2, e2, a2, b2, T2⟩ := take_ok (m := L.length) T1 (by omega) (by omega) (by omega)
  obtain ⟨x1, i1, f1⟩ := item_ints a1 b1
  obtain ⟨x2, i2, f2⟩ := item_ints a2 b2
  have g1 := hb _ i1
  have g2 := hb _ i2
  have fs := item_size (w := w) (h := h) (ks := ks) up
  clear T T1 hb i1 i2 a1 b1 a2 b2
  by_cases e : x1 = x2
  · refine ⟨0, szW w h up, d2, .dat (.int 0), .dat (.int (szW w h up)), ?_, by omega, by omega, by omega, T2.mono (by omega)⟩
    unfold sbB roomD
    subst e
    have q1 : ¬ (szW w h up < 0) := by omega
    have q2 : szW w h up > 0 := by omega
    clear T2
    walk_at "gs"
  · by_cases e2' : x2 < x1
    · refine ⟨x2, x1, d2, .dat (.int x1), .dat (.int x2), ?_, by omega, by omega, by omega, T2.mono (by omega)⟩
      unfold sbB roomD
      have q2 : ¬ (x2 > x1) := by omega
      clear T2 fs
      walk_at "gs"
    · refine ⟨x1, x2, d2, .dat (.int x1), .dat (.int x2), ?_, by omega, by omega, by omega, T2.mono (by omega)⟩
      unfold sbB roomD
      have q2 : x2 > x1 := by omega
      clear T2 fs
      walk_at "gs"
def sbA : Sm := ifS (orT (cmpT eqD (callE 2 m__law_take (consP 0 (consC (conE (.int 3)) (nilC)))) (conE (.int 0))) (cmpT ltD (bltE lenD (consA (nameE 4) (nilA))) (conE (.int 2)))) (asgS 4 (lstE (binO catD (lstE (lcO (rngI1 (conE (.int 4))) (nameG 7) (yesT) (callE 2 m__law_take (consP 0 (consC (binE addD (binE itemD (nameE 1) (bltE intD (consA (nameE 3) (nilA)))) (conE (.int 1))) (nilC)))) [7])) (lstE (lstO (consA (conE (.int 0)) (consA (binE itemD (nameE 1) (bltE intD (consA (nameE 3) (nilA)))) (nilA)))))))) (nilS)
theorem two_le {ns : List Int} {a b : Int} (ha : a ∈ ns) (hb : b ∈ ns) (h : a ≠ b) : 2 ≤ ns.length := by
  match ns, ha, hb with
  | [x], ha, hb => exact absurd ((List.mem_singleton.mp ha).trans (List.mem_singleton.mp hb).symm) h
  | _ :: _ :: _, _, _ => simp
theorem sbA_ok {n w h : Int} {ks : List (List Int)} {up : Bool} {ds sides : List Dt} {ns : List Int} {s5 s6 : Slot} (T : Tk n ds) (hn : n ≤ 10000000000) (R : Rm w h ks) (E : Ends w h ks up ns) :
    ∃ (L : List Int) (ds' : List Dt) (s7 : Slot), sbA [.par ds, .dat (roomD w h ks), .own sides, .dat (.bool up), .dat (.list (ns.map .int)), s5, s6, .un] = some (.nx [.par ds', .dat (roomD w h ks), .own sides, .dat (.bool up), .dat (.list (L.map .int)), s5, s6, .un]) ∧ 0 < L.length ∧ L.length < 70 ∧ (∀ x, x ∈ L → 0 ≤ x ∧ x ≤ szW w h up) ∧ Tk (n + 5) ds' := by
  have hs : 1 ≤ szW w h up := by unfold szW; split; exact R.h1; exact R.w1
  have hs2 : szW w h up ≤ 1000000 := by unfold szW; split; exact R.h2; exact R.w2
  obtain ⟨r, d1, e1, a1, b1, T1⟩ := take_ok (m := 3) T (by omega) (by omega) (by omega)
  have el := len_ints ns
  have l2 : 2 ≤ ns.length := two_le ((E.mem 0).mpr (.inl rfl)) ((E.mem (szW w h up)).mpr (.inr (.inl rfl))) (by omega)
  have fs := item_size (w := w) (h := h) (ks := ks) up
  by_cases hr : r = 0
  · obtain ⟨out, ρ', e, zs, d2, rfl, hb, hl, rfl, ht⟩ := lc_inv (it := rngI1 (conE (.int 4))) (t := nameG 7) (c := yesT) (f := callE 2 m__law_take (consP 0 (consC (binE addD (binE itemD (nameE 1) (bltE intD (consA (nameE 3) (nilA)))) (conE (.int 1))) (nilC)))) (vs := [7])
      (ρ := [.par d1, .dat (roomD w h ks), .own sides, .dat (.bool up), .dat (.list (ns.map .int)), s5, s6, .un]) (ρ1 := [.par d1, .dat (roomD w h ks), .own sides, .dat (.bool up), .dat (.list (ns.map .int)), s5, s6, .un])
      (fun i acc ρ => ∃ (zs : List Int) (dd : List Dt), acc = zs.map .int ∧ (∀ x, x ∈ zs → 0 ≤ x ∧ x ≤ szW w h up) ∧ zs.length = i ∧ ρ = [.par dd, .dat (roomD w h ks), .own sides, .dat (.bool up), .dat (.list (ns.map .int)), s5, s6, .un] ∧ Tk (n + 1 + i) dd)
      (ev_rng1 ev_con (by decide)) ⟨[], d1, rfl, (fun _ h => nomatch h), rfl, rfl, T1.mono (by omega)⟩ (fun i d acc ρ hd hp => by
        obtain ⟨zs, dd, rfl, hb, hl, rfl, ht⟩ := hp
        obtain ⟨hi, rfl⟩ := intsF_get hd
        have hi' : i < 4 := hi
        obtain ⟨z, d3, e3, r0, r1, ht2⟩ := take_ok (m := szW w h up + 1) ht (by omega) (by omega) (by omega)
        refine ⟨_, true, _, ev_nameG rfl, rfl, .inr ⟨.int z, [.par d3, .dat (roomD w h ks), .own sides, .dat (.bool up), .dat (.list (ns.map .int)), s5, s6, .dat (.int (0 + (i : Nat)))], rfl, ?_, zs ++ [z], d3, by rw [List.map_append]; rfl, fun x hx => ?_, by rw [List.length_append, hl]; rfl, rfl, ht2.mono (by omega)⟩⟩
        · clear ht2 ht hb T T1 E R
          unfold roomD
          walk_at "gs"
        · rcases List.mem_append.mp hx with z | z
          · exact hb x z
          · rw [List.mem_singleton.mp z]; omega)
    rw [intsF_len] at hl ht
    have h4 : (4 : Int).toNat = 4 := rfl
    refine ⟨zs ++ [0, szW w h up], d2, .un, ?_, by rw [List.length_append]; simp, by rw [List.length_append, hl]; exact (by decide : 4 + 2 < 70), fun x hx => ?_, ht.mono (by omega)⟩
    · have hcat : catD (.list (zs.map .int)) (.list [.int 0, .int (szW w h up)]) = some ((zs ++ [0, szW w h up]).map .int) := by
        rw [List.map_append]
        exact if_pos (by rw [List.length_map, hl]; exact Nat.le_of_ble_eq_true rfl)
      unfold sbA roomD
      unfold roomD at e
      clear hb ht hl T T1 E R
      walk_at "gs"
    · rcases List.mem_append.mp hx with z | z
      · exact hb x z
      · simp only [List.mem_cons, List.not_mem_nil, or_false] at z
        rcases z with rfl | rfl <;> omega
  · refine ⟨ns, d1, .un, ?_, by omega, by have := E.len; omega, fun x hx => E.bd R hx, T1.mono (by omega)⟩
    unfold sbA roomD
    clear T T1 E R
    walk_at "gs"
def sbBody : Sm := seqS (asgS 4 (callE 2 m__law_ends (consC (nameE 1) (consC (nameE 3) (nilC))))) (seqS sbA sbB)
theorem sbBody_ok {n w h : Int} {ks : List (List Int)} {up : Bool} {ds sides : List Dt} {s4 s5 s6 : Slot} (T : Tk n ds) (hn : n ≤ 10000000000) (R : Rm w h ks) (hl : sides.length ≤ 10) :
    ∃ (lo hi : Int) (ds' : List Dt) (s4' s5' s6' : Slot), sbBody [.par ds, .dat (roomD w h ks), .own sides, .dat (.bool up), s4, s5, s6, .un] = some (.nx [.par ds', .dat (roomD w h ks), .own (sides ++ [.tuple [.int lo, .int hi]]), .dat (.bool up), s4', s5', s6', .un]) ∧ 0 ≤ lo ∧ lo < hi ∧ hi ≤ szW w h up ∧ Tk (n + 7) ds' := by
  have hs : 1 ≤ szW w h up := by unfold szW; split; exact R.h1; exact R.w1
  obtain ⟨ns, e1, E⟩ := ends_ok (up := up) R
  obtain ⟨L, d2, s7, e2, l0, l1, lb, T2⟩ := sbA_ok (sides := sides) (s5 := s5) (s6 := s6) T hn R E
  obtain ⟨lo, hi, d3, s5', s6', e3, b0, b1, b2, T3⟩ := sbB_ok (sides := sides) (ks := ks) (s5 := s5) (s6 := s6) (s7 := .un) T2 (by omega) hs l0 l1 lb hl
  refine ⟨lo, hi, d3, _, s5', s6', ev_seq ?_ (ev_seq e2 e3), b0, b1, b2, T3.mono (by omega)⟩
  clear T T2 T3 R E lb e2 e3
  walk_at "gs"
theorem loop2 {t : Tg} {b : Sm} {d0 d1 : Dt} {ρ ρ1 ρ2 ρ3 ρ4 : Rho} (h1 : t d0 ρ = some ρ1) (h2 : b ρ1 = some (.nx ρ2)) (h3 : t d1 ρ2 = some ρ3) (h4 : b ρ3 = some (.nx ρ4)) : loopS t b [d0, d1] ρ = some (.nx ρ4) := by
  unfold loopS; rw [h1, Option.bind_some, h2]
  simp only
  unfold loopS; rw [h3, Option.bind_some, h4]
  rfl
structure Bx4 (w h a b c d : Int) : Prop where
  a0 : 0 ≤ a
  ac : a < c
  cw : c ≤ w
  b0 : 0 ≤ b
  bd : b < d
  dh : d ≤ h
theorem some_box_ok {n w h : Int} {ks : List (List Int)} {ds : List Dt} (T : Tk n ds) (hn : n ≤ 1000000000) (R : Rm w h ks) :
    ∃ (a b c d : Int) (ds' : List Dt), m__law_some_box [.par ds, .dat (roomD w h ks)] = some (.tuple [.int a, .int b, .int c, .int d], [.par ds', .dat (roomD w h ks)]) ∧ Bx4 w h a b c d ∧ Tk (n + 14) ds' := by
  obtain ⟨x0, x1, d1, s4, s5, s6, e1, a0, a1, a2, T1⟩ := sbBody_ok (up := false) (sides := []) (s4 := .un) (s5 := .un) (s6 := .un) T (by omega) R (by decide)
  obtain ⟨y0, y1, d2, t4, t5, t6, e2, b0, b1, b2, T2⟩ := sbBody_ok (up := true) (sides := [] ++ [.tuple [.int x0, .int x1]]) (s4 := s4) (s5 := s5) (s6 := s6) T1 (by omega) R (by simp)
  have el := loop2 (t := nameG 3) (b := sbBody) (d0 := .bool false) (d1 := .bool true) (ρ := [.par ds, .dat (roomD w h ks), .own [], .un, .un, .un, .un, .un]) rfl e1 rfl e2
  refine ⟨x0, y0, x1, y1, d2, ?_, ⟨a0, a1, a2, b0, b1, b2⟩, T2.mono (by omega)⟩
  simp only [List.nil_append, List.cons_append] at el
  have f0 : atI [PyData.tuple [.int x0, .int x1], .tuple [.int y0, .int y1]] 0 = some (.tuple [.int x0, .int x1]) := rfl
  have f1 : atI [PyData.tuple [.int x0, .int x1], .tuple [.int y0, .int y1]] 1 = some (.tuple [.int y0, .int y1]) := rfl
  unfold sbBody sbA sbB at el
  unfold m__law_some_box b__law_some_box
  clear T T1 T2 R e1 e2
  walk_at "gs"
/-! ### what stands in a box; free boxes -/
theorem lc_filtE {α : Type} {xs : List α} {enc : α → Dt} {F : α → Dt} {p : α → Bool} {it : Exs} {t : Tg} {c : Te} {f : Ex} {vs : List Nat} {ρ ρ1 : Rho} (h1 : it ρ = some (xs.map enc, ρ1))
    (st : ∀ x, x ∈ xs → ∃ ρ2 ρ3, t (enc x) (wipeR ρ1 vs) = some ρ2 ∧ c ρ2 = some (p x, ρ3) ∧ (p x = false → wipeR ρ3 vs = wipeR ρ1 vs) ∧ (p x = true → ∃ ρ4, f ρ3 = some (F x, ρ4) ∧ wipeR ρ4 vs = wipeR ρ1 vs)) :
    lcO it t c f vs ρ = some ((xs.filter p).map F, backR ρ1 (wipeR ρ1 vs) vs) := by
  have key : ∀ es : List α, (∀ d ∈ es, d ∈ xs) → lcF t c f vs (es.map enc) (wipeR ρ1 vs) = some ((es.filter p).map F, wipeR ρ1 vs) := by
    intro es
    induction es with
    | nil => intro _; rfl
    | cons d es ih =>
      intro hs
      have ih := ih fun d hd => hs d (List.mem_cons_of_mem _ hd)
      obtain ⟨ρ2, ρ3, e1, e2, e3, e4⟩ := st d (hs d List.mem_cons_self)
      rw [List.map_cons]
      unfold lcF
      rw [e1, Option.bind_some, e2, Option.bind_some]
      cases hp : p d with
      | false =>
        rw [if_neg Bool.false_ne_true, e3 hp, ih, List.filter_cons_of_neg (by rw [hp]; exact Bool.false_ne_true)]
      | true =>
        obtain ⟨ρ4, e5, e6⟩ := e4 hp
        simp only [if_true]
        rw [e5, Option.bind_some, e6, ih, List.filter_cons_of_pos hp]; rfl
  unfold lcO
  rw [h1, Option.bind_some, key xs fun _ h => h]; rfl
/-- a wall's four numbers -/
def w0 (k : List Int) : Int := k.getD 0 0
def w1 (k : List Int) : Int := k.getD 1 0
def w2 (k : List Int) : Int := k.getD 2 0
def w3 (k : List Int) : Int := k.getD 3 0
def stW (x0 y0 x1 y1 : Int) (k : List Int) : Bool := decide (x0 < w2 k ∧ w0 k < x1 ∧ y0 < w3 k ∧ w1 k < y1)
theorem stands_ok {w h : Int} {k : List Int} (x : Wl w h k) (x0 y0 x1 y1 : Int) : m__law_stands [.dat (.tuple (k.map .int)), .dat (.tuple [.int x0, .int y0, .int x1, .int y1])] = some (.bool (stW x0 y0 x1 y1 k), [.dat (.tuple (k.map .int)), .dat (.tuple [.int x0, .int y0, .int x1, .int y1])]) := by
  obtain ⟨a, b, c, d, rfl, _⟩ := x
  have f0 : ∀ a b c d : Int, atI [PyData.int a, .int b, .int c, .int d] 0 = some (.int a) := fun _ _ _ _ => rfl
  have f1 : ∀ a b c d : Int, atI [PyData.int a, .int b, .int c, .int d] 1 = some (.int b) := fun _ _ _ _ => rfl
  have f2 : ∀ a b c d : Int, atI [PyData.int a, .int b, .int c, .int d] 2 = some (.int c) := fun _ _ _ _ => rfl
  have f3 : ∀ a b c d : Int, atI [PyData.int a, .int b, .int c, .int d] 3 = some (.int d) := fun _ _ _ _ => rfl
  simp only [List.map_cons, List.map_nil]
  have es : stW x0 y0 x1 y1 [a, b, c, d] = decide (x0 < c ∧ a < x1 ∧ y0 < d ∧ b < y1) := rfl
  rw [es]
  unfold m__law_stands b__law_stands
  by_cases h1 : x0 < c
  · by_cases h2 : a < x1
    · by_cases h3 : y0 < d
      · by_cases h4 : b < y1
        · rw [decide_eq_true (show x0 < c ∧ a < x1 ∧ y0 < d ∧ b < y1 from ⟨h1, h2, h3, h4⟩)]
          walk_at "gs"
        · rw [decide_eq_false (fun z : x0 < c ∧ a < x1 ∧ y0 < d ∧ b < y1 => h4 z.2.2.2)]
          walk_at "gs"
      · rw [decide_eq_false (fun z : x0 < c ∧ a < x1 ∧ y0 < d ∧ b < y1 => h3 z.2.2.1)]
        walk_at "gs"
    · rw [decide_eq_false (fun z : x0 < c ∧ a < x1 ∧ y0 < d ∧ b < y1 => h2 z.2.1)]
      walk_at "gs"
  · rw [decide_eq_false (fun z : x0 < c ∧ a < x1 ∧ y0 < d ∧ b < y1 => h1 z.1)]
    walk_at "gs"
theorem any_bls (bs : List Bool) : anyD [.list (bs.map .bool)] = some (.bool (bs.any id)) := by
  unfold anyD; simp only [blsD_map, Option.map_some]
theorem all_bls (bs : List Bool) : allD [.list (bs.map .bool)] = some (.bool (bs.all id)) := by
  unfold allD; simp only [blsD_map, Option.map_some]
def freeW (ks : List (List Int)) (x0 y0 x1 y1 : Int) : Bool := !(ks.any (stW x0 y0 x1 y1))
theorem free_ok {w h : Int} {ks : List (List Int)} (hb : ∀ k, k ∈ ks → Wl w h k) (x0 y0 x1 y1 : Int) : m__law_free [.dat (roomD w h ks), .dat (.tuple [.int x0, .int y0, .int x1, .int y1])] = some (.bool (freeW ks x0 y0 x1 y1), [.dat (roomD w h ks), .dat (.tuple [.int x0, .int y0, .int x1, .int y1])]) := by
  have f2 : atI [PyData.int w, .int h, .tuple (wlsD ks)] 2 = some (.tuple (wlsD ks)) := rfl
  have e1 : lcO (seqI (binE itemD (nameE 0) (conE (.int 2)))) (nameG 2) (yesT) (callE 2 m__law_stands (consC (nameE 2) (consC (nameE 1) (nilC)))) [2] [.dat (roomD w h ks), .dat (.tuple [.int x0, .int y0, .int x1, .int y1]), .un] = some ((ks.map (stW x0 y0 x1 y1)).map .bool, [.dat (roomD w h ks), .dat (.tuple [.int x0, .int y0, .int x1, .int y1]), .un]) := by
    have := lc_mapE (xs := ks) (enc := fun k => .tuple (k.map .int)) (F := fun k => .bool (stW x0 y0 x1 y1 k)) (it := seqI (binE itemD (nameE 0) (conE (.int 2)))) (t := nameG 2) (c := yesT) (f := callE 2 m__law_stands (consC (nameE 2) (consC (nameE 1) (nilC)))) (vs := [2]) (ρ := [.dat (roomD w h ks), .dat (.tuple [.int x0, .int y0, .int x1, .int y1]), .un]) (ρ1 := [.dat (roomD w h ks), .dat (.tuple [.int x0, .int y0, .int x1, .int y1]), .un])
      (ev_seqIT (ev_bin (ev_name rfl) ev_con f2)) (fun k hk => by
        have ek := stands_ok (hb k hk) x0 y0 x1 y1
        exact ⟨_, _, [.dat (roomD w h ks), .dat (.tuple [.int x0, .int y0, .int x1, .int y1]), .dat (.tuple (k.map .int))], rfl, rfl, ev_call (ev_consC (ev_name rfl) (ev_consC (ev_name rfl) ev_nilC)) (ev_slD (ev_slD ev_slN)) rfl rfl ek (ev_bkD (ev_bkD ev_bkN)), rfl⟩)
    rw [this, List.map_map]; rfl
  have e2 := any_bls (ks.map (stW x0 y0 x1 y1))
  rw [List.any_map] at e2
  have e3 : (ks.any (id ∘ stW x0 y0 x1 y1)) = ks.any (stW x0 y0 x1 y1) := rfl
  rw [e3] at e2
  unfold freeW
  generalize ks.any (stW x0 y0 x1 y1) = r at e2 ⊢
  unfold roomD at e1
  unfold m__law_free b__law_free roomD
  clear hb
  walk_at "gs"
theorem same_ints (n : Nat) (a b : Int) : m__law_same (n + 1) [.dat (.int a), .dat (.int b)] = some (.bool (decide (a = b)), [.dat (.int a), .dat (.int b)]) := by
  have h1 : isi2D "list" "tuple" (.int b) = some (.bool false) := isi2_of (isi_list _) (isi_tuple _)
  have h2 : ∀ x : Int, isiD "str" (.int x) = some (.bool false) := fun x => isi_str _
  have h3 : ∀ x : Int, isiD "bool" (.int x) = some (.bool false) := fun x => isi_bool _
  have h4 : ∀ x : Int, isiD "int" (.int x) = some (.bool true) := fun x => isi_int _
  have h5 : isD (.int b) .none = some false := rfl
  unfold m__law_same b__law_same isi2E isiE
  walk_at "gs"
theorem same_none (n : Nat) : m__law_same (n + 1) [.dat .none, .dat .none] = some (.bool true, [.dat .none, .dat .none]) := by
  have h1 : isi2D "list" "tuple" .none = some (.bool false) := isi2_of (isi_list _) (isi_tuple _)
  have h2 : isiD "str" .none = some (.bool false) := isi_str _
  have h5 : isD .none .none = some true := rfl
  unfold m__law_same b__law_same isi2E isiE
  walk_at "gs"
/-! ### how far up -/
def aboveP (l r low : Int) (k : List Int) : Bool := decide (l < w2 k) && (decide (w0 k < r) && decide (low < w3 k))
def aboveL (ks : List (List Int)) (l r low : Int) : List Int := (ks.filter (aboveP l r low)).map w1
def topR (ks : List (List Int)) (h l r low : Int) : Int := minI (aboveL ks l r low ++ [h])
def optD (b : Bool) (t : Int) : Dt := if b = true then .int t else .none
theorem min_ints {ns : List Int} (h : 0 < ns.length) : minD [.list (ns.map .int)] = some (.int (minI ns)) := by
  unfold minD; simp only [intsD_map, Option.bind_some]; rw [if_pos h]
theorem max_ints {ns : List Int} (h : 0 < ns.length) : maxD [.list (ns.map .int)] = some (.int (maxI ns)) := by
  unfold maxD; simp only [intsD_map, Option.bind_some]; rw [if_pos h]
theorem rise_ok {w h : Int} {ks : List (List Int)} (R : Rm w h ks) (l r low : Int) : m_rise_over [.dat (roomD w h ks), .dat (.int l), .dat (.int r), .dat (.int low)] = some (optD (decide (low < topR ks h l r low)) (topR ks h l r low), [.dat (roomD w h ks), .dat (.int l), .dat (.int r), .dat (.int low)]) := by
  have f2 : atI [PyData.int w, .int h, .tuple (wlsD ks)] 2 = some (.tuple (wlsD ks)) := rfl
  have f1 : atI [PyData.int w, .int h, .tuple (wlsD ks)] 1 = some (.int h) := rfl
  have e1 : lcO (seqI (binE itemD (nameE 0) (conE (.int 2)))) (nameG 6) (andT (cmpT ltD (nameE 1) (binE itemD (nameE 6) (conE (.int 2)))) (andT (cmpT ltD (binE itemD (nameE 6) (conE (.int 0))) (nameE 2)) (cmpT ltD (nameE 3) (binE itemD (nameE 6) (conE (.int 3)))))) (binE itemD (nameE 6) (conE (.int 1))) [6]
      [.dat (roomD w h ks), .dat (.int l), .dat (.int r), .dat (.int low), .un, .un, .un] = some ((aboveL ks l r low).map .int, [.dat (roomD w h ks), .dat (.int l), .dat (.int r), .dat (.int low), .un, .un, .un]) := by
    have := lc_filtE (xs := ks) (enc := fun k => .tuple (k.map .int)) (F := fun k => .int (w1 k)) (p := aboveP l r low) (it := seqI (binE itemD (nameE 0) (conE (.int 2)))) (t := nameG 6)
      (c := andT (cmpT ltD (nameE 1) (binE itemD (nameE 6) (conE (.int 2)))) (andT (cmpT ltD (binE itemD (nameE 6) (conE (.int 0))) (nameE 2)) (cmpT ltD (nameE 3) (binE itemD (nameE 6) (conE (.int 3)))))) (f := binE itemD (nameE 6) (conE (.int 1))) (vs := [6])
      (ρ := [.dat (roomD w h ks), .dat (.int l), .dat (.int r), .dat (.int low), .un, .un, .un]) (ρ1 := [.dat (roomD w h ks), .dat (.int l), .dat (.int r), .dat (.int low), .un, .un, .un]) (ev_seqIT (ev_bin (ev_name rfl) ev_con f2)) (fun k hk => by
        obtain ⟨a, b, c, d, rfl, _⟩ := R.bd k hk
        exact ⟨_, [.dat (roomD w h ks), .dat (.int l), .dat (.int r), .dat (.int low), .un, .un, .dat (.tuple [.int a, .int b, .int c, .int d])], rfl,
          ev_andP (ev_cmp (ev_name rfl) (ev_bin (ev_name rfl) ev_con rfl) rfl) (ev_andP (ev_cmp (ev_bin (ev_name rfl) ev_con rfl) (ev_name rfl) rfl) (ev_cmp (ev_name rfl) (ev_bin (ev_name rfl) ev_con rfl) rfl)),
          fun _ => rfl, fun _ => ⟨_, ev_bin (ev_name rfl) ev_con rfl, rfl⟩⟩)
    rw [this]
    unfold aboveL
    rw [List.map_map]; rfl
  have hcat : catD (.list ((aboveL ks l r low).map .int)) (.list [.int h]) = some ((aboveL ks l r low ++ [h]).map .int) := by
    have hl : (aboveL ks l r low).length ≤ 30 := by
      unfold aboveL
      rw [List.length_map]
      exact Nat.le_trans (List.length_filter_le _ _) R.few
    rw [List.map_append]
    exact if_pos (by
      rw [List.length_map]
      have := Nat.le_of_ble_eq_true (rfl : Nat.ble 60 sizeLine = true)
      simp only [List.length_cons, List.length_nil]; omega)
  have em := min_ints (ns := aboveL ks l r low ++ [h]) (by simp)
  have et : minI (aboveL ks l r low ++ [h]) = topR ks h l r low := rfl
  rw [et] at em
  generalize topR ks h l r low = t at em ⊢
  generalize (aboveL ks l r low ++ [h]).map PyData.int = rows at em hcat
  unfold roomD at e1
  unfold m_rise_over b_rise_over roomD optD
  clear R et
  by_cases hc : low < t
  · rw [if_pos (decide_eq_true hc)]
    walk_at "gs"
  · rw [if_neg (by rw [decide_eq_true_eq]; exact hc)]
    walk_at "gs"
def lawRest : Sm := (seqS (asgS 9 (lstE (lcO (seqI (lstE (binO catD (callE 2 m__law_ends (consC (nameE 3) (consC (conE (.bool true)) (nilC)))) (lstE (lstO (consA (binE addD (nameE 6) (conE (.int 1))) (nilA))))))) (nameG 12) (cmpT gtD (nameE 12) (nameE 6)) (nameE 12) [12]))) (seqS (asgS 10 (lstE (lcO (seqI (nameE 9)) (nameG 12) (truT (callE 2 m__law_free (consC (nameE 3) (consC (tupE (consA (nameE 5) (consA (nameE 6) (consA (nameE 7) (consA (nameE 12) (nilA)))))) (nilC))))) (nameE 12) [12]))) (seqS (asgS 11 (ifE (cmpT neD (nameE 10) (lstE (lstO (nilA)))) (bltE maxD (consA (nameE 10) (nilA))) (conE .none))) (seqS (ifS (andT (cmpT isNotD (nameE 11) (conE .none)) (andT (cmpT ltD (nameE 11) (binE itemD (nameE 3) (conE (.int 1)))) (truT (callE 2 m__law_free (consC (nameE 3) (consC (tupE (consA (nameE 5) (consA (nameE 6) (consA (nameE 7) (consA (binE addD (nameE 11) (conE (.int 1))) (nilA)))))) (nilC))))))) (retS (conE (.bool false))) (nilS)) (ifS (notT (truT (callE 2 (m__law_same 40) (consC (callE 4 m_rise_over (consC (nameE 3) (consC (nameE 5) (consC (nameE 7) (consC (nameE 6) (nilC)))))) (consC (nameE 11) (nilC)))))) (retS (conE (.bool false))) (nilS))))))
def lawTB : Sm := (seqS (asgT (tupG 4 (consG (nameG 5) (consG (nameG 6) (consG (nameG 7) (consG (nameG 8) (nilG)))))) (callE 2 m__law_some_box (consP 2 (consC (nameE 3) (nilC))))) (seqS (ifS (cmpT eqD (callE 2 m__law_take (consP 2 (consC (conE (.int 4)) (nilC)))) (conE (.int 0))) (asgS 6 (conE (.int 0))) (nilS)) lawRest))
def lawBody : Sm := (seqS (asgO 2 (callO 2 o__law_tape (consC (nameE 0) (consC (nameE 1) (nilC))))) (seqS (asgS 3 (callE 2 m__law_room (consP 2 (consC (andV (boolE (cmpT eqD (nameE 1) (conE (.int 0)))) (boolE (cmpT eqD (callE 2 m__law_take (consP 2 (consC (conE (.int 8)) (nilC)))) (conE (.int 0))))) (nilC))))) (forS (rngI1 (conE (.int 12))) (nameG 4) lawTB)))

theorem shaped_ints (ns : List Int) : SeqAt.shaped (.list (ns.map .int)) = true := by
  have h1 : PyData.canLayAll0 (ns.map .int) = true := by
    induction ns with
    | nil => rfl
    | cons n r ih => simp only [List.map_cons, PyData.canLayAll0, PyData.canLay0, ih, Bool.and_self]
  have h2 := PySem.W.depth_ints ns
  unfold SeqAt.shaped
  simp only [PyData.canLay0, PyData.depth, h1, h2, Bool.true_and]
  decide
theorem eq_nil (ns : List Int) : eqD (.list (ns.map .int)) (.list []) = some (decide (ns = [])) := by
  have h1 := shaped_ints ns
  have h2 : SeqAt.shaped (.list []) = true := shaped_ints []
  have h3 : eqD (.list (ns.map .int)) (.list []) = some (PyData.eqv (.list (ns.map .int)) (.list [])) := if_pos ⟨h1, h2⟩
  rw [h3]
  cases ns with
  | nil => rfl
  | cons n r =>
    have : PyData.eqv (.list ((n :: r).map .int)) (.list []) = false := by simp [PyData.eqv, PyData.eqvAll]
    rw [this]; rfl
theorem freeW_iff {ks : List (List Int)} {l low r t : Int} : freeW ks l low r t = true ↔ ∀ a, a ∈ aboveL ks l r low → t ≤ a := by
  unfold freeW aboveL
  rw [Bool.not_eq_true', ← Bool.not_eq_true, List.any_eq_true]
  constructor
  · intro h a ha
    obtain ⟨k, hk, rfl⟩ := List.mem_map.mp ha
    obtain ⟨k1, k2⟩ := List.mem_filter.mp hk
    unfold aboveP at k2
    simp only [Bool.and_eq_true, decide_eq_true_eq] at k2
    rcases Int.lt_or_le (w1 k) t with z | z
    · exact absurd ⟨k, k1, decide_eq_true ⟨k2.1, k2.2.1, k2.2.2, z⟩⟩ h
    · exact z
  · rintro h ⟨k, hk, hs⟩
    have hs := of_decide_eq_true hs
    have := h (w1 k) (List.mem_map.mpr ⟨k, List.mem_filter.mpr ⟨hk, by unfold aboveP; simp only [Bool.and_eq_true, decide_eq_true_eq]; exact ⟨hs.1, hs.2.1, hs.2.2.1⟩⟩, rfl⟩)
    omega
def topsL (ns : List Int) (low : Int) : List Int := (ns ++ [low + 1]).filter fun x => decide (low < x)
def goodL (ks : List (List Int)) (ns : List Int) (l low r : Int) : List Int := (topsL ns low).filter fun x => freeW ks l low r x
theorem good_top {w h l low r : Int} {ks : List (List Int)} {ns : List Int} (R : Rm w h ks) (E : Ends w h ks true ns) (hl : low + 1 ≤ h) :
    (low < topR ks h l r low → topR ks h l r low ∈ goodL ks ns l low r) ∧ ∀ x, x ∈ goodL ks ns l low r → x ≤ topR ks h l r low ∧ low < x := by
  have hm : topR ks h l r low ∈ aboveL ks l r low ++ [h] := minI_mem (by simp)
  have hle : ∀ a, a ∈ aboveL ks l r low ++ [h] → topR ks h l r low ≤ a := fun a ha => minI_le ha
  refine ⟨fun hlow => ?_, fun x hx => ?_⟩
  · refine List.mem_filter.mpr ⟨List.mem_filter.mpr ⟨List.mem_append_left _ ((E.mem _).mpr ?_), decide_eq_true hlow⟩, freeW_iff.mpr fun a ha => hle a (List.mem_append_left _ ha)⟩
    rcases List.mem_append.mp hm with z | z
    · obtain ⟨k, hk, e⟩ := List.mem_map.mp z
      exact .inr (.inr ⟨k, (List.mem_filter.mp hk).1, .inl e.symm⟩)
    · exact .inr (.inl (List.mem_singleton.mp z))
  · obtain ⟨h1, h2⟩ := List.mem_filter.mp hx
    obtain ⟨h3, h4⟩ := List.mem_filter.mp h1
    have h2 := freeW_iff.mp h2
    have h4 := of_decide_eq_true h4
    refine ⟨?_, h4⟩
    rcases List.mem_append.mp hm with z | z
    · exact h2 _ z
    · rw [List.mem_singleton.mp z]
      rcases List.mem_append.mp h3 with q | q
      · exact (E.bd R q).2
      · rw [List.mem_singleton.mp q]; exact hl
theorem rest_ok {w h l low r : Int} {ks : List (List Int)} {s0 s1 s2 s4 s8 s9 s10 s11 : Slot} (R : Rm w h ks) (h0 : 0 ≤ low) (hl : low + 1 ≤ h) :
    ∃ s9' s10' s11', lawRest [s0, s1, s2, .dat (roomD w h ks), s4, .dat (.int l), .dat (.int low), .dat (.int r), s8, s9, s10, s11, .un] = some (.nx [s0, s1, s2, .dat (roomD w h ks), s4, .dat (.int l), .dat (.int low), .dat (.int r), s8, s9', s10', s11', .un]) := by
  obtain ⟨ns, e1, E⟩ := ends_ok (up := true) R
  have hn := E.len
  have hcat : catD (.list (ns.map .int)) (.list [.int (low + 1)]) = some ((ns ++ [low + 1]).map .int) := by
    rw [List.map_append]
    exact if_pos (by
      rw [List.length_map]
      have := Nat.le_of_ble_eq_true (rfl : Nat.ble 90 sizeLine = true)
      simp only [List.length_cons, List.length_nil]; omega)
  have et : lcO (seqI (lstE (binO catD (callE 2 m__law_ends (consC (nameE 3) (consC (conE (.bool true)) (nilC)))) (lstE (lstO (consA (binE addD (nameE 6) (conE (.int 1))) (nilA))))))) (nameG 12) (cmpT gtD (nameE 12) (nameE 6)) (nameE 12) [12] [s0, s1, s2, .dat (roomD w h ks), s4, .dat (.int l), .dat (.int low), .dat (.int r), s8, s9, s10, s11, .un] = some ((topsL ns low).map .int, [s0, s1, s2, .dat (roomD w h ks), s4, .dat (.int l), .dat (.int low), .dat (.int r), s8, s9, s10, s11, .un]) :=
    lc_filtE (xs := ns ++ [low + 1]) (enc := PyData.int) (F := PyData.int) (p := fun x => decide (low < x)) (ρ1 := [s0, s1, s2, .dat (roomD w h ks), s4, .dat (.int l), .dat (.int low), .dat (.int r), s8, s9, s10, s11, .un])
      (ev_seqIL (ev_lst (ev_binO (ev_call (ev_consC (ev_name rfl) (ev_consC ev_con ev_nilC)) (ev_slD (ev_slD ev_slN)) rfl rfl e1 (ev_bkD (ev_bkD ev_bkN))) (ev_lst (ev_lstO (ev_consA (ev_bin (ev_name rfl) ev_con rfl) ev_nilA) (Nat.le_of_ble_eq_true rfl))) hcat)))
      (fun x _ => ⟨_, [s0, s1, s2, .dat (roomD w h ks), s4, .dat (.int l), .dat (.int low), .dat (.int r), s8, s9, s10, s11, .dat (.int x)], rfl, ev_cmp (ev_name rfl) (ev_name rfl) rfl, fun _ => rfl, fun _ => ⟨_, ev_name rfl, rfl⟩⟩)
  have eg : lcO (seqI (nameE 9)) (nameG 12) (truT (callE 2 m__law_free (consC (nameE 3) (consC (tupE (consA (nameE 5) (consA (nameE 6) (consA (nameE 7) (consA (nameE 12) (nilA)))))) (nilC))))) (nameE 12) [12] [s0, s1, s2, .dat (roomD w h ks), s4, .dat (.int l), .dat (.int low), .dat (.int r), s8, .dat (.list ((topsL ns low).map .int)), s10, s11, .un] = some ((goodL ks ns l low r).map .int, [s0, s1, s2, .dat (roomD w h ks), s4, .dat (.int l), .dat (.int low), .dat (.int r), s8, .dat (.list ((topsL ns low).map .int)), s10, s11, .un]) :=
    lc_filtE (xs := topsL ns low) (enc := PyData.int) (F := PyData.int) (p := fun x => freeW ks l low r x) (ρ1 := [s0, s1, s2, .dat (roomD w h ks), s4, .dat (.int l), .dat (.int low), .dat (.int r), s8, .dat (.list ((topsL ns low).map .int)), s10, s11, .un])
      (ev_seqIL (ev_name rfl))
      (fun x _ => ⟨_, [s0, s1, s2, .dat (roomD w h ks), s4, .dat (.int l), .dat (.int low), .dat (.int r), s8, .dat (.list ((topsL ns low).map .int)), s10, s11, .dat (.int x)], rfl,
        ev_tru (ev_call (ev_consC (ev_name rfl) (ev_consC (ev_tup (ev_consA (ev_name rfl) (ev_consA (ev_name rfl) (ev_consA (ev_name rfl) (ev_consA (ev_name rfl) ev_nilA)))) (Nat.le_of_ble_eq_true rfl)) ev_nilC)) (ev_slD (ev_slD ev_slN)) rfl rfl (free_ok R.bd l low r x) (ev_bkD (ev_bkD ev_bkN))) rfl, fun _ => rfl, fun _ => ⟨_, ev_name rfl, rfl⟩⟩)
  obtain ⟨g1, g2⟩ := good_top (l := l) (r := r) R E hl
  have er := rise_ok R l r low
  have en := eq_nil (goodL ks ns l low r)
  have ef := free_ok R.bd l low r (topR ks h l r low + 1)
  have f1 : atI [PyData.int w, .int h, .tuple (wlsD ks)] 1 = some (.int h) := rfl
  refine ⟨.dat (.list ((topsL ns low).map .int)), .dat (.list ((goodL ks ns l low r).map .int)), .dat (optD (decide (low < topR ks h l r low)) (topR ks h l r low)), ?_⟩
  by_cases hc : low < topR ks h l r low
  · have hg := g1 hc
    have hm : maxI (goodL ks ns l low r) = topR ks h l r low := (maxI_of hg fun y hy => (g2 y hy).1).symm
    have em := max_ints (List.length_pos_of_mem hg)
    rw [hm] at em
    have hne : goodL ks ns l low r ≠ [] := List.ne_nil_of_mem hg
    rw [decide_eq_false hne] at en
    have hf : topR ks h l r low < h → freeW ks l low r (topR ks h l r low + 1) = false := fun hlt => by
      have hm2 : topR ks h l r low ∈ aboveL ks l r low ++ [h] := minI_mem (by simp)
      rw [← Bool.not_eq_true]
      intro z
      rcases List.mem_append.mp hm2 with q | q
      · have := freeW_iff.mp z _ q; omega
      · have := List.mem_singleton.mp q; omega
    have eo : optD (decide (low < topR ks h l r low)) (topR ks h l r low) = .int (topR ks h l r low) := if_pos (decide_eq_true hc)
    rw [eo] at er ⊢
    have es := same_ints 39 (topR ks h l r low) (topR ks h l r low)
    generalize topR ks h l r low = t at *
    generalize (goodL ks ns l low r).map PyData.int = gs at *
    generalize (topsL ns low).map PyData.int = ts at *
    have ei : isNotD (.int t) .none = some true := rfl
    unfold roomD at et eg er ef
    unfold lawRest roomD
    clear hcat e1 g1 g2 hm hne E R hg eo
    by_cases hth : t < h
    · have hf := hf hth
      rw [hf] at ef
      walk_at "gs"
    · clear hf ef
      walk_at "gs"
  · have hnil : goodL ks ns l low r = [] := by
      cases hq : goodL ks ns l low r with
      | nil => rfl
      | cons x rr =>
        have := g2 x (by rw [hq]; exact List.mem_cons_self)
        omega
    have eo : optD (decide (low < topR ks h l r low)) (topR ks h l r low) = .none := if_neg (by rw [decide_eq_true_eq]; exact hc)
    rw [eo] at er ⊢
    rw [hnil] at en eg ⊢
    have es := same_none 39
    have ei : isNotD .none .none = some false := rfl
    have en : eqD (.list []) (.list []) = some true := en
    simp only [List.map_nil] at eg ⊢
    generalize (topsL ns low).map PyData.int = ts at *
    unfold roomD at et eg er
    unfold lawRest roomD
    clear hcat e1 g1 g2 E R ef eo hnil
    walk_at "gs"

theorem tb_ok {n w h : Int} {ks : List (List Int)} {ds : List Dt} {s0 s1 s4 s5 s6 s7 s8 s9 s10 s11 : Slot} (T : Tk n ds) (hn : n ≤ 100000000) (R : Rm w h ks) :
    ∃ (ds' : List Dt) (s5' s6' s7' s8' s9' s10' s11' : Slot), lawTB [s0, s1, .own ds, .dat (roomD w h ks), s4, s5, s6, s7, s8, s9, s10, s11, .un] = some (.nx [s0, s1, .own ds', .dat (roomD w h ks), s4, s5', s6', s7', s8', s9', s10', s11', .un]) ∧ Tk (n + 15) ds' := by
  obtain ⟨a, b, c, d, d1, e1, X, T1⟩ := some_box_ok T (by omega) R
  obtain ⟨r, d2, e2, a2, b2, T2⟩ := take_ok (m := 4) T1 (by omega) (by omega) (by omega)
  obtain ⟨x1, x2, x3, x4, x5, x6⟩ := X
  by_cases hr : r = 0
  · obtain ⟨s9', s10', s11', e3⟩ := rest_ok (l := a) (r := c) (s0 := s0) (s1 := s1) (s2 := .own d2) (s4 := s4) (s8 := .dat (.int d)) (s9 := s9) (s10 := s10) (s11 := s11) R (Int.le_refl 0) (by have := R.h1; omega)
    refine ⟨d2, _, _, _, _, s9', s10', s11', Eq.trans ?_ e3, T2.mono (by omega)⟩
    unfold lawTB
    generalize lawRest = LR
    clear T T1 T2 R e3
    walk_at "gs"
  · obtain ⟨s9', s10', s11', e3⟩ := rest_ok (l := a) (r := c) (s0 := s0) (s1 := s1) (s2 := .own d2) (s4 := s4) (s8 := .dat (.int d)) (s9 := s9) (s10 := s10) (s11 := s11) R x4 (by omega)
    refine ⟨d2, _, _, _, _, s9', s10', s11', Eq.trans ?_ e3, T2.mono (by omega)⟩
    unfold lawTB
    generalize lawRest = LR
    clear T T1 T2 R e3
    walk_at "gs"
theorem great_ok {n k : Int} {ds : List Dt} {s0 s3 : Slot} {r : Rho} (T : Tk n ds) (hn : n ≤ 100000000) :
    ∃ (g : Bool) (ds' : List Dt), consP 2 (consC (andV (boolE (cmpT eqD (nameE 1) (conE (.int 0)))) (boolE (cmpT eqD (callE 2 m__law_take (consP 2 (consC (conE (.int 8)) (nilC)))) (conE (.int 0))))) (nilC)) (s0 :: .dat (.int k) :: .own ds :: r) = some ([.p 2, .d (.bool g)], s0 :: .dat (.int k) :: .own ds' :: r) ∧ Tk (n + 1) ds' := by
  obtain ⟨z, d2, e2, a2, b2, T2⟩ := take_ok (m := 8) T (by omega) (by omega) (by omega)
  by_cases hk : k = 0
  · refine ⟨decide (z = 0), d2, ?_, T2⟩
    clear T T2
    walk_at "gs"
  · refine ⟨false, ds, ?_, T.mono (by omega)⟩
    clear T T2
    walk_at "gs"
theorem body_ok {ns : List Int} {k : Int} {s2 s3 s4 s5 s6 s7 s8 s9 s10 s11 : Slot} (hn : ns.length ≤ 63) (hk : 0 ≤ k) (hk1 : k ≤ 1000000) :
    ∃ s2' s3' s4' s5' s6' s7' s8' s9' s10' s11', lawBody [.dat (scrD ns), .dat (.int k), s2, s3, s4, s5, s6, s7, s8, s9, s10, s11, .un] = some (.nx [.dat (scrD ns), .dat (.int k), s2', s3', s4', s5', s6', s7', s8', s9', s10', s11', .un]) := by
  obtain ⟨ds, e1, T⟩ := tape_ok hn hk hk1
  obtain ⟨g, d2, e2, T2⟩ := great_ok (k := k) (s0 := .dat (scrD ns)) (s3 := s3) (r := [s3, s4, s5, s6, s7, s8, s9, s10, s11, .un]) T (by omega)
  obtain ⟨w, h, ks, d3, e3, R, T3⟩ := room_ok (g := g) T2 (by omega)
  obtain ⟨ρ', e, d4, t4, t5, t6, t7, t8, t9, t10, t11, rfl, _⟩ := loop_inv (t := nameG 4) (b := lawTB) (fun i ρ => ∃ (dd : List Dt) (s4 s5 s6 s7 s8 s9 s10 s11 : Slot), ρ = [.dat (scrD ns), .dat (.int k), .own dd, .dat (roomD w h ks), s4, s5, s6, s7, s8, s9, s10, s11, .un] ∧ Tk (0 + 1 + 200 + 15 * i) dd)
    (ds := intsF 0 (12 : Int).toNat) (ρ := [.dat (scrD ns), .dat (.int k), .own d3, .dat (roomD w h ks), s4, s5, s6, s7, s8, s9, s10, s11, .un]) ⟨_, _, _, _, _, _, _, _, _, rfl, T3.mono (by omega)⟩ (fun i d ρ hd hp => by
      obtain ⟨dd, s4, s5, s6, s7, s8, s9, s10, s11, rfl, Td⟩ := hp
      obtain ⟨hi, rfl⟩ := intsF_get hd
      have hi' : i < 12 := hi
      obtain ⟨de, u5, u6, u7, u8, u9, u10, u11, e, Te⟩ := tb_ok (s0 := .dat (scrD ns)) (s1 := .dat (.int k)) (s4 := .dat (.int (0 + (i : Nat)))) (s5 := s5) (s6 := s6) (s7 := s7) (s8 := s8) (s9 := s9) (s10 := s10) (s11 := s11) Td (by omega) R
      exact ⟨_, _, rfl, .inl e, _, _, _, _, _, _, _, _, _, rfl, Te.mono (by omega)⟩)
  refine ⟨_, _, _, _, _, _, _, _, _, _, ev_seq (ev_asgO (ev_callO (ev_consC (ev_name rfl) (ev_consC (ev_name rfl) ev_nilC)) (ev_slD (ev_slD ev_slN)) rfl rfl e1 (ev_bkD (ev_bkD ev_bkN))) (Nat.le_of_ble_eq_true rfl) rfl)
    (ev_seq (ev_asg (ev_call e2 (ev_slP (ev_lsO rfl) (ev_slD ev_slN)) rfl rfl e3 (ev_bkP (ev_lsSetO rfl rfl) (ev_bkD ev_bkN))) rfl) (ev_for (ev_rng1 ev_con (by decide)) e))⟩
theorem law_true (ns : List Int) (hn : ns.length ≤ 63) : ∃ r, m_law [.dat (scrD ns)] = some (.bool true, r) := by
  have hl : lenD [scrD ns] = some (.int ns.length) := by simp only [lenD, List.length_map]
  obtain ⟨m, em, m0, m1⟩ : ∃ m : Int, rngI1 (bltE maxD (consA (conE (.int 2)) (consA (bltE minD (consA (bltE lenD (consA (nameE 0) (nilA))) (consA (conE (.int 8)) (nilA)))) (nilA)))) [.dat (scrD ns), .un, .un, .un, .un, .un, .un, .un, .un, .un, .un, .un, .un] = some (intsF 0 m.toNat, [.dat (scrD ns), .un, .un, .un, .un, .un, .un, .un, .un, .un, .un, .un, .un]) ∧ 0 ≤ m ∧ m ≤ 100 := by
    have key : ∀ m : Int, 0 ≤ m ∧ m ≤ 100 → maxD [.int 2, .int (if (8 : Int) < ns.length then 8 else ns.length)] = some (.int m) → ∃ m : Int, rngI1 (bltE maxD (consA (conE (.int 2)) (consA (bltE minD (consA (bltE lenD (consA (nameE 0) (nilA))) (consA (conE (.int 8)) (nilA)))) (nilA)))) [.dat (scrD ns), .un, .un, .un, .un, .un, .un, .un, .un, .un, .un, .un, .un] = some (intsF 0 m.toNat, [.dat (scrD ns), .un, .un, .un, .un, .un, .un, .un, .un, .un, .un, .un, .un]) ∧ 0 ≤ m ∧ m ≤ 100 := fun m hm e =>
      ⟨m, ev_rng1 (ev_blt (ev_consA ev_con (ev_consA (ev_blt (ev_consA (ev_blt (ev_consA (ev_name rfl) ev_nilA) hl) (ev_consA ev_con ev_nilA)) rfl) ev_nilA)) e) ⟨by omega, by have := sz_leI (j := m) (by omega); rw [this]; trivial⟩, hm.1, hm.2⟩
    refine key (if (if (8 : Int) < ns.length then 8 else (ns.length : Int)) > 2 then (if (8 : Int) < ns.length then 8 else (ns.length : Int)) else 2) ?_ rfl
    by_cases h1 : (8 : Int) < ns.length
    · rw [if_pos h1]; decide
    · rw [if_neg h1]
      by_cases h2 : (ns.length : Int) > 2
      · rw [if_pos h2]; omega
      · rw [if_neg h2]; decide
  obtain ⟨ρ', e, s1, s2, s3, s4, s5, s6, s7, s8, s9, s10, s11, rfl⟩ := loop_inv (t := nameG 1) (b := lawBody) (fun i ρ => ∃ s1 s2 s3 s4 s5 s6 s7 s8 s9 s10 s11 : Slot, ρ = [.dat (scrD ns), s1, s2, s3, s4, s5, s6, s7, s8, s9, s10, s11, .un]) (ds := intsF 0 m.toNat) (ρ := [.dat (scrD ns), .un, .un, .un, .un, .un, .un, .un, .un, .un, .un, .un, .un]) ⟨_, _, _, _, _, _, _, _, _, _, _, rfl⟩ (fun i d ρ hd hp => by
    obtain ⟨s1, s2, s3, s4, s5, s6, s7, s8, s9, s10, s11, rfl⟩ := hp
    obtain ⟨hi, rfl⟩ := intsF_get hd
    obtain ⟨s2', s3', s4', s5', s6', s7', s8', s9', s10', s11', e⟩ := body_ok (ns := ns) (k := 0 + (i : Nat)) (s2 := s2) (s3 := s3) (s4 := s4) (s5 := s5) (s6 := s6) (s7 := s7) (s8 := s8) (s9 := s9) (s10 := s10) (s11 := s11) hn (by omega) (by omega)
    exact ⟨_, _, rfl, .inl e, _, _, _, _, _, _, _, _, _, _, _, rfl⟩)
  refine ⟨[.dat (scrD ns)], ?_⟩
  have e2 : b_law [.dat (scrD ns), .un, .un, .un, .un, .un, .un, .un, .un, .un, .un, .un, .un] = some (.rt (.bool true) [.dat (scrD ns), s1, s2, s3, s4, s5, s6, s7, s8, s9, s10, s11, .un]) :=
    ev_seq (ev_for em e) (ev_ret ev_con)
  unfold m_law
  exact ev_def rfl e2 (ev_outD ev_outN)

end G
open PySem PySem.W PyProof.Rows
set_option maxRecDepth 100000 in
set_option maxHeartbeats 0 in
theorem PySem.Challenge.cw_emptybox_k41_how_far_up_holds : PySem.Challenge.rw_emptybox_k41_how_far_up.Holds := by
  w_on; o_law; k_head; (case hw => w_witness2)
  k_fill
  refine L2.walk_of (l := PySem.Challenge.rw_emptybox_k41_how_far_up) (n := 63) (k := 41) (x := "_law_script") (CX := fun _ => L2.CX0) (sp := fun w => G.spLaw _) rfl (by decide) rfl ⟨rfl, by decide, by decide⟩ (fun w h Y => PySem.W.kIn_of Y) ?F (fun _ _ a ns hl ho hS => ⟨a, ns, rfl, hS, hl, ho, fun _ _ h => h⟩) (fun _ _ _ _ _ h => h)
  case F =>
    intro w mg fa h KX KG hmg
    refine' G.all_mk KX KG hmg ?a0 ?l0 ?c0 ?k0 ?a1 ?l1 ?c1 ?k1 ?a2 ?l2 ?c2 ?k2 ?a3 ?l3 ?c3 ?k3 ?a4 ?l4 ?c4 ?k4 ?a5 ?l5 ?c5 ?k5 ?a6 ?l6 ?c6 ?k6 ?a7 ?l7 ?c7 ?k7 ?a8 ?l8 ?c8 ?k8 ?a9 ?l9 ?c9 ?k9 ?a10 ?l10 ?c10 ?k10 ?a11 ?l11 ?c11 ?k11 ?a12 ?l12 ?c12 ?k12 ?z_abs ?z_all ?z_any ?z_bool ?z_dict ?z_enumerate ?z_int ?z_isinstance ?z_len ?z_list ?z_max ?z_min ?z_range ?z_repr ?z_set ?z_sorted ?z_str ?z_sum ?z_tuple ?z_zip G.law_true
    (case a0 => k_is)
    (case l0 => k_is)
    (case c0 => k_is)
    (case k0 => k_is)
    (case a1 => k_is)
    (case l1 => k_is)
    (case c1 => k_is)
    (case k1 => k_is)
    (case a2 => k_is)
    (case l2 => k_is)
    (case c2 => k_is)
    (case k2 => k_is)
    (case a3 => k_is)
    (case l3 => k_is)
    (case c3 => k_is)
    (case k3 => k_is)
    (case a4 => k_is)
    (case l4 => k_is)
    (case c4 => k_is)
    (case k4 => k_is)
    (case a5 => k_is)
    (case l5 => k_is)
    (case c5 => k_is)
    (case k5 => k_is)
    (case a6 => k_is)
    (case l6 => k_is)
    (case c6 => k_is)
    (case k6 => k_is)
    (case a7 => k_is)
    (case l7 => k_is)
    (case c7 => k_is)
    (case k7 => k_is)
    (case a8 => k_is)
    (case l8 => k_is)
    (case c8 => k_is)
    (case k8 => k_is)
    (case a9 => k_is)
    (case l9 => k_is)
    (case c9 => k_is)
    (case k9 => k_is)
    (case a10 => k_is)
    (case l10 => k_is)
    (case c10 => k_is)
    (case k10 => k_is)
    (case a11 => k_is)
    (case l11 => k_is)
    (case c11 => k_is)
    (case k11 => k_is)
    (case a12 => k_is)
    (case l12 => k_is)
    (case c12 => k_is)
    (case k12 => k_is)
    (case z_abs => k_is)
    (case z_all => k_is)
    (case z_any => k_is)
    (case z_bool => k_is)
    (case z_dict => k_is)
    (case z_enumerate => k_is)
    (case z_int => k_is)
    (case z_isinstance => k_is)
    (case z_len => k_is)
    (case z_list => k_is)
    (case z_max => k_is)
    (case z_min => k_is)
    (case z_range => k_is)
    (case z_repr => k_is)
    (case z_set => k_is)
    (case z_sorted => k_is)
    (case z_str => k_is)
    (case z_sum => k_is)
    (case z_tuple => k_is)
    (case z_zip => k_is)
