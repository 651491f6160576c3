import PyProof.Rows.All
import Wide.All
import OpenK.AllK
import Wide.FinOn
import HandS.ForDict
import HandS.ForMost
import HandS.ForExc
import HandS.Deep
import HandS.TupAny
import HandS.TupLe
import HandS.Wide
import HandS.WideBits
import HandS.IsInst
import HandS.Steps
import HandS.Conv
import HandS.EndBits
import KE.SortData
import HandS.Strs
import HandS.Style
import PySem.Challenge.RW_onceswapped_k07_arrangements_recognized
set_option Elab.async false
set_option linter.all false
set_option maxRecDepth 100000
set_option maxHeartbeats 4000000
set_option autoImplicit false
/-! DL0: the data layer: what a frame's names hold as data (stable, owned), what is kept -/
namespace DL
open PySem L2

abbrev D := PyData
/-- an exception: its class's name, the field it bears -/
structure Er where
  cls : Str
  pay : Option (Str × D)
inductive Re (α : Type) where
  | bad | er (e : Er) | ok (a : α)
/-- what a name holds: nothing known; stable data; an owned list of stable items; an owned list of owned lists; an owned dict -/
inductive Sl where
  | no | sh (d : D) | ow (ds : List D) | ow2 (dss : List (List D)) | dk (kvs : List (Key × D))
abbrev En := List Sl

theorem same_rd {H H' : Hp} {a : Addr} {u : HO} (e : Same H H') (h : Rd H a u) : Rd H' a u := by
  rcases h with h | ⟨o, h⟩
  · exact .inl (e a _ h)
  · exact .inr ⟨o, e a _ h⟩
theorem same_l {K : PySem.W.Frag} {H H' : Hp} {a : Addr} {xs : List V} (e : Same H H') (h : SqL K H a xs) : SqL K H' a xs := by
  rcases h with h | h
  · exact .inl (same_rd e h)
  · exact .inr h
theorem same_t {K : PySem.W.Frag} {H H' : Hp} {a : Addr} {xs : List V} (e : Same H H') (h : SqT K H a xs) : SqT K H' a xs := by
  rcases h with h | h
  · exact .inl (same_rd e h)
  · exact .inr h
mutual
/-- a value stands for data: the lists are tracked by themselves -/
inductive Rp (K : PySem.W.Frag) (H : Hp) : V → PyData → Prop
  | non : Rp K H .non .none
  | bl (b : Bool) : Rp K H (.bl b) (.bool b)
  | int (i : Int) : Rp K H (.int i) (.int i)
  | str (x : Str) : Rp K H (.str x) (.str x)
  | lst {a : Addr} {xs : List V} {ds : List PyData} : SqL K H a xs → RpAll K H xs ds → Rp K H (.ref a) (.list ds)
  | tup {a : Addr} {xs : List V} {ds : List PyData} : SqT K H a xs → RpAll K H xs ds → Rp K H (.ref a) (.tuple ds)
inductive RpAll (K : PySem.W.Frag) (H : Hp) : List V → List PyData → Prop
  | nil : RpAll K H [] []
  | cons {v : V} {vs : List V} {d : PyData} {ds : List PyData} : Rp K H v d → RpAll K H vs ds → RpAll K H (v :: vs) (d :: ds)
end
mutual
theorem Rp.dp {K : PySem.W.Frag} {H : Hp} : ∀ {d : D} {v : V}, Rp K H v d → Dp K H v d
  | _, _, .non => .non
  | _, _, .bl b => .bl b
  | _, _, .int i => .int i
  | _, _, .str x => .str x
  | _, _, .lst h1 h2 => .lst h1 (RpAll.dpa h2)
  | _, _, .tup h1 h2 => .tup h1 (RpAll.dpa h2)
theorem RpAll.dpa {K : PySem.W.Frag} {H : Hp} : ∀ {ds : List D} {vs : List V}, RpAll K H vs ds → DpAll K H vs ds
  | _, _, .nil => .nil
  | _, _, .cons h1 h2 => .cons h1.dp (RpAll.dpa h2)
end
mutual
theorem dp_mono {K : PySem.W.Frag} {H H' : Hp} (e : Same H H') : ∀ {d : D} {v : V}, Rp K H v d → Rp K H' v d
  | _, _, .non => .non
  | _, _, .bl b => .bl b
  | _, _, .int i => .int i
  | _, _, .str x => .str x
  | _, _, .lst h1 h2 => .lst (same_l e h1) (dpa_mono e h2)
  | _, _, .tup h1 h2 => .tup (same_t e h1) (dpa_mono e h2)
theorem dpa_mono {K : PySem.W.Frag} {H H' : Hp} (e : Same H H') : ∀ {ds : List D} {vs : List V}, RpAll K H vs ds → RpAll K H' vs ds
  | _, _, .nil => .nil
  | _, _, .cons h1 h2 => .cons (dp_mono e h1) (dpa_mono e h2)
end
theorem dpa_len {K : PySem.W.Frag} {H : Hp} : ∀ {ds : List D} {vs : List V}, RpAll K H vs ds → vs.length = ds.length
  | _, _, .nil => rfl
  | _, _, .cons _ h2 => congrArg (· + 1) (dpa_len h2)
theorem dpa_get {K : PySem.W.Frag} {H : Hp} : ∀ {ds : List D} {vs : List V} {i : Nat} {d : D}, RpAll K H vs ds → ds[i]? = some d → ∃ v, vs[i]? = some v ∧ Rp K H v d
  | _, _, 0, _, .cons h1 _, e => by
    simp at e; subst e; exact ⟨_, rfl, h1⟩
  | _, _, i + 1, d, .cons _ h2, e => by
    obtain ⟨v, q1, q2⟩ := dpa_get (i := i) (d := d) h2 (by simpa using e)
    exact ⟨v, by simpa using q1, q2⟩
  | _, _, _, _, .nil, e => by simp at e
theorem dpa_get' {K : PySem.W.Frag} {H : Hp} : ∀ {ds : List D} {vs : List V} {i : Nat} {v : V}, RpAll K H vs ds → vs[i]? = some v → ∃ d, ds[i]? = some d ∧ Rp K H v d
  | _, _, 0, _, .cons h1 _, e => by
    simp at e; subst e; exact ⟨_, rfl, h1⟩
  | _, _, i + 1, d, .cons _ h2, e => by
    obtain ⟨v, q1, q2⟩ := dpa_get' (i := i) (v := d) h2 (by simpa using e)
    exact ⟨v, by simpa using q1, q2⟩
  | _, _, _, _, .nil, e => by simp at e
theorem dpa_append {K : PySem.W.Frag} {H : Hp} : ∀ {ds es : List D} {vs ws : List V}, RpAll K H vs ds → RpAll K H ws es → RpAll K H (vs ++ ws) (ds ++ es)
  | _, _, _, _, .nil, h => h
  | _, _, _, _, .cons h1 h2, h => .cons h1 (dpa_append h2 h)
theorem dpa_set {K : PySem.W.Frag} {H : Hp} : ∀ {ds : List D} {vs : List V} {i : Nat} {v : V} {d : D}, RpAll K H vs ds → Rp K H v d → RpAll K H (vs.set i v) (ds.set i d)
  | _, _, _, _, _, .nil, _ => .nil
  | _, _, 0, _, _, .cons _ h2, h => .cons h h2
  | _, _, _ + 1, _, _, .cons h1 h2, h => .cons h1 (dpa_set h2 h)
theorem dpa_erase {K : PySem.W.Frag} {H : Hp} : ∀ {ds : List D} {vs : List V} {i : Nat}, RpAll K H vs ds → RpAll K H (vs.eraseIdx i) (ds.eraseIdx i)
  | _, _, _, .nil => .nil
  | _, _, 0, .cons _ h2 => h2
  | _, _, _ + 1, .cons h1 h2 => .cons h1 (dpa_erase h2)
theorem dpa_take {K : PySem.W.Frag} {H : Hp} : ∀ {ds : List D} {vs : List V} {i : Nat}, RpAll K H vs ds → RpAll K H (vs.take i) (ds.take i)
  | _, _, _, .nil => by simp; exact .nil
  | _, _, 0, _ => .nil
  | _, _, _ + 1, .cons h1 h2 => .cons h1 (dpa_take h2)
theorem dpa_drop {K : PySem.W.Frag} {H : Hp} : ∀ {ds : List D} {vs : List V} {i : Nat}, RpAll K H vs ds → RpAll K H (vs.drop i) (ds.drop i)
  | _, _, _, .nil => by simp; exact .nil
  | _, _, 0, h => h
  | _, _, i + 1, .cons _ h2 => dpa_drop (i := i) h2
theorem dpa_reverse {K : PySem.W.Frag} {H : Hp} : ∀ {ds : List D} {vs : List V}, RpAll K H vs ds → RpAll K H vs.reverse ds.reverse
  | _, _, .nil => .nil
  | _, _, .cons h1 h2 => by
    rw [List.reverse_cons, List.reverse_cons]
    exact dpa_append (dpa_reverse h2) (.cons h1 .nil)
theorem dpa_last {K : PySem.W.Frag} {H : Hp} {ds : List D} {vs : List V} (h : RpAll K H vs ds) : RpAll K H vs.dropLast ds.dropLast := by
  rw [List.dropLast_eq_take, List.dropLast_eq_take, dpa_len h]
  exact dpa_take h
theorem dpa_ints {K : PySem.W.Frag} {H : Hp} : ∀ (ns : List Int), RpAll K H (ns.map V.int) (ns.map PyData.int)
  | [] => .nil
  | n :: ns => .cons (.int n) (dpa_ints ns)

/-- what holds for a whole run of a def: the written part, the top's names, the heap at the entry, the stable part of it, which parameters may be changed and where they lie -/
structure DC where
  K : PySem.W.Frag
  mg : Str → Option Value
  Hin : Hp
  Hb : Hp
  mi : List Nat
  ma : Nat → Addr

def Own (c : DC) (Hs G : Hp) (i : Nat) (a : Addr) : Prop := Hs a = none ∧ G a = none ∧ ((i ∈ c.mi ∧ a = c.ma i) ∨ (i ∉ c.mi ∧ c.Hin a = none))
/-- one row of an owned list of lists -/
def Row (c : DC) (Hs G H : Hp) (i : Nat) (a : Addr) (ds : List D) : Prop := ∃ xs, H a = some (.lst xs) ∧ RpAll c.K Hs xs ds ∧ Own c Hs G i a
def KVd (K : PySem.W.Frag) (H : Hp) : List (Key × V) → List (Key × D) → Prop := Paired fun (p : Key × V) (q : Key × D) => p.1 = q.1 ∧ Rp K H p.2 q.2
def SlOk (c : DC) (Hs G H : Hp) (i : Nat) (v : Option (Option V)) : Sl → Prop
  | .no => True
  | .sh d => ∃ x, v = some (some x) ∧ Rp c.K Hs x d
  | .ow ds => ∃ r xs, v = some (some (.ref r)) ∧ H r = some (.lst xs) ∧ RpAll c.K Hs xs ds ∧ Own c Hs G i r
  | .ow2 dss => ∃ r rs, v = some (some (.ref r)) ∧ H r = some (.lst (rs.map V.ref)) ∧ Own c Hs G i r ∧ (r :: rs).Nodup ∧ Paired (Row c Hs G H i) rs dss
  | .dk kvs => ∃ r ks, v = some (some (.ref r)) ∧ H r = some (.dK ks) ∧ KVd c.K Hs ks kvs ∧ Own c Hs G i r
/-- what a name owns -/
def Foot (H : Hp) : Option (Option V) → Sl → Addr → Prop
  | some (some (.ref r)), .ow _, a => a = r
  | some (some (.ref r)), .ow2 _, a => a = r ∨ ∃ xs, H r = some (.lst xs) ∧ V.ref a ∈ xs
  | some (some (.ref r)), .dk _, a => a = r
  | _, _, _ => False
/-- what is kept, the state of a frame apart -/
structure Frm (c : DC) (Hs G H : Hp) : Prop where
  bs : Same c.Hb Hs
  sh : Same Hs H
  gm : Same G H
  nw : ∀ a o, Hs a = some o → c.Hb a = some o ∨ c.Hin a = none
  hin : ∀ a o, c.Hin a = some o → ∃ o', H a = some o'
  gs : ∀ a o o', G a = some o → Hs a = some o' → ∃ u, c.Hin a = some u
structure Sat (c : DC) (Hs G H : Hp) (σ : St) (δ : En) : Prop extends Frm c Hs G H where
  ln : δ.length = σ.length
  sl : ∀ (i : Nat) (s : Sl), δ[i]? = some s → SlOk c Hs G H i σ[i]? s
  sp : ∀ (i j : Nat) (s t : Sl) (a : Addr), i ≠ j → δ[i]? = some s → δ[j]? = some t → Foot H σ[i]? s a → Foot H σ[j]? t a → False
  mo : ∀ i ∈ c.mi, ∃ ds, δ[i]? = some (.ow ds)

section
variable {c : DC} {Hs Hs' G H H' : Hp} {σ : St} {δ : En} {i : Nat} {a p : Addr} {o : HO} {v : V} {d : D} {ds : List D}

theorem paired_mono {α β : Type} {F F' : α → β → Prop} (h : ∀ a b, F a b → F' a b) : ∀ {xs : List α} {ys : List β}, Paired F xs ys → Paired F' xs ys
  | _, _, .nil => .nil
  | _, _, .cons h1 h2 => .cons (h _ _ h1) (paired_mono h h2)
theorem paired_mem {α β : Type} {F : α → β → Prop} : ∀ {xs : List α} {ys : List β} {a : α}, Paired F xs ys → a ∈ xs → ∃ b, F a b
  | _, _, _, .cons h1 h2, m => by
    rcases List.mem_cons.mp m with e | m
    · subst e; exact ⟨_, h1⟩
    · exact paired_mem h2 m

/-- what a name owns is tracked and is its own -/
theorem foot_own {s : Sl} {v : Option (Option V)} (h : SlOk c Hs G H i v s) (f : Foot H v s a) : Own c Hs G i a ∧ ∃ o, H a = some o := by
  cases s with
  | no => cases v with
    | none => exact f.elim
    | some v => cases v with
      | none => exact f.elim
      | some v => cases v <;> exact f.elim
  | sh d => cases v with
    | none => exact f.elim
    | some v => cases v with
      | none => exact f.elim
      | some v => cases v <;> exact f.elim
  | ow ds =>
    obtain ⟨r, xs, rfl, h1, h2, h3⟩ := h
    have e : a = r := f
    subst e
    exact ⟨h3, _, h1⟩
  | ow2 dss =>
    obtain ⟨r, rs, rfl, h1, h2, h3, h4⟩ := h
    rcases (show a = r ∨ ∃ xs, H r = some (.lst xs) ∧ V.ref a ∈ xs from f) with e | ⟨xs, e1, e2⟩
    · subst e; exact ⟨h2, _, h1⟩
    · rw [h1] at e1
      injection e1 with e1
      injection e1 with e1
      subst e1
      obtain ⟨b, hb, e3⟩ := List.mem_map.mp e2
      injection e3 with e3
      subst e3
      obtain ⟨es, xs, q1, q2, q3⟩ := paired_mem h4 hb
      exact ⟨q3, _, q1⟩
  | dk kvs =>
    obtain ⟨r, xs, rfl, h1, h2, h3⟩ := h
    have e : a = r := f
    subst e
    exact ⟨h3, _, h1⟩

/-- the heap changes where the name owns nothing, the stable part grows -/
theorem slok_keep {G' : Hp} {s : Sl} {v : Option (Option V)} (h : SlOk c Hs G H i v s) (e : Same Hs Hs') (k : ∀ b o, Foot H v s b → H b = some o → H' b = some o) (n : ∀ b, Foot H v s b → Hs' b = none) (g : ∀ b, Foot H v s b → G' b = none) : SlOk c Hs' G' H' i v s := by
  have ow : ∀ b, Foot H v s b → Own c Hs G i b → Own c Hs' G' i b := fun b f w => ⟨n b f, g b f, w.2.2⟩
  cases s with
  | no => trivial
  | sh d => obtain ⟨x, e1, h1⟩ := h; exact ⟨x, e1, dp_mono e h1⟩
  | ow ds =>
    obtain ⟨r, xs, rfl, h1, h2, h3⟩ := h
    exact ⟨r, xs, rfl, k r _ rfl h1, dpa_mono e h2, ow r rfl h3⟩
  | ow2 dss =>
    obtain ⟨r, rs, rfl, h1, h2, h3, h4⟩ := h
    refine ⟨r, rs, rfl, k r _ (.inl rfl) h1, ow r (.inl rfl) h2, h3, ?_⟩
    have fm : ∀ b ∈ rs, Foot H (some (some (.ref r))) (.ow2 dss) b := fun b hb => .inr ⟨_, h1, List.mem_map.mpr ⟨b, hb, rfl⟩⟩
    clear h1 h3
    generalize Foot H (some (some (.ref r))) (.ow2 dss) = F at *
    induction h4 with
    | nil => exact .nil
    | @cons a ds rs' dss' h5 h6 ih =>
      obtain ⟨xs, q1, q2, q3⟩ := h5
      have fa := fm _ (List.mem_cons_self)
      exact .cons ⟨xs, k _ _ fa q1, dpa_mono e q2, ow _ fa q3⟩ (ih fun b hb => fm b (List.mem_cons_of_mem _ hb))
  | dk kvs =>
    obtain ⟨r, xs, rfl, h1, h2, h3⟩ := h
    exact ⟨r, xs, rfl, k r _ rfl h1, paired_mono (fun p q z => ⟨z.1, dp_mono e z.2⟩) h2, ow r rfl h3⟩
theorem foot_keep {s : Sl} {v : Option (Option V)} (hs : SlOk c Hs G H i v s) (k : ∀ b o, Foot H v s b → H b = some o → H' b = some o) (f : Foot H' v s a) : Foot H v s a := by
  cases s with
  | ow2 dss =>
    obtain ⟨r, rs, rfl, h1, h2, h3, h4⟩ := hs
    rcases (show a = r ∨ ∃ xs, H' r = some (.lst xs) ∧ V.ref a ∈ xs from f) with e | ⟨xs, e1, e2⟩
    · exact .inl e
    · rw [k r _ (.inl rfl) h1] at e1
      injection e1 with e1
      injection e1 with e1
      subst e1
      exact .inr ⟨_, h1, e2⟩
  | no => cases v with
    | none => exact f.elim
    | some v => cases v with
      | none => exact f.elim
      | some v => cases v <;> exact f.elim
  | sh d => cases v with
    | none => exact f.elim
    | some v => cases v with
      | none => exact f.elim
      | some v => cases v <;> exact f.elim
  | ow ds =>
    obtain ⟨r, xs, rfl, h1, h2, h3⟩ := hs
    exact f
  | dk ds =>
    obtain ⟨r, xs, rfl, h1, h2, h3⟩ := hs
    exact f

/-- the general step of the heap: the owned are kept -/
theorem Sat.keep {G' : Hp} (S : Sat c Hs G H σ δ) (f : Frm c Hs' G' H') (e : Same Hs Hs') (k : ∀ (j : Nat) (s : Sl) (b : Addr) (o : HO), δ[j]? = some s → Foot H σ[j]? s b → H b = some o → H' b = some o)
    (n : ∀ (j : Nat) (s : Sl) (b : Addr), δ[j]? = some s → Foot H σ[j]? s b → Hs' b = none) (g : ∀ (j : Nat) (s : Sl) (b : Addr), δ[j]? = some s → Foot H σ[j]? s b → G' b = none) : Sat c Hs' G' H' σ δ where
  toFrm := f
  ln := S.ln
  sl := fun j s hj => slok_keep (S.sl j s hj) e (fun b o => k j s b o hj) (fun b => n j s b hj) (fun b => g j s b hj)
  sp := fun j l s t b ne hj hl f1 f2 => S.sp j l s t b ne hj hl (foot_keep (S.sl j s hj) (fun b o => k j s b o hj) f1) (foot_keep (S.sl l t hl) (fun b o => k l t b o hl) f2)
  mo := S.mo
theorem Sat.fresh_G (S : Frm c Hs G H) (h : H p = none) : G p = none := by
  cases q : G p with
  | none => rfl
  | some o => rw [S.gm p o q] at h; cases h
theorem Sat.fresh_s (S : Frm c Hs G H) (h : H p = none) : Hs p = none := by
  cases q : Hs p with
  | none => rfl
  | some o => rw [S.sh p o q] at h; cases h
theorem Sat.fresh_in (S : Frm c Hs G H) (h : H p = none) : c.Hin p = none := by
  cases q : c.Hin p with
  | none => rfl
  | some o =>
    obtain ⟨o', e⟩ := S.hin p o q
    rw [e] at h; cases h
theorem same_new {H : Hp} {p : Addr} {o : HO} (h : H p = none) : Same H (upd H p o) := fun b u e => by rw [upd_ne (ne_of_none e h)]; exact e
/-- a new stable object -/
theorem Frm.new (S : Frm c Hs G H) (h : H p = none) : Frm c (upd Hs p o) G (upd H p o) where
  bs := S.bs.trans (same_new (Sat.fresh_s S h))
  sh := fun b u e => by
    by_cases hb : b = p
    · subst hb; rw [upd_same] at e ⊢; exact e
    · rw [upd_ne hb] at e ⊢; exact S.sh b u e
  gm := S.gm.trans (same_new h)
  nw := fun b u e => by
    by_cases hb : b = p
    · subst hb; exact .inr (Sat.fresh_in S h)
    · rw [upd_ne hb] at e; exact S.nw b u e
  hin := fun b u e => by
    obtain ⟨u', e'⟩ := S.hin b u e
    by_cases hb : b = p
    · subst hb; exact ⟨o, upd_same⟩
    · exact ⟨u', by rw [upd_ne hb]; exact e'⟩
  gs := fun b u u' e e' => by
    by_cases hb : b = p
    · subst hb; rw [Sat.fresh_G S h] at e; cases e
    · rw [upd_ne hb] at e'; exact S.gs b u u' e e'
theorem Sat.new (S : Sat c Hs G H σ δ) (h : H p = none) : Sat c (upd Hs p o) G (upd H p o) σ δ :=
  S.keep (S.toFrm.new h) (same_new (Sat.fresh_s S.toFrm h)) (fun j s b u _ _ e => same_new h b u e)
    (fun j s b hj f => by
      obtain ⟨w, u, e⟩ := foot_own (S.sl j s hj) f
      rw [upd_ne (ne_of_none e h)]; exact w.1)
    (fun j s b hj f => (foot_own (S.sl j s hj) f).1.2.1)
/-- a new object that nobody owns yet -/
theorem Frm.loose (S : Frm c Hs G H) (h : H p = none) : Frm c Hs G (upd H p o) where
  bs := S.bs
  sh := S.sh.trans (same_new h)
  gm := S.gm.trans (same_new h)
  nw := S.nw
  hin := fun b u e => by
    obtain ⟨u', e'⟩ := S.hin b u e
    by_cases hb : b = p
    · subst hb; exact ⟨o, upd_same⟩
    · exact ⟨u', by rw [upd_ne hb]; exact e'⟩
  gs := S.gs
theorem Sat.loose (S : Sat c Hs G H σ δ) (h : H p = none) : Sat c Hs G (upd H p o) σ δ :=
  S.keep (S.toFrm.loose h) (Same.refl _) (fun j s b u _ _ e => same_new h b u e)
    (fun j s b hj f => (foot_own (S.sl j s hj) f).1.1) (fun j s b hj f => (foot_own (S.sl j s hj) f).1.2.1)

/-- a list that nobody owns yet -/
structure Loose (c : DC) (Hs G H : Hp) (σ : St) (δ : En) (p : Addr) : Prop where
  s : Hs p = none
  g : G p = none
  i : c.Hin p = none
  f : ∀ (j : Nat) (s : Sl), δ[j]? = some s → ¬ Foot H σ[j]? s p
theorem Sat.loose_of (S : Sat c Hs G H σ δ) (h : H p = none) : Loose c Hs G (upd H p o) σ δ p where
  s := Sat.fresh_s S.toFrm h
  g := Sat.fresh_G S.toFrm h
  i := Sat.fresh_in S.toFrm h
  f := fun j s hj f => by
    have f' := foot_keep (H' := upd H p o) (S.sl j s hj) (fun b u _ e => same_new h b u e) f
    obtain ⟨_, u, e⟩ := foot_own (S.sl j s hj) f'
    rw [h] at e; cases e
/-- a loose list becomes stable -/
theorem Sat.freeze (S : Sat c Hs G H σ δ) (L : Loose c Hs G H σ δ p) (h : H p = some o) : Sat c (upd Hs p o) G H σ δ :=
  S.keep ⟨S.bs.trans (same_new L.s), fun b u e => by
      by_cases hb : b = p
      · subst hb; rw [upd_same] at e; rw [h]; exact e
      · rw [upd_ne hb] at e; exact S.sh b u e, S.gm, fun b u e => by
      by_cases hb : b = p
      · subst hb; exact .inr L.i
      · rw [upd_ne hb] at e; exact S.nw b u e, S.hin, fun b u u' e e' => by
      by_cases hb : b = p
      · subst hb; rw [L.g] at e; cases e
      · rw [upd_ne hb] at e'; exact S.gs b u u' e e'⟩ (same_new L.s) (fun _ _ _ _ _ _ e => e)
    (fun j s b hj f => by
      by_cases hb : b = p
      · subst hb; exact (L.f j s hj f).elim
      · rw [upd_ne hb]; exact (foot_own (S.sl j s hj) f).1.1)
    (fun j s b hj f => (foot_own (S.sl j s hj) f).1.2.1)

theorem foot_set_ne {j : Nat} {w : Option V} (h : j ≠ i) : (σ.set i w)[j]? = σ[j]? := List.getElem?_set_ne (Ne.symm h)
theorem foot_sh {v : Option (Option V)} (f : Foot H v (.sh d) a) : False := by
  cases v with
  | none => exact f
  | some z => cases z with
    | none => exact f
    | some z => cases z <;> exact f
theorem foot_no {v : Option (Option V)} (f : Foot H v .no a) : False := by
  cases v with
  | none => exact f
  | some z => cases z with
    | none => exact f
    | some z => cases z <;> exact f
/-- a name is given anything -/
theorem Sat.setAny {s' : Sl} {v : Option V} (S : Sat c Hs G H σ δ) (hi : i ∉ c.mi) (ok : SlOk c Hs G H i (some v) s') (sep : ∀ (j : Nat) (t : Sl) (b : Addr), δ[j]? = some t → Foot H (some v) s' b → Foot H σ[j]? t b → False) :
    Sat c Hs G H (σ.set i v) (δ.set i s') := by
  have at_i : ∀ (s : Sl), (δ.set i s')[i]? = some s → s = s' ∧ (σ.set i v)[i]? = some v := fun s hj => by
    have hlt : i < δ.length := by
      have := (List.getElem?_eq_some_iff.mp hj).1
      simpa using this
    rw [List.getElem?_set_self hlt] at hj
    cases hj
    exact ⟨rfl, List.getElem?_set_self (by rw [← S.ln]; exact hlt)⟩
  refine ⟨S.toFrm, by simp [S.ln], fun j s hj => ?_, fun j l s t b ne hj hl f1 f2 => ?_, fun j hj => ?_⟩
  · by_cases hji : j = i
    · subst hji
      obtain ⟨e1, e2⟩ := at_i s hj
      rw [e1, e2]
      exact ok
    · rw [List.getElem?_set_ne (Ne.symm hji)] at hj
      rw [foot_set_ne hji]
      exact S.sl j s hj
  · by_cases hji : j = i
    · subst hji
      obtain ⟨e1, e2⟩ := at_i s hj
      rw [e1, e2] at f1
      rw [List.getElem?_set_ne ne] at hl
      rw [foot_set_ne (Ne.symm ne)] at f2
      exact sep l t b hl f1 f2
    · rw [List.getElem?_set_ne (Ne.symm hji)] at hj
      rw [foot_set_ne hji] at f1
      by_cases hli : l = i
      · subst hli
        obtain ⟨e1, e2⟩ := at_i t hl
        rw [e1, e2] at f2
        exact sep j s b hj f2 f1
      · rw [List.getElem?_set_ne (Ne.symm hli)] at hl
        rw [foot_set_ne hli] at f2
        exact S.sp j l s t b ne hj hl f1 f2
  · obtain ⟨es, e⟩ := S.mo j hj
    refine ⟨es, ?_⟩
    rw [List.getElem?_set_ne (by rintro rfl; exact hi hj)]
    exact e
theorem Sat.setSh (S : Sat c Hs G H σ δ) (hi : i ∉ c.mi) (r : Rp c.K Hs v d) : Sat c Hs G H (σ.set i (some v)) (δ.set i (.sh d)) :=
  S.setAny hi ⟨v, rfl, r⟩ fun _ _ _ _ f _ => foot_sh f
theorem Sat.setNo {w : Option V} (S : Sat c Hs G H σ δ) (hi : i ∉ c.mi) : Sat c Hs G H (σ.set i w) (δ.set i .no) :=
  S.setAny hi trivial fun _ _ _ _ f _ => foot_no f
theorem Sat.setOw {xs : List V} (S : Sat c Hs G H σ δ) (hi : i ∉ c.mi) (L : Loose c Hs G H σ δ p) (h : H p = some (.lst xs)) (r : RpAll c.K Hs xs ds) : Sat c Hs G H (σ.set i (some (.ref p))) (δ.set i (.ow ds)) :=
  S.setAny hi ⟨p, xs, rfl, h, r, L.s, L.g, .inr ⟨hi, L.i⟩⟩ fun j t b hj f1 f2 => by
    have e : b = p := f1
    subst e
    exact L.f j t hj f2
theorem Sat.setDk {ks : List (Key × V)} {kvs : List (Key × D)} (S : Sat c Hs G H σ δ) (hi : i ∉ c.mi) (L : Loose c Hs G H σ δ p) (h : H p = some (.dK ks)) (r : KVd c.K Hs ks kvs) : Sat c Hs G H (σ.set i (some (.ref p))) (δ.set i (.dk kvs)) :=
  S.setAny hi ⟨p, ks, rfl, h, r, L.s, L.g, .inr ⟨hi, L.i⟩⟩ fun j t b hj f1 f2 => by
    have e : b = p := f1
    subst e
    exact L.f j t hj f2
/-- what slot i owns is changed -/
theorem Sat.write {s s' : Sl} (S : Sat c Hs G H σ δ) (hi : δ[i]? = some s) (fa : Foot H σ[i]? s a) (ok : SlOk c Hs G (upd H a o) i σ[i]? s') (sub : ∀ b, Foot (upd H a o) σ[i]? s' b → Foot H σ[i]? s b ∨ Loose c Hs G H σ δ b)
    (mo : i ∈ c.mi → ∃ ds, s' = .ow ds) : Sat c Hs G (upd H a o) σ (δ.set i s') := by
  obtain ⟨w, u, hu⟩ := foot_own (S.sl i s hi) fa
  have hlt : i < δ.length := (List.getElem?_eq_some_iff.mp hi).1
  have oth : ∀ (j : Nat) (t : Sl) (b : Addr) (o' : HO), j ≠ i → δ[j]? = some t → Foot H σ[j]? t b → H b = some o' → upd H a o b = some o' := fun j t b o' ne hj f e => by
    rw [upd_ne (by rintro rfl; exact S.sp j i t s b ne hj hi f fa)]
    exact e
  refine ⟨⟨S.bs, fun b u e => ?_, fun b u e => ?_, S.nw, fun b u e => ?_, S.gs⟩, by simp [S.ln], fun j t hj => ?_, fun j l t t' b ne hj hl f1 f2 => ?_, fun j hj => ?_⟩
  · rw [upd_ne (by rintro rfl; rw [w.1] at e; cases e)]; exact S.sh b u e
  · rw [upd_ne (by rintro rfl; rw [w.2.1] at e; cases e)]; exact S.gm b u e
  · obtain ⟨u', e'⟩ := S.hin b u e
    by_cases hb : b = a
    · subst hb; exact ⟨o, upd_same⟩
    · exact ⟨u', by rw [upd_ne hb]; exact e'⟩
  · by_cases hji : j = i
    · subst hji
      rw [List.getElem?_set_self hlt] at hj
      cases hj
      exact ok
    · rw [List.getElem?_set_ne (Ne.symm hji)] at hj
      exact slok_keep (S.sl j t hj) (Same.refl _) (fun b o' f e => oth j t b o' hji hj f e) (fun b f => (foot_own (S.sl j t hj) f).1.1) fun b f => (foot_own (S.sl j t hj) f).1.2.1
  · have back : ∀ (j : Nat) (t : Sl), j ≠ i → δ[j]? = some t → Foot (upd H a o) σ[j]? t b → Foot H σ[j]? t b := fun j t hji hj f => foot_keep (S.sl j t hj) (fun b o' f e => oth j t b o' hji hj f e) f
    by_cases hji : j = i
    · subst hji
      rw [List.getElem?_set_self hlt] at hj
      cases hj
      rw [List.getElem?_set_ne ne] at hl
      have g2 := back l t' (Ne.symm ne) hl f2
      rcases sub b f1 with f | L
      · exact S.sp j l s t' b ne hi hl f g2
      · exact L.f l t' hl g2
    · rw [List.getElem?_set_ne (Ne.symm hji)] at hj
      have g1 := back j t hji hj f1
      by_cases hli : l = i
      · subst hli
        rw [List.getElem?_set_self hlt] at hl
        cases hl
        rcases sub b f2 with f | L
        · exact S.sp j l t s b ne hj hi g1 f
        · exact L.f j t hj g1
      · rw [List.getElem?_set_ne (Ne.symm hli)] at hl
        exact S.sp j l t t' b ne hj hl g1 (back l t' hli hl f2)
  · by_cases hji : j = i
    · subst hji
      obtain ⟨es, e⟩ := mo hj
      exact ⟨es, by rw [List.getElem?_set_self hlt, e]⟩
    · obtain ⟨es, e⟩ := S.mo j hj
      exact ⟨es, by rw [List.getElem?_set_ne (Ne.symm hji)]; exact e⟩
/-- an owned list is changed -/
theorem Sat.writeOw {xs : List V} {es : List D} (S : Sat c Hs G H σ δ) (hi : δ[i]? = some (.ow ds)) (ha : σ[i]? = some (some (.ref a))) (r : RpAll c.K Hs xs es) : Sat c Hs G (upd H a (.lst xs)) σ (δ.set i (.ow es)) := by
  obtain ⟨r', ys, e1, h1, h2, h3⟩ := S.sl i _ hi
  rw [ha] at e1
  cases e1
  refine S.write (s' := .ow es) hi (by rw [ha]; rfl) ⟨a, xs, ha, upd_same, r, h3⟩ (fun b f => .inl ?_) fun _ => ⟨es, rfl⟩
  rw [ha] at f ⊢
  exact f
/-- the names' slot is frozen -/
noncomputable def frz (H Hs : Hp) (F : Addr → Prop) : Hp := fun b => open Classical in if F b then H b else Hs b
theorem Sat.freezeAny {s : Sl} (S : Sat c Hs G H σ δ) (hi : δ[i]? = some s) (hm : i ∉ c.mi) (hv : σ[i]? = some (some v)) (r : Same Hs (frz H Hs (Foot H σ[i]? s)) → Rp c.K (frz H Hs (Foot H σ[i]? s)) v d) :
    ∃ Hs', Same Hs Hs' ∧ Sat c Hs' G H σ (δ.set i (.sh d)) ∧ Rp c.K Hs' v d := by
  have hlt : i < δ.length := (List.getElem?_eq_some_iff.mp hi).1
  have at_f : ∀ b, Foot H σ[i]? s b → frz H Hs (Foot H σ[i]? s) b = H b := fun b f => by unfold frz; rw [if_pos f]
  have at_n : ∀ b, ¬ Foot H σ[i]? s b → frz H Hs (Foot H σ[i]? s) b = Hs b := fun b f => by unfold frz; rw [if_neg f]
  have e : Same Hs (frz H Hs (Foot H σ[i]? s)) := fun b u q => by
    by_cases f : Foot H σ[i]? s b
    · rw [at_f b f]; exact S.sh b u q
    · rw [at_n b f]; exact q
  refine ⟨_, e, ⟨⟨S.bs.trans e, fun b u q => ?_, S.gm, fun b u q => ?_, S.hin, fun b u u' q q' => ?_⟩, by simp [S.ln], fun j t hj => ?_, fun j l t t' b ne hj hl f1 f2 => ?_, fun j hj => ?_⟩, r e⟩
  · by_cases f : Foot H σ[i]? s b
    · rw [at_f b f] at q; exact q
    · rw [at_n b f] at q; exact S.sh b u q
  · by_cases f : Foot H σ[i]? s b
    · rcases (foot_own (S.sl i s hi) f).1.2.2 with z | z
      · exact absurd z.1 hm
      · exact .inr z.2
    · rw [at_n b f] at q; exact S.nw b u q
  · by_cases f : Foot H σ[i]? s b
    · rw [(foot_own (S.sl i s hi) f).1.2.1] at q; cases q
    · rw [at_n b f] at q'; exact S.gs b u u' q q'
  · by_cases hji : j = i
    · subst hji
      rw [List.getElem?_set_self hlt] at hj
      cases hj
      exact ⟨v, hv, r e⟩
    · rw [List.getElem?_set_ne (Ne.symm hji)] at hj
      exact slok_keep (S.sl j t hj) e (fun _ _ _ q => q) (fun b f => by
        rw [at_n b fun f2 => S.sp j i t s b hji hj hi f f2]
        exact (foot_own (S.sl j t hj) f).1.1) fun b f => (foot_own (S.sl j t hj) f).1.2.1
  · by_cases hji : j = i
    · subst hji
      rw [List.getElem?_set_self hlt] at hj
      cases hj
      exact foot_sh f1
    · rw [List.getElem?_set_ne (Ne.symm hji)] at hj
      by_cases hli : l = i
      · subst hli
        rw [List.getElem?_set_self hlt] at hl
        cases hl
        exact foot_sh f2
      · rw [List.getElem?_set_ne (Ne.symm hli)] at hl
        exact S.sp j l t t' b ne hj hl f1 f2
  · obtain ⟨es, q⟩ := S.mo j hj
    exact ⟨es, by rw [List.getElem?_set_ne (by rintro rfl; exact hm hj)]; exact q⟩
theorem Sat.freezeOw (S : Sat c Hs G H σ δ) (hi : δ[i]? = some (.ow ds)) (hm : i ∉ c.mi) : ∃ v Hs', σ[i]? = some (some v) ∧ Same Hs Hs' ∧ Sat c Hs' G H σ (δ.set i (.sh (.list ds))) ∧ Rp c.K Hs' v (.list ds) := by
  obtain ⟨r, xs, e1, h1, h2, h3⟩ := S.sl i _ hi
  obtain ⟨Hs', q1, q2, q3⟩ := S.freezeAny (d := .list ds) hi hm e1 fun e => .lst (SqL.of (by
    unfold frz
    rw [e1, if_pos (show Foot H (some (some (.ref r))) (.ow ds) r from rfl)]
    exact h1)) (dpa_mono e h2)
  exact ⟨_, Hs', e1, q1, q2, q3⟩
theorem Sat.freezeOw2 {dss : List (List D)} (S : Sat c Hs G H σ δ) (hi : δ[i]? = some (.ow2 dss)) (hm : i ∉ c.mi) : ∃ v Hs', σ[i]? = some (some v) ∧ Same Hs Hs' ∧ Sat c Hs' G H σ (δ.set i (.sh (.list (dss.map .list)))) ∧ Rp c.K Hs' v (.list (dss.map .list)) := by
  obtain ⟨r, rs, e1, h1, h2, h3, h4⟩ := S.sl i _ hi
  obtain ⟨Hs', q1, q2, q3⟩ := S.freezeAny (d := .list (dss.map .list)) hi hm e1 fun e => by
    refine .lst (xs := rs.map V.ref) (SqL.of ?_) ?_
    · unfold frz
      rw [e1, if_pos (show Foot H (some (some (.ref r))) (.ow2 dss) r from .inl rfl)]
      exact h1
    · have fm : ∀ b ∈ rs, Foot H (some (some (.ref r))) (.ow2 dss) b := fun b hb => .inr ⟨_, h1, List.mem_map.mpr ⟨b, hb, rfl⟩⟩
      rw [e1] at e ⊢
      clear h1 h3 hi
      generalize Foot H (some (some (.ref r))) (.ow2 dss) = F at *
      induction h4 with
      | nil => exact .nil
      | @cons a ds rs' dss' h5 h6 ih =>
        obtain ⟨xs, p1, p2, p3⟩ := h5
        refine .cons (.lst (xs := xs) (SqL.of ?_) (dpa_mono e p2)) (ih fun b hb => fm b (List.mem_cons_of_mem _ hb))
        unfold frz
        rw [if_pos (fm a List.mem_cons_self)]
        exact p1
  exact ⟨_, Hs', e1, q1, q2, q3⟩
end
end DL

/-! DL1: readings over data: expressions, tests, arguments -/
namespace DL
open PySem L2

def Re.bd {α β : Type} : Re α → (α → Re β) → Re β
  | .bad, _ => .bad
  | .er e, _ => .er e
  | .ok a, f => f a
@[simp] theorem Re.bd_bad {α β : Type} (f : α → Re β) : Re.bd .bad f = .bad := (rfl)
@[simp] theorem Re.bd_er {α β : Type} (e : Er) (f : α → Re β) : Re.bd (.er e) f = .er e := (rfl)
@[simp] theorem Re.bd_ok {α β : Type} (a : α) (f : α → Re β) : Re.bd (.ok a) f = f a := (rfl)
def opt {α : Type} : Option α → Re α
  | none => .bad
  | some a => .ok a
@[simp] theorem opt_none {α : Type} : opt (none : Option α) = .bad := (rfl)
@[simp] theorem opt_some {α : Type} (a : α) : opt (some a) = .ok a := (rfl)
/-- an expression without effects on the names -/
def Pu {α : Type} (f : En → Re α) : En → Re (α × En) := fun δ => (f δ).bd fun a => .ok (a, δ)

/-- what is wished of an exception -/
def XOk (c : DC) (E : XK) (Hs H : Hp) (e : Er) : Prop := match e.pay with
  | none => ∀ C, c.mg e.cls = some (.ref C) → E (.ref C) none H
  | some (f, d) => ∀ C dx v, c.mg e.cls = some (.ref C) → H dx = some (.xd [(f, v)]) → Rp c.K Hs v d → E (.ref C) (some dx) H
def PoG {α : Type} (c : DC) (E : XK) (Hs G : Hp) (W : α → En → Hp → Hp → Prop) : Re (α × En) → Prop
  | .bad => False
  | .er e => ∀ Hs' H', Same Hs Hs' → Frm c Hs' G H' → XOk c E Hs' H' e
  | .ok (a, δ') => ∀ Hs' H', Same Hs Hs' → W a δ' Hs' H'
/-- an expression: stable data -/
def tD (c : DC) (E : XK) (f : En → Re (D × En)) : TE := fun σ H Q => ∃ Hs G δ, Sat c Hs G H σ δ ∧
  PoG c E Hs G (fun d δ' Hs' H' => ∀ v, Sat c Hs' G H' σ δ' → Rp c.K Hs' v d → Q v H') (f δ)
/-- .. a list that nobody owns yet -/
def tF (c : DC) (E : XK) (f : En → Re (List D × En)) : TE := fun σ H Q => ∃ Hs G δ, Sat c Hs G H σ δ ∧
  PoG c E Hs G (fun ds δ' Hs' H' => ∀ p xs, Sat c Hs' G H' σ δ' → Loose c Hs' G H' σ δ' p → H' p = some (.lst xs) → RpAll c.K Hs' xs ds → Q (.ref p) H') (f δ)
def tT (c : DC) (E : XK) (f : En → Re (Bool × En)) : TT := fun σ H Q => ∃ Hs G δ, Sat c Hs G H σ δ ∧
  PoG c E Hs G (fun b δ' Hs' H' => Sat c Hs' G H' σ δ' → Q b H') (f δ)
def tA (c : DC) (E : XK) (f : En → Re (List D × En)) : TA := fun σ H Q => ∃ Hs G δ, Sat c Hs G H σ δ ∧
  PoG c E Hs G (fun ds δ' Hs' H' => ∀ vs, Sat c Hs' G H' σ δ' → RpAll c.K Hs' vs ds → Q vs H') (f δ)

theorem PE.imp {X : Cx} {e : Expr} {t t' : TE} (h : PE X e t) (w : ∀ σ H Q, t' σ H Q → t σ H Q) : PE X e t' := ⟨fun pins s σ H Q I q => h.run pins s σ H Q I (w σ H Q q)⟩
theorem PT.imp {X : Cx} {e : Expr} {t t' : TT} (h : PT X e t) (w : ∀ σ H Q, t' σ H Q → t σ H Q) : PT X e t' := ⟨fun pins s σ H Q I q => h.run pins s σ H Q I (w σ H Q q)⟩
theorem PW.imp {X : Cx} {e : Expr} {t t' : TT} (h : PW X e t) (w : ∀ σ H Q, t' σ H Q → t σ H Q) : PW X e t' := ⟨fun whole pins s σ H Q I q => h.run whole pins s σ H Q I (w σ H Q q)⟩
theorem PA.imp {X : Cx} {es : List Expr} {t t' : TA} (h : PA X es t) (w : ∀ σ H Q, t' σ H Q → t σ H Q) : PA X es t' := ⟨fun pos pins s σ H Q I q => h.run pos pins s σ H Q I (w σ H Q q)⟩
theorem PS.imp {X : Cx} {e : Stmt} {t t' : TS} (h : PS X e t) (w : ∀ σ H Q, t' Q σ H → t Q σ H) : PS X e t' := ⟨fun pins s σ H Q I q => h.run pins s σ H Q I (w σ H Q q)⟩
theorem PSs.imp {X : Cx} {e : List Stmt} {t t' : TS} (h : PSs X e t) (w : ∀ σ H Q, t' Q σ H → t Q σ H) : PSs X e t' := ⟨fun pins s σ H Q I q => h.run pins s σ H Q I (w σ H Q q)⟩

/-- two steps in a row -/
theorem PoG.bind {α β : Type} {c : DC} {E : XK} {Hs G : Hp} {W : α → En → Hp → Hp → Prop} {W' : β → En → Hp → Hp → Prop} {r : Re (α × En)} {k : α × En → Re (β × En)} (h : PoG c E Hs G W' (r.bd k))
    (w : ∀ a δ', r = .ok (a, δ') → ∀ Hs' H', Same Hs Hs' → PoG c E Hs' G W' (k (a, δ')) → W a δ' Hs' H') (mono : ∀ x Hs', Same Hs Hs' → PoG c E Hs G W' x → PoG c E Hs' G W' x) : PoG c E Hs G W r := by
  cases r with
  | bad => exact h
  | er e => exact h
  | ok p => exact fun Hs' H' s => w p.1 p.2 rfl Hs' H' s (mono _ Hs' s h)
theorem PoG.mono {α : Type} {c : DC} {E : XK} {Hs Hs' G : Hp} {W : α → En → Hp → Hp → Prop} (e : Same Hs Hs') {x : Re (α × En)} (h : PoG c E Hs G W x) : PoG c E Hs' G W x := by
  cases x with
  | bad => exact h
  | er e' => exact fun Hs2 H2 s2 => h Hs2 H2 (e.trans s2)
  | ok p => exact fun Hs2 H2 s2 => h Hs2 H2 (e.trans s2)
theorem PoG.imp {α : Type} {c : DC} {E : XK} {Hs G : Hp} {W W' : α → En → Hp → Hp → Prop} {x : Re (α × En)} (h : PoG c E Hs G W x) (w : ∀ a δ' Hs' H', W a δ' Hs' H' → W' a δ' Hs' H') : PoG c E Hs G W' x := by
  cases x with
  | bad => exact h
  | er e' => exact h
  | ok p => exact fun Hs2 H2 s2 => w _ _ _ _ (h Hs2 H2 s2)
/-- the step with its follower -/
theorem PoG.seq {α β : Type} {c : DC} {E : XK} {Hs G : Hp} {W : α → En → Hp → Hp → Prop} {W' : β → En → Hp → Hp → Prop} {r : Re (α × En)} {k : α × En → Re (β × En)} (h : PoG c E Hs G W' (r.bd k))
    (w : ∀ a δ' Hs' H', Same Hs Hs' → PoG c E Hs' G W' (k (a, δ')) → W a δ' Hs' H') : PoG c E Hs G W r :=
  PoG.bind h (fun a δ' _ Hs' H' s q => w a δ' Hs' H' s q) fun _ _ s q => q.mono s
/-- the last step -/
theorem PoG.last {α β : Type} {c : DC} {E : XK} {Hs G : Hp} {W' : β → En → Hp → Hp → Prop} {z : Option α} {k : α → β × En} (h : PoG c E Hs G W' ((opt z).bd fun d => .ok (k d))) : ∃ d, z = some d ∧ ∀ Hs' H', Same Hs Hs' → W' (k d).1 (k d).2 Hs' H' := by
  cases z with
  | none => exact False.elim h
  | some d => exact ⟨d, rfl, h⟩

section
variable {X : Cx} {c : DC} {E : XK} {e a b : Expr} {pos : Pos}

/-! ### names, constants -/
def pV (i : Nat) : En → Re D := fun δ => match δ[i]? with
  | some (.sh d) => .ok d
  | _ => .bad
def pK (d : D) : En → Re D := fun _ => .ok d
theorem dp_var {i : Nat} (h : PE X e (tVar i)) : PE X e (tD c E (Pu (pV i))) := PE.imp h fun σ H Q ⟨Hs, G, δ, S, q⟩ => by
  unfold Pu pV at q
  cases hi : δ[i]? with
  | none => rw [hi] at q; exact q.elim
  | some s =>
    rw [hi] at q
    cases s with
    | sh d =>
      obtain ⟨v, e1, r⟩ := S.sl i _ hi
      exact ⟨v, e1, q Hs H (Same.refl _) v S r⟩
    | no => exact q.elim
    | ow _ => exact q.elim
    | ow2 _ => exact q.elim
    | dk _ => exact q.elim
theorem dp_c {v : V} {d : D} (h : PE X e (tC v)) (r : ∀ Hs, Rp c.K Hs v d) : PE X e (tD c E (Pu (pK d))) := PE.imp h fun σ H Q ⟨Hs, G, δ, S, q⟩ => q Hs H (Same.refl _) v S (r _)
theorem dp_int {i : Int} {j : Nat} : PE X (.Constant (.int i) j pos) (tD c E (Pu (pK (.int i)))) := dp_c pe_int fun _ => .int i
theorem dp_bl {i : Bool} {j : Nat} : PE X (.Constant (.bool i) j pos) (tD c E (Pu (pK (.bool i)))) := dp_c pe_bl fun _ => .bl i
theorem dp_non {j : Nat} : PE X (.Constant .none j pos) (tD c E (Pu (pK .none))) := dp_c pe_non fun _ => .non
theorem dp_str {i : Str} {j : Nat} : PE X (.Constant (.str i) j pos) (tD c E (Pu (pK (.str i)))) := dp_c pe_str fun _ => .str i

/-! ### from a loose list to stable data -/
def fz (f : En → Re (List D × En)) : En → Re (D × En) := fun δ => (f δ).bd fun p => .ok (.list p.1, p.2)
theorem de_frz {f : En → Re (List D × En)} (h : PE X e (tF c E f)) : PE X e (tD c E (fz f)) := PE.imp h fun σ H Q ⟨Hs, G, δ, S, q⟩ => ⟨Hs, G, δ, S, PoG.seq q fun ds δ' Hs' H' s q p xs S' L h r => by
  exact q (upd Hs' p (.lst xs)) H' (same_new L.s) (.ref p) (S'.freeze L h) (.lst (SqL.of upd_same) (dpa_mono (same_new L.s) r))⟩

/-! ### operators by values -/
/-- an operation on values that answers stable data -/
def VOp2 (c : DC) (r : R2) (g : D → D → Option D) : Prop := ∀ (Hs G H : Hp) (σ : St) (δ : En) (x y : V) (dx dy d : D), Sat c Hs G H σ δ → Rp c.K Hs x dx → Rp c.K Hs y dy → g dx dy = some d → ∀ Q : VK,
  (∀ v Hs' H', Same Hs Hs' → Sat c Hs' G H' σ δ → Rp c.K Hs' v d → Q v H') → r x y H Q
/-- .. a loose list -/
def VOp2F (c : DC) (r : R2) (g : D → D → Option (List D)) : Prop := ∀ (Hs G H : Hp) (σ : St) (δ : En) (x y : V) (dx dy : D) (d : List D), Sat c Hs G H σ δ → Rp c.K Hs x dx → Rp c.K Hs y dy → g dx dy = some d → ∀ Q : VK,
  (∀ p xs Hs' H', Same Hs Hs' → Sat c Hs' G H' σ δ → Loose c Hs' G H' σ δ p → H' p = some (.lst xs) → RpAll c.K Hs' xs d → Q (.ref p) H') → r x y H Q
theorem OpR.or {f : Value → Value → Sem Value} {r r' : R2} (h : OpR X f r) (h' : OpR X f r') : OpR X f (fun x y H Q => r x y H Q ∨ r' x y H Q) := by
  intro pins s σ H x y v u Q I rx ry q
  rcases q with q | q
  · exact h pins s σ H x y v u Q I rx ry q
  · exact h' pins s σ H x y v u Q I rx ry q
def eOp {α : Type} (g : D → D → Option α) (fa fb : En → Re (D × En)) : En → Re (α × En) := fun δ => (fa δ).bd fun p => (fb p.2).bd fun q => (opt (g p.1 q.1)).bd fun d => .ok (d, q.2)
def pOp {α : Type} (g : D → D → Option α) (fa fb : En → Re D) : En → Re α := fun δ => (fa δ).bd fun x => (fb δ).bd fun y => opt (g x y)
theorem eOp_pu {α : Type} (g : D → D → Option α) (fa fb : En → Re D) : eOp g (Pu fa) (Pu fb) = Pu (pOp g fa fb) := by
  funext δ
  unfold eOp Pu pOp
  cases fa δ with
  | ok x =>
    simp only [Re.bd_ok]
    cases fb δ with
    | ok y => rfl
    | _ => rfl
  | _ => rfl
section
variable {ta tb : TE} {r : R2} {fa fb : En → Re (D × En)}
theorem v_op {g : D → D → Option D} (hr : VOp2 c r g) {σ : St} {H : Hp} {Q : VK} (h : tD c E (eOp g fa fb) σ H Q) : tOp r (tD c E fa) (tD c E fb) σ H Q := by
  obtain ⟨Hs, G, δ, S, q⟩ := h
  refine ⟨Hs, G, δ, S, PoG.seq q fun dx δ1 Hs1 H1 s1 q1 x S1 r1 => ?_⟩
  refine ⟨Hs1, G, δ1, S1, PoG.seq q1 fun dy δ2 Hs2 H2 s2 q2 y S2 r2 => ?_⟩
  obtain ⟨d, hd, q3⟩ := PoG.last (k := fun d => (d, δ2)) q2
  exact hr Hs2 G H2 σ δ2 x y dx dy d S2 (dp_mono s2 r1) r2 hd Q fun v Hs3 H3 s3 S3 r3 => q3 Hs3 H3 s3 v S3 r3
theorem v_opF {g : D → D → Option (List D)} (hr : VOp2F c r g) {σ : St} {H : Hp} {Q : VK} (h : tF c E (eOp g fa fb) σ H Q) : tOp r (tD c E fa) (tD c E fb) σ H Q := by
  obtain ⟨Hs, G, δ, S, q⟩ := h
  refine ⟨Hs, G, δ, S, PoG.seq q fun dx δ1 Hs1 H1 s1 q1 x S1 r1 => ?_⟩
  refine ⟨Hs1, G, δ1, S1, PoG.seq q1 fun dy δ2 Hs2 H2 s2 q2 y S2 r2 => ?_⟩
  obtain ⟨d, hd, q3⟩ := PoG.last (k := fun d => (d, δ2)) q2
  exact hr Hs2 G H2 σ δ2 x y dx dy d S2 (dp_mono s2 r1) r2 hd Q fun p xs Hs3 H3 s3 S3 L h r3 => q3 Hs3 H3 s3 p xs S3 L h r3
theorem de_bin {op : Operator} {g : D → D → Option D} (ho : OpR X (binaryOp op) r) (hr : VOp2 c r g) (ha : PE X a (tD c E fa)) (hb : PE X b (tD c E fb)) : PE X (.BinOp a op b pos) (tD c E (eOp g fa fb)) :=
  PE.imp (pe_op ho ha hb) fun _ _ _ h => v_op hr h
theorem de_binF {op : Operator} {g : D → D → Option (List D)} (ho : OpR X (binaryOp op) r) (hr : VOp2F c r g) (ha : PE X a (tD c E fa)) (hb : PE X b (tD c E fb)) : PE X (.BinOp a op b pos) (tF c E (eOp g fa fb)) :=
  PE.imp (pe_op ho ha hb) fun _ _ _ h => v_opF hr h
theorem de_cmp {op : CmpOp} {g : D → D → Option D} (ho : OpR X (compareOp op) r) (hr : VOp2 c r g) (ha : PE X a (tD c E fa)) (hb : PE X b (tD c E fb)) (hm : behindInMarks op b = false) : PE X (.Compare a [op] [b] pos) (tD c E (eOp g fa fb)) :=
  PE.imp (pe_cmpR ho ha hb hm) fun _ _ _ h => v_op hr h
end

/-! ### tests -/
/-- a value that is a bool, as a test -/
def eTe (f : En → Re (D × En)) : En → Re (Bool × En) := fun δ => (f δ).bd fun p => match p.1 with
  | .bool b => .ok (b, p.2)
  | _ => .bad
def pTe (f : En → Re D) : En → Re Bool := fun δ => (f δ).bd fun p => match p with
  | .bool b => .ok b
  | _ => .bad
theorem eTe_pu (f : En → Re D) : eTe (Pu f) = Pu (pTe f) := by
  funext δ
  unfold eTe Pu pTe
  cases f δ with
  | ok x => cases x <;> rfl
  | _ => rfl
theorem v_te {f : En → Re (D × En)} {σ : St} {H : Hp} {Q : Bool → Hp → Prop} (h : tT c E (eTe f) σ H Q) : tD c E f σ H (fun x H' => ∃ k, x = .bl k ∧ Q k H') := by
  obtain ⟨Hs, G, δ, S, q⟩ := h
  refine ⟨Hs, G, δ, S, PoG.seq q fun d δ1 Hs1 H1 s1 q1 x S1 r1 => ?_⟩
  cases r1 with
  | bl k => exact ⟨k, rfl, q1 Hs1 H1 (Same.refl _) S1⟩
  | _ => exact False.elim q1
theorem de_test {f : En → Re (D × En)} (h : PE X e (tD c E f)) (he : ∀ whole, isTrue e X.env whole = (do let v ← whole; standAt e.pos; holding [v] (truthy v)) := by intro _; rfl) : PT X e (tT c E (eTe f)) :=
  PT.imp (pt_val h he) fun _ _ _ q => v_te q
theorem de_tcmp {op : CmpOp} {r : R2} {g : D → D → Option D} {fa fb : En → Re (D × En)} (ho : OpR X (compareOp op) r) (hr : VOp2 c r g) (ha : PE X a (tD c E fa)) (hb : PE X b (tD c E fb)) (hm : behindInMarks op b = false) : PT X (.Compare a [op] [b] pos) (tT c E (eTe (eOp g fa fb))) :=
  PT.imp (pt_cmpR ho ha hb hm) fun σ H Q q => by
    have q' := v_te q
    exact v_op (Q := fun x H' => ∃ k, x = .bl k ∧ Q k H') hr q'
def eNot (f : En → Re (Bool × En)) : En → Re (Bool × En) := fun δ => (f δ).bd fun p => .ok (!p.1, p.2)
def eAnd (f g : En → Re (Bool × En)) : En → Re (Bool × En) := fun δ => (f δ).bd fun p => match p.1 with
  | true => g p.2
  | false => .ok (false, p.2)
def eOr (f g : En → Re (Bool × En)) : En → Re (Bool × En) := fun δ => (f δ).bd fun p => match p.1 with
  | true => .ok (true, p.2)
  | false => g p.2
def pNot (f : En → Re Bool) : En → Re Bool := fun δ => (f δ).bd fun p => .ok (!p)
def pAnd (f g : En → Re Bool) : En → Re Bool := fun δ => (f δ).bd fun p => match p with
  | true => g δ
  | false => .ok false
def pOr (f g : En → Re Bool) : En → Re Bool := fun δ => (f δ).bd fun p => match p with
  | true => .ok true
  | false => g δ
theorem eNot_pu (f : En → Re Bool) : eNot (Pu f) = Pu (pNot f) := by
  funext δ; unfold eNot Pu pNot; cases f δ <;> rfl
theorem eAnd_pu (f g : En → Re Bool) : eAnd (Pu f) (Pu g) = Pu (pAnd f g) := by
  funext δ; unfold eAnd Pu pAnd
  cases f δ with
  | ok x =>
    simp only [Re.bd_ok]
    cases x <;> rfl
  | _ => rfl
theorem eOr_pu (f g : En → Re Bool) : eOr (Pu f) (Pu g) = Pu (pOr f g) := by
  funext δ; unfold eOr Pu pOr
  cases f δ with
  | ok x =>
    simp only [Re.bd_ok]
    cases x <;> rfl
  | _ => rfl
variable {f g : En → Re (Bool × En)}
theorem de_not (h : PT X a (tT c E f)) : PT X (.UnaryOp .Not a pos) (tT c E (eNot f)) := PT.imp (pt_not h) fun σ H Q ⟨Hs, G, δ, S, q⟩ =>
  ⟨Hs, G, δ, S, PoG.seq q fun d δ1 Hs1 H1 s1 q1 S1 => q1 Hs1 H1 (Same.refl _) S1⟩
theorem de_and1 (h : PT X a (tT c E f)) : PW X (.BoolOp .And [a] pos) (tT c E f) := pw_and1 h
theorem de_or1 (h : PT X a (tT c E f)) : PW X (.BoolOp .Or [a] pos) (tT c E f) := pw_or1 h
variable {rest : List Expr}
theorem de_and (h : PT X a (tT c E f)) (h2 : PW X (.BoolOp .And (b :: rest) pos) (tT c E g)) : PW X (.BoolOp .And (a :: b :: rest) pos) (tT c E (eAnd f g)) := PW.imp (pw_and h h2) fun σ H Q ⟨Hs, G, δ, S, q⟩ =>
  ⟨Hs, G, δ, S, PoG.seq q fun d δ1 Hs1 H1 s1 q1 S1 => by
    cases d with
    | true =>
      show if true = true then _ else _
      rw [if_pos rfl]
      exact ⟨Hs1, G, δ1, S1, q1⟩
    | false =>
      show if false = true then _ else _
      rw [if_neg Bool.false_ne_true]
      exact q1 Hs1 H1 (Same.refl _) S1⟩
theorem de_or (h : PT X a (tT c E f)) (h2 : PW X (.BoolOp .Or (b :: rest) pos) (tT c E g)) : PW X (.BoolOp .Or (a :: b :: rest) pos) (tT c E (eOr f g)) := PW.imp (pw_or h h2) fun σ H Q ⟨Hs, G, δ, S, q⟩ =>
  ⟨Hs, G, δ, S, PoG.seq q fun d δ1 Hs1 H1 s1 q1 S1 => by
    cases d with
    | false =>
      show if false = true then _ else _
      rw [if_neg Bool.false_ne_true]
      exact ⟨Hs1, G, δ1, S1, q1⟩
    | true =>
      show if true = true then _ else _
      rw [if_pos rfl]
      exact q1 Hs1 H1 (Same.refl _) S1⟩
/-! ### and, or, not as values (bools) -/
/-- a test's answer as a value -/
def eBo (f : En → Re (Bool × En)) : En → Re (D × En) := fun δ => (f δ).bd fun p => .ok (.bool p.1, p.2)
def pBo (f : En → Re Bool) : En → Re D := fun δ => (f δ).bd fun p => .ok (.bool p)
theorem eBo_pu (f : En → Re Bool) : eBo (Pu f) = Pu (pBo f) := by
  funext δ; unfold eBo Pu pBo; cases f δ <;> rfl
section
variable {fa fb : En → Re (D × En)}
theorem de_vone {op : BoolOp} {e : Expr} (h : PE X a (tD c E fa)) : PE X (.BoolOp op [a] pos) (tD c E fa) := pe_one h
theorem de_vand (h : PE X a (tD c E fa)) (h2 : PE X (.BoolOp .And (b :: rest) pos) (tD c E (eBo g))) : PE X (.BoolOp .And (a :: b :: rest) pos) (tD c E (eBo (eAnd (eTe fa) g))) := PE.imp (pe_and h h2) fun σ H Q ⟨Hs, G, δ, S, q⟩ => by
  have q' : PoG c E Hs G (fun d δ' Hs' H' => ∀ v, Sat c Hs' G H' σ δ' → Rp c.K Hs' v d → Q v H') ((fa δ).bd fun p => ((match p.1 with | .bool b => .ok (b, p.2) | _ => .bad : Re (Bool × En)).bd fun p => match p.1 with | true => g p.2 | false => .ok (false, p.2)).bd fun p => .ok (.bool p.1, p.2)) := by
    unfold eBo eAnd eTe at q
    cases h3 : fa δ with
    | ok p => rw [h3] at q; exact q
    | bad => rw [h3] at q; exact q
    | er e => rw [h3] at q; exact q
  refine ⟨Hs, G, δ, S, PoG.seq q' fun d δ1 Hs1 H1 s1 q1 x S1 r1 => ?_⟩
  cases r1 with
  | bl k =>
    refine ⟨k, rfl, ?_⟩
    cases k with
    | true =>
      show if true = true then _ else _
      rw [if_pos rfl]
      exact ⟨Hs1, G, δ1, S1, q1⟩
    | false =>
      show if false = true then _ else _
      rw [if_neg Bool.false_ne_true]
      exact q1 Hs1 H1 (Same.refl _) _ S1 (.bl _)
  | _ => exact False.elim q1
theorem de_vor (h : PE X a (tD c E fa)) (h2 : PE X (.BoolOp .Or (b :: rest) pos) (tD c E (eBo g))) : PE X (.BoolOp .Or (a :: b :: rest) pos) (tD c E (eBo (eOr (eTe fa) g))) := PE.imp (pe_or h h2) fun σ H Q ⟨Hs, G, δ, S, q⟩ => by
  have q' : PoG c E Hs G (fun d δ' Hs' H' => ∀ v, Sat c Hs' G H' σ δ' → Rp c.K Hs' v d → Q v H') ((fa δ).bd fun p => ((match p.1 with | .bool b => .ok (b, p.2) | _ => .bad : Re (Bool × En)).bd fun p => match p.1 with | true => .ok (true, p.2) | false => g p.2).bd fun p => .ok (.bool p.1, p.2)) := by
    unfold eBo eOr eTe at q
    cases h3 : fa δ with
    | ok p => rw [h3] at q; exact q
    | bad => rw [h3] at q; exact q
    | er e => rw [h3] at q; exact q
  refine ⟨Hs, G, δ, S, PoG.seq q' fun d δ1 Hs1 H1 s1 q1 x S1 r1 => ?_⟩
  cases r1 with
  | bl k =>
    refine ⟨k, rfl, ?_⟩
    cases k with
    | false =>
      show if false = true then _ else _
      rw [if_neg Bool.false_ne_true]
      exact ⟨Hs1, G, δ1, S1, q1⟩
    | true =>
      show if true = true then _ else _
      rw [if_pos rfl]
      exact q1 Hs1 H1 (Same.refl _) _ S1 (.bl _)
  | _ => exact False.elim q1
/-- the last of a chain: a bool -/
theorem de_vbo (h : PE X e (tD c E fa)) : PE X e (tD c E (eBo (eTe fa))) := PE.imp h fun σ H Q ⟨Hs, G, δ, S, q⟩ => by
  have q' : PoG c E Hs G (fun d δ' Hs' H' => ∀ v, Sat c Hs' G H' σ δ' → Rp c.K Hs' v d → Q v H') ((fa δ).bd fun p => (match p.1 with | .bool b => .ok (b, p.2) | _ => .bad : Re (Bool × En)).bd fun p => .ok (.bool p.1, p.2)) := by
    unfold eBo eTe at q
    cases h3 : fa δ with
    | ok p => rw [h3] at q; exact q
    | bad => rw [h3] at q; exact q
    | er e => rw [h3] at q; exact q
  refine ⟨Hs, G, δ, S, PoG.seq q' fun d δ1 Hs1 H1 s1 q1 x S1 r1 => ?_⟩
  cases r1 with
  | bl k => exact q1 Hs1 H1 (Same.refl _) _ S1 (.bl _)
  | _ => exact False.elim q1
theorem de_vnot (h : PE X a (tD c E fa)) : PE X (.UnaryOp .Not a pos) (tD c E (eBo (eNot (eTe fa)))) := PE.imp (pe_not h) fun σ H Q ⟨Hs, G, δ, S, q⟩ => by
  have q' : PoG c E Hs G (fun d δ' Hs' H' => ∀ v, Sat c Hs' G H' σ δ' → Rp c.K Hs' v d → Q v H') ((fa δ).bd fun p => ((match p.1 with | .bool b => .ok (b, p.2) | _ => .bad : Re (Bool × En)).bd fun p => .ok (!p.1, p.2)).bd fun p => .ok (.bool p.1, p.2)) := by
    unfold eBo eNot eTe at q
    cases h3 : fa δ with
    | ok p => rw [h3] at q; exact q
    | bad => rw [h3] at q; exact q
    | er e => rw [h3] at q; exact q
  refine ⟨Hs, G, δ, S, PoG.seq q' fun d δ1 Hs1 H1 s1 q1 x S1 r1 => ?_⟩
  cases r1 with
  | bl k => exact ⟨k, rfl, q1 Hs1 H1 (Same.refl _) _ S1 (.bl _)⟩
  | _ => exact False.elim q1
/-! ### a if t else b -/
def eIf {α : Type} (t : En → Re (Bool × En)) (fa fb : En → Re (α × En)) : En → Re (α × En) := fun δ => (t δ).bd fun p => match p.1 with
  | true => fa p.2
  | false => fb p.2
def pIf {α : Type} (t : En → Re Bool) (fa fb : En → Re α) : En → Re α := fun δ => (t δ).bd fun p => match p with
  | true => fa δ
  | false => fb δ
theorem eIf_pu {α : Type} (t : En → Re Bool) (fa fb : En → Re α) : eIf (Pu t) (Pu fa) (Pu fb) = Pu (pIf t fa fb) := by
  funext δ; unfold eIf Pu pIf
  cases t δ with
  | ok x => cases x <;> rfl
  | _ => rfl
theorem de_ifExp {t : Expr} (ht : PT X t (tT c E f)) (ha : PE X a (tD c E fa)) (hb : PE X b (tD c E fb)) : PE X (.IfExp t a b pos) (tD c E (eIf f fa fb)) := PE.imp (pe_ifExp ht ha hb) fun σ H Q ⟨Hs, G, δ, S, q⟩ =>
  ⟨Hs, G, δ, S, PoG.seq q fun d δ1 Hs1 H1 s1 q1 S1 => by
    cases d with
    | true =>
      show if true = true then _ else _
      rw [if_pos rfl]
      exact ⟨Hs1, G, δ1, S1, q1⟩
    | false =>
      show if false = true then _ else _
      rw [if_neg Bool.false_ne_true]
      exact ⟨Hs1, G, δ1, S1, q1⟩⟩
/-! ### a op b op' c -/
def eCh (g g' : D → D → Option D) (fa fb fc : En → Re (D × En)) : En → Re (D × En) := fun δ => (fa δ).bd fun p => (fb p.2).bd fun q => (opt (g p.1 q.1)).bd fun z => match z with
  | .bool true => (fc q.2).bd fun u => (opt (g' q.1 u.1)).bd fun d => .ok (d, u.2)
  | .bool false => .ok (.bool false, q.2)
  | _ => .bad
def pCh (g g' : D → D → Option D) (fa fb fc : En → Re D) : En → Re D := fun δ => (fa δ).bd fun p => (fb δ).bd fun q => (opt (g p q)).bd fun z => match z with
  | .bool true => (fc δ).bd fun u => opt (g' q u)
  | .bool false => .ok (.bool false)
  | _ => .bad
theorem eCh_pu (g g' : D → D → Option D) (fa fb fc : En → Re D) : eCh g g' (Pu fa) (Pu fb) (Pu fc) = Pu (pCh g g' fa fb fc) := by
  funext δ
  unfold eCh Pu pCh
  cases fa δ with
  | ok x =>
    simp only [Re.bd_ok]
    cases fb δ with
    | ok y =>
      simp only [Re.bd_ok]
      cases g x y with
      | none => rfl
      | some z =>
        simp only [opt_some, Re.bd_ok]
        cases z with
        | bool k =>
          cases k with
          | true =>
            simp only [Re.bd_ok]
            cases fc δ with
            | ok u => rfl
            | _ => rfl
          | false => rfl
        | _ => rfl
    | _ => rfl
  | _ => rfl
theorem v_ch {r r' : R2} {g g' : D → D → Option D} {fc : En → Re (D × En)} (hr : VOp2 c r g) (hr' : VOp2 c r' g') {σ : St} {H : Hp} {Q : VK} (h : tD c E (eCh g g' fa fb fc) σ H Q) : tChain r r' (tD c E fa) (tD c E fb) (tD c E fc) σ H Q := by
  obtain ⟨Hs, G, δ, S, q⟩ := h
  refine ⟨Hs, G, δ, S, PoG.seq q fun dx δ1 Hs1 H1 s1 q1 x S1 r1 => ?_⟩
  refine ⟨Hs1, G, δ1, S1, PoG.seq q1 fun dy δ2 Hs2 H2 s2 q2 y S2 r2 => ?_⟩
  cases hz : g dx dy with
  | none => rw [hz] at q2; exact q2.elim
  | some z =>
    rw [hz] at q2
    refine hr Hs2 G H2 σ δ2 x y dx dy z S2 (dp_mono s2 r1) r2 hz _ fun v Hs3 H3 s3 S3 r3 => ?_
    cases r3 with
    | bl k =>
      refine ⟨k, rfl, ?_⟩
      cases k with
      | false =>
        show if false = true then _ else _
        rw [if_neg Bool.false_ne_true]
        exact q2 Hs3 H3 s3 _ S3 (.bl _)
      | true =>
        show if true = true then _ else _
        rw [if_pos rfl]
        have q2' := PoG.mono s3 q2
        refine ⟨Hs3, G, δ2, S3, PoG.seq q2' fun dw δ4 Hs4 H4 s4 q4 w' S4 r4 => ?_⟩
        obtain ⟨d, hd, q5⟩ := PoG.last (k := fun d => (d, δ4)) q4
        exact hr' Hs4 G H4 σ δ4 y w' dy dw d S4 (dp_mono (s3.trans s4) r2) r4 hd Q fun v Hs5 H5 s5 S5 r5 => q5 Hs5 H5 s5 v S5 r5
    | _ => exact False.elim q2
theorem de_chain {op op' : CmpOp} {r r' : R2} {g g' : D → D → Option D} {d : Expr} {fc : En → Re (D × En)} (ho : OpR X (compareOp op) r) (hr : VOp2 c r g) (ho' : OpR X (compareOp op') r') (hr' : VOp2 c r' g') (ha : PE X a (tD c E fa)) (hb : PE X b (tD c E fb)) (hc : PE X d (tD c E fc))
    (hm : lastMarks [op, op'] [b, d] = false := by with_unfolding_all rfl) : PE X (.Compare a [op, op'] [b, d] pos) (tD c E (eCh g g' fa fb fc)) := PE.imp (pe_chain ho ho' ha hb hc hm) fun _ _ _ h => v_ch hr hr' h
theorem de_tchain {op op' : CmpOp} {r r' : R2} {g g' : D → D → Option D} {d : Expr} {fc : En → Re (D × En)} (ho : OpR X (compareOp op) r) (hr : VOp2 c r g) (ho' : OpR X (compareOp op') r') (hr' : VOp2 c r' g') (ha : PE X a (tD c E fa)) (hb : PE X b (tD c E fb)) (hc : PE X d (tD c E fc))
    (hm : lastMarks [op, op'] [b, d] = false := by with_unfolding_all rfl) : PT X (.Compare a [op, op'] [b, d] pos) (tT c E (eTe (eCh g g' fa fb fc))) := PT.imp (pt_chain ho ho' ha hb hc hm) fun σ H Q h => by
  have q' := v_te h
  exact v_ch (Q := fun x H' => ∃ k, x = .bl k ∧ Q k H') hr hr' q'
end
/-! ### arguments, displays, calls of built-ins -/
def eNil : En → Re (List D × En) := fun δ => .ok ([], δ)
def eCons (fa : En → Re (D × En)) (fr : En → Re (List D × En)) : En → Re (List D × En) := fun δ => (fa δ).bd fun p => (fr p.2).bd fun q => .ok (p.1 :: q.1, q.2)
def pNil : En → Re (List D) := fun _ => .ok []
def pCons (fa : En → Re D) (fr : En → Re (List D)) : En → Re (List D) := fun δ => (fa δ).bd fun p => (fr δ).bd fun q => .ok (p :: q)
theorem eNil_pu : eNil = Pu pNil := rfl
theorem eCons_pu (fa : En → Re D) (fr : En → Re (List D)) : eCons (Pu fa) (Pu fr) = Pu (pCons fa fr) := by
  funext δ; unfold eCons Pu pCons
  cases fa δ with
  | ok x =>
    simp only [Re.bd_ok]
    cases fr δ <;> rfl
  | _ => rfl
section
variable {es : List Expr} {fa : En → Re (D × En)} {fr : En → Re (List D × En)}
theorem da_nil : PA X [] (tA c E (Pu pNil)) := PA.imp pa_nil fun σ H Q ⟨Hs, G, δ, S, q⟩ => q Hs H (Same.refl _) [] S .nil
theorem da_cons (ha : PE X e (tD c E fa)) (hr : PA X es (tA c E fr)) (hs : starEach (e :: es) X.env = (false, eval e X.env) :: starEach es X.env := by rfl) : PA X (e :: es) (tA c E (eCons fa fr)) := PA.imp (pa_cons ha hr hs) fun σ H Q ⟨Hs, G, δ, S, q⟩ =>
  ⟨Hs, G, δ, S, PoG.seq q fun d δ1 Hs1 H1 s1 q1 x S1 r1 => ⟨Hs1, G, δ1, S1, PoG.seq q1 fun ds δ2 Hs2 H2 s2 q2 xs S2 r2 => q2 Hs2 H2 (Same.refl _) _ S2 (.cons (dp_mono s2 r1) r2)⟩⟩
def eTup (fr : En → Re (List D × En)) : En → Re (D × En) := fun δ => (fr δ).bd fun p => if p.1.length ≤ 1000000 then .ok (.tuple p.1, p.2) else .bad
def pTup (fr : En → Re (List D)) : En → Re D := fun δ => (fr δ).bd fun p => if p.length ≤ 1000000 then .ok (.tuple p) else .bad
theorem eTup_pu (fr : En → Re (List D)) : eTup (Pu fr) = Pu (pTup fr) := by
  funext δ; unfold eTup Pu pTup
  cases fr δ with
  | ok x =>
    show (if x.length ≤ 1000000 then _ else _) = Re.bd (if x.length ≤ 1000000 then _ else _) _
    by_cases h : x.length ≤ 1000000
    · rw [if_pos h, if_pos h]; rfl
    · rw [if_neg h, if_neg h]; rfl
  | _ => rfl
theorem million {n : Nat} (h : n ≤ 1000000) : n ≤ sizeLine := Nat.le_trans h (by decide)
theorem de_tup {x1 : Nat} (h : PA X es (tA c E fr)) : PE X (.Tuple es x1 pos) (tD c E (eTup fr)) := PE.imp (pe_tup h) fun σ H Q ⟨Hs, G, δ, S, q⟩ =>
  ⟨Hs, G, δ, S, PoG.seq q fun ds δ1 Hs1 H1 s1 q1 xs S1 r1 => by
    by_cases hl : ds.length ≤ 1000000
    · simp only [hl, if_true] at q1
      refine ⟨by rw [dpa_len r1]; exact million hl, fun p hp => ?_⟩
      have f := Sat.fresh_s S1.toFrm hp
      exact q1 (upd Hs1 p (.tup xs)) _ (same_new f) _ (S1.new hp) (.tup (SqT.of upd_same) (dpa_mono (same_new f) r1))
    · simp only [hl, if_false] at q1
      exact q1.elim⟩
def eLst (fr : En → Re (List D × En)) : En → Re (List D × En) := fun δ => (fr δ).bd fun p => if p.1.length ≤ 1000000 then .ok p else .bad
def pLst (fr : En → Re (List D)) : En → Re (List D) := fun δ => (fr δ).bd fun p => if p.length ≤ 1000000 then .ok p else .bad
theorem eLst_pu (fr : En → Re (List D)) : eLst (Pu fr) = Pu (pLst fr) := by
  funext δ; unfold eLst Pu pLst
  cases fr δ with
  | ok x =>
    show (if x.length ≤ 1000000 then _ else _) = Re.bd (if x.length ≤ 1000000 then _ else _) _
    by_cases h : x.length ≤ 1000000
    · rw [if_pos h, if_pos h]; rfl
    · rw [if_neg h, if_neg h]; rfl
  | _ => rfl
theorem de_lst (h : PA X es (tA c E fr)) : PE X (.List es pos) (tF c E (eLst fr)) := PE.imp (pe_lst h) fun σ H Q ⟨Hs, G, δ, S, q⟩ =>
  ⟨Hs, G, δ, S, PoG.seq q fun ds δ1 Hs1 H1 s1 q1 xs S1 r1 => by
    by_cases hl : ds.length ≤ 1000000
    · simp only [hl, if_true] at q1
      refine ⟨by rw [dpa_len r1]; exact million hl, fun p hp => ?_⟩
      exact q1 Hs1 _ (Same.refl _) p xs (S1.loose hp) (S1.loose_of hp) upd_same r1
    · simp only [hl, if_false] at q1
      exact q1.elim⟩
/-- a call of a built-in, by values -/
def VCall (c : DC) (r : List V → Hp → VK → Prop) (g : List D → Option D) : Prop := ∀ (Hs G H : Hp) (σ : St) (δ : En) (vs : List V) (ds : List D) (d : D), Sat c Hs G H σ δ → RpAll c.K Hs vs ds → g ds = some d → ∀ Q : VK,
  (∀ v Hs' H', Same Hs Hs' → Sat c Hs' G H' σ δ → Rp c.K Hs' v d → Q v H') → r vs H Q
def VCallF (c : DC) (r : List V → Hp → VK → Prop) (g : List D → Option (List D)) : Prop := ∀ (Hs G H : Hp) (σ : St) (δ : En) (vs : List V) (ds d : List D), Sat c Hs G H σ δ → RpAll c.K Hs vs ds → g ds = some d → ∀ Q : VK,
  (∀ p xs Hs' H', Same Hs Hs' → Sat c Hs' G H' σ δ → Loose c Hs' G H' σ δ p → H' p = some (.lst xs) → RpAll c.K Hs' xs d → Q (.ref p) H') → r vs H Q
def eCa {α : Type} (g : List D → Option α) (fr : En → Re (List D × En)) : En → Re (α × En) := fun δ => (fr δ).bd fun p => (opt (g p.1)).bd fun d => .ok (d, p.2)
def pCa {α : Type} (g : List D → Option α) (fr : En → Re (List D)) : En → Re α := fun δ => (fr δ).bd fun p => opt (g p)
theorem eCa_pu {α : Type} (g : List D → Option α) (fr : En → Re (List D)) : eCa g (Pu fr) = Pu (pCa g fr) := by
  funext δ; unfold eCa Pu pCa; cases fr δ <;> rfl
theorem v_ca {r : List V → Hp → VK → Prop} {g : List D → Option D} (hr : VCall c r g) {σ : St} {H : Hp} {Q : VK} (h : tD c E (eCa g fr) σ H Q) : tCB r (tA c E fr) σ H Q := by
  obtain ⟨Hs, G, δ, S, q⟩ := h
  refine ⟨Hs, G, δ, S, PoG.seq q fun ds δ1 Hs1 H1 s1 q1 xs S1 r1 => ?_⟩
  obtain ⟨d, hd, q2⟩ := PoG.last (k := fun d => (d, δ1)) q1
  exact hr Hs1 G H1 σ δ1 xs ds d S1 r1 hd Q fun v Hs2 H2 s2 S2 r2 => q2 Hs2 H2 s2 v S2 r2
theorem v_caF {r : List V → Hp → VK → Prop} {g : List D → Option (List D)} (hr : VCallF c r g) {σ : St} {H : Hp} {Q : VK} (h : tF c E (eCa g fr) σ H Q) : tCB r (tA c E fr) σ H Q := by
  obtain ⟨Hs, G, δ, S, q⟩ := h
  refine ⟨Hs, G, δ, S, PoG.seq q fun ds δ1 Hs1 H1 s1 q1 xs S1 r1 => ?_⟩
  obtain ⟨d, hd, q2⟩ := PoG.last (k := fun d => (d, δ1)) q1
  exact hr Hs1 G H1 σ δ1 xs ds d S1 r1 hd Q fun p xs Hs2 H2 s2 S2 L h r2 => q2 Hs2 H2 s2 p xs S2 L h r2
theorem CallR.or {f : Value} {r r' : List V → Hp → VK → Prop} (h : CallR X f r) (h' : CallR X f r') : CallR X f (fun x H Q => r x H Q ∨ r' x H Q) := by
  intro pins s σ H x u Q I rx q
  rcases q with q | q
  · exact h pins s σ H x u Q I rx q
  · exact h' pins s σ H x u Q I rx q
variable {x : Str} {p : Pos} {id T : String} {r : List V → Hp → VK → Prop}
theorem de_callB {g : List D → Option D} (hc : CallR X (.builtin id) r) (hr : VCall c r g) (hg : Gl X x) (hm : X.mg x = none) (hv : bootBuiltins x = some (.builtin id)) (ha : PA X (e :: es) (tA c E fr)) (hn : x ≠ "__name__" := by decide) (hdb : (x == ("__debug__" : Str)) = false := by decide)
    (he : starEach (e :: es) X.env = (false, eval e X.env) :: starEach es X.env := by rfl) (hpl : (backTo pos (starEach es X.env)).any (·.1) = false := by rfl) : PE X (.Call (.Name x p) (e :: es) [] pos) (tD c E (eCa g fr)) :=
  PE.imp (pe_callB hc hg hm hv ha hn hdb he hpl) fun _ _ _ h => v_ca hr h
theorem de_callBF {g : List D → Option (List D)} (hc : CallR X (.builtin id) r) (hr : VCallF c r g) (hg : Gl X x) (hm : X.mg x = none) (hv : bootBuiltins x = some (.builtin id)) (ha : PA X (e :: es) (tA c E fr)) (hn : x ≠ "__name__" := by decide) (hdb : (x == ("__debug__" : Str)) = false := by decide)
    (he : starEach (e :: es) X.env = (false, eval e X.env) :: starEach es X.env := by rfl) (hpl : (backTo pos (starEach es X.env)).any (·.1) = false := by rfl) : PE X (.Call (.Name x p) (e :: es) [] pos) (tF c E (eCa g fr)) :=
  PE.imp (pe_callB hc hg hm hv ha hn hdb he hpl) fun _ _ _ h => v_caF hr h
theorem de_callT {g : List D → Option D} (hc : CallR X (.type T) r) (hr : VCall c r g) (hg : Gl X x) (hm : X.mg x = none) (hv : bootBuiltins x = some (.type T)) (ha : PA X (e :: es) (tA c E fr)) (hn : x ≠ "__name__" := by decide) (hdb : (x == ("__debug__" : Str)) = false := by decide)
    (he : starEach (e :: es) X.env = (false, eval e X.env) :: starEach es X.env := by rfl) (hpl : (backTo pos (starEach es X.env)).any (·.1) = false := by rfl) : PE X (.Call (.Name x p) (e :: es) [] pos) (tD c E (eCa g fr)) :=
  PE.imp (pe_callTy hc hg hm hv ha hn hdb he hpl) fun _ _ _ h => v_ca hr h
theorem de_callTF {g : List D → Option (List D)} (hc : CallR X (.type T) r) (hr : VCallF c r g) (hg : Gl X x) (hm : X.mg x = none) (hv : bootBuiltins x = some (.type T)) (ha : PA X (e :: es) (tA c E fr)) (hn : x ≠ "__name__" := by decide) (hdb : (x == ("__debug__" : Str)) = false := by decide)
    (he : starEach (e :: es) X.env = (false, eval e X.env) :: starEach es X.env := by rfl) (hpl : (backTo pos (starEach es X.env)).any (·.1) = false := by rfl) : PE X (.Call (.Name x p) (e :: es) [] pos) (tF c E (eCa g fr)) :=
  PE.imp (pe_callTy hc hg hm hv ha hn hdb he hpl) fun _ _ _ h => v_caF hr h
end
end
end DL

/-! DL2: the operators and built-ins over data -/
namespace DL
open PySem L2

section
variable {X : Cx} {c : DC}

theorem VOp2.of {r : R2} {g : D → D → Option D} (h : ∀ (Hs H : Hp) (x y : V) (dx dy d : D), Same Hs H → Rp c.K Hs x dx → Rp c.K Hs y dy → g dx dy = some d → ∃ v, Rp c.K Hs v d ∧ ∀ Q : VK, Q v H → r x y H Q) : VOp2 c r g :=
  fun Hs G H σ δ x y dx dy d S rx ry e Q q => by
    obtain ⟨v, rv, k⟩ := h Hs H x y dx dy d S.sh rx ry e
    exact k Q (q v Hs H (Same.refl _) S rv)

/-! ### + -/
def gAdd : D → D → Option D
  | .int i, .int j => some (.int (i + j))
  | .str i, .str j => if i.length + j.length ≤ 1000000 then some (.str (i ++ j)) else none
  | .list a, .list b => if a.length + b.length ≤ 1000000 then some (.list (a ++ b)) else none
  | .tuple a, .tuple b => if a.length + b.length ≤ 1000000 then some (.tuple (a ++ b)) else none
  | _, _ => none
def gCat : D → D → Option (List D)
  | .list a, .list b => if a.length + b.length ≤ 1000000 then some (a ++ b) else none
  | _, _ => none
/-- list + list, wherever they stand -/
def rCatS (K : PySem.W.Frag) : R2 := fun x y H Q => ∃ a b xs ys, x = .ref a ∧ y = .ref b ∧ SqL K H a xs ∧ SqL K H b ys ∧ xs.length + ys.length ≤ sizeLine ∧ ∀ p, H p = none → Q (.ref p) (upd H p (.lst (xs ++ ys)))
theorem op_catS : OpR X (binaryOp .Add) (rCatS X.K) := by
  intro pins s σ H x y v u Q I rx ry h
  obtain ⟨a, b, xs, ys, rfl, rfl, ha, hb, hz, q⟩ := h
  cases rx
  cases ry
  obtain ⟨it1, r1, ⟨⟨c1, d1, t1, l1⟩, n1, e1, k1, _, g1⟩, _⟩ := I.list ha
  obtain ⟨it2, r2, ⟨⟨c2, d2, t2, l2⟩, n2, e2, k2, _, g2⟩, _⟩ := I.list hb
  simp only at k1 g1 k2 g2
  subst k1 g1 k2 g2
  have z : it1.toArray.size + it2.toArray.size ≤ sizeLine := by rw [List.size_toArray, List.size_toArray, ← r1.length, ← r2.length]; exact hz
  refine PySem.concat_meets ⟨_, e1, rfl⟩ ⟨_, e2, rfl⟩ PySem.noFill_list_add PySem.seq_list_add PySem.F.slot_list_add PySem.F.entry_list_add (PySem.F.args_list_add_2 _ _) (PyProof.Rows.list_addW a b it1.toArray it2.toArray n1 n2 d1 d2 l1 l2 z) ⟨e1, e2, ?_⟩
  have e : it1.toArray ++ it2.toArray = (it1 ++ it2).toArray := by simp
  rw [e]
  exact ⟨.ref _, _, I.lnew (t' := s.toks) (r1.append r2) (by rw [List.length_append]; exact hz), rfl, q _ I.fresh⟩
def rAddA (K : PySem.W.Frag) : R2 := fun x y H Q => rI0 (fun i j => .int (i + j)) x y H Q ∨ (∃ i j, x = .str i ∧ y = .str j ∧ i.length + j.length ≤ sizeLine ∧ Q (.str (i ++ j)) H) ∨ rCatS K x y H Q ∨ rCatA K x y H Q
theorem op_addA : OpR X (binaryOp .Add) (rAddA X.K) := OpR.or op_add (OpR.or op_add_str (OpR.or op_catS op_catA))
theorem vCat : VOp2F c (rCatS c.K) gCat := fun Hs G H σ δ x y dx dy d S rx ry e Q q => by
  cases rx with
  | @lst a xs ds h1 r1 => cases ry with
    | @lst b ys es h2 r2 =>
      simp only [gCat] at e
      split at e
      · rename_i hl
        cases e
        refine ⟨a, b, xs, ys, rfl, rfl, same_l S.sh h1, same_l S.sh h2, by rw [dpa_len r1, dpa_len r2]; exact million hl, fun p hp => ?_⟩
        exact q p _ Hs _ (Same.refl _) (S.loose hp) (S.loose_of hp) upd_same (dpa_append r1 r2)
      · cases e
    | _ => cases e
  | _ => cases e
theorem vAdd : VOp2 c (rAddA c.K) gAdd := fun Hs G H σ δ x y dx dy d S rx ry e Q q => by
  cases rx with
  | int i => cases ry with
    | int j =>
      cases e
      exact .inl ⟨i, j, rfl, rfl, q _ Hs H (Same.refl _) S (.int _)⟩
    | _ => cases e
  | str i => cases ry with
    | str j =>
      simp only [gAdd] at e
      split at e
      · rename_i hl
        cases e
        exact .inr (.inl ⟨i, j, rfl, rfl, million hl, q _ Hs H (Same.refl _) S (.str _)⟩)
      · cases e
    | _ => cases e
  | @lst a xs ds h1 r1 => cases ry with
    | @lst b ys es h2 r2 =>
      simp only [gAdd] at e
      split at e
      · rename_i hl
        cases e
        refine .inr (.inr (.inl ?_))
        refine vCat Hs G H σ δ _ _ (.list ds) (.list es) (ds ++ es) S (.lst h1 r1) (.lst h2 r2) (by simp only [gCat, hl, if_true]) Q fun p zs Hs' H' s S' L h r => ?_
        exact q (.ref p) (upd Hs' p (.lst zs)) H' (s.trans (same_new L.s)) (S'.freeze L h) (.lst (SqL.of upd_same) (dpa_mono (same_new L.s) r))
      · cases e
    | _ => cases e
  | @tup a xs ds h1 r1 => cases ry with
    | @tup b ys es h2 r2 =>
      simp only [gAdd] at e
      split at e
      · rename_i hl
        cases e
        refine .inr (.inr (.inr ⟨a, b, xs, ys, rfl, rfl, same_t S.sh h1, same_t S.sh h2, by rw [dpa_len r1, dpa_len r2]; exact million hl, fun z => ?_, fun z z2 => ?_, fun z z2 p hp => ?_⟩))
        · subst z
          cases r1
          exact q _ Hs H (Same.refl _) S (.tup h2 r2)
        · subst z2
          cases r2
          exact q _ Hs H (Same.refl _) S (.tup h1 (by rw [List.append_nil]; exact r1))
        · have f := Sat.fresh_s S.toFrm hp
          exact q _ (upd Hs p (.tup (xs ++ ys))) _ (same_new f) (S.new hp) (.tup (SqT.of upd_same) (dpa_mono (same_new f) (dpa_append r1 r2)))
      · cases e
    | _ => cases e
  | _ => cases e

/-! ### - * % // ** of ints; texts, lists, tuples times an int -/
def gSub : D → D → Option D
  | .int i, .int j => some (.int (i - j))
  | _, _ => none
theorem vSub : VOp2 c (rI0 fun i j => .int (i - j)) gSub := VOp2.of fun Hs H x y dx dy d s rx ry e => by
  cases rx with
  | int i => cases ry with
    | int j => cases e; exact ⟨_, .int _, fun Q q => ⟨i, j, rfl, rfl, q⟩⟩
    | _ => cases e
  | _ => cases e
def gMul : D → D → Option D
  | .int i, .int j => if i.natAbs.log2 + j.natAbs.log2 < 1000000 then some (.int (i * j)) else none
  | _, _ => none
theorem vMul : VOp2 c (rI CMulW fun i j => .int (i * j)) gMul := VOp2.of fun Hs H x y dx dy d s rx ry e => by
  cases rx with
  | int i => cases ry with
    | int j =>
      simp only [gMul] at e
      split at e
      · rename_i h; cases e; exact ⟨_, .int _, fun Q q => ⟨i, j, rfl, rfl, h, q⟩⟩
      · cases e
    | _ => cases e
  | _ => cases e
def gMod : D → D → Option D
  | .int i, .int j => if 0 < j then some (.int (i % j)) else none
  | _, _ => none
theorem vMod : VOp2 c (rI (fun _ j => 0 < j) fun i j => .int (i % j)) gMod := VOp2.of fun Hs H x y dx dy d s rx ry e => by
  cases rx with
  | int i => cases ry with
    | int j =>
      simp only [gMod] at e
      split at e
      · rename_i h; cases e; exact ⟨_, .int _, fun Q q => ⟨i, j, rfl, rfl, h, q⟩⟩
      · cases e
    | _ => cases e
  | _ => cases e
def gDiv : D → D → Option D
  | .int i, .int j => if 0 < j ∧ j.natAbs.log2 < 9000 then some (.int (i / j)) else none
  | _, _ => none
theorem vDiv : VOp2 c (rI CDivW fun i j => .int (i / j)) gDiv := VOp2.of fun Hs H x y dx dy d s rx ry e => by
  cases rx with
  | int i => cases ry with
    | int j =>
      simp only [gDiv] at e
      split at e
      · rename_i h; cases e; exact ⟨_, .int _, fun Q q => ⟨i, j, rfl, rfl, h, q⟩⟩
      · cases e
    | _ => cases e
  | _ => cases e
def CPowW (i j : Int) : Prop := 0 ≤ j ∧ (Builtin.Int.intBits i : Int) * j ≤ 2 ^ 27
theorem op_powW : OpR X (binaryOp .Pow) (rI CPowW fun i j => .int (i ^ j.toNat)) := opI fun _ _ _ _ _ _ _ hc q => PyProof.Rows.pow_int hc.1 hc.2 q
def gPow : D → D → Option D
  | .int i, .int j => if 0 ≤ j ∧ (Builtin.Int.intBits i : Int) * j ≤ 2 ^ 27 then some (.int (i ^ j.toNat)) else none
  | _, _ => none
theorem vPow : VOp2 c (rI CPowW fun i j => .int (i ^ j.toNat)) gPow := VOp2.of fun Hs H x y dx dy d s rx ry e => by
  cases rx with
  | int i => cases ry with
    | int j =>
      simp only [gPow] at e
      split at e
      · rename_i h; cases e; exact ⟨_, .int _, fun Q q => ⟨i, j, rfl, rfl, h, q⟩⟩
      · cases e
    | _ => cases e
  | _ => cases e
/-! ### order -/
def intsOf : List D → Option (List Int)
  | [] => some []
  | .int i :: r => (intsOf r).map (i :: ·)
  | _ => none
theorem rpa_intsOf {K : PySem.W.Frag} {H : Hp} : ∀ {ds : List D} {vs : List V} {ns : List Int}, RpAll K H vs ds → intsOf ds = some ns → vs = ns.map V.int
  | _, _, _, .nil, e => by cases e; rfl
  | _, _, ns, .cons h1 h2, e => by
    cases h1 with
    | int i =>
      simp only [intsOf, Option.map_eq_some_iff] at e
      obtain ⟨ms, e1, e2⟩ := e
      subst e2
      rw [rpa_intsOf h2 e1]
      rfl
    | _ => cases e
@[simp] theorem intsOf_nil : intsOf [] = some [] := (rfl)
@[simp] theorem intsOf_cons (i : Int) (r : List D) : intsOf (.int i :: r) = (intsOf r).map (i :: ·) := (rfl)
theorem intsOf_map : ∀ ns : List Int, intsOf (ns.map PyData.int) = some ns
  | [] => rfl
  | n :: ns => by show (intsOf (ns.map PyData.int)).map (n :: ·) = _; rw [intsOf_map ns]; rfl
def gLt : D → D → Option D
  | .int i, .int j => some (.bool (decide (i < j)))
  | .str i, .str j => some (.bool (decide (i.cps.toList < j.cps.toList)))
  | .tuple a, .tuple b => match intsOf a, intsOf b with
    | some ns, some ms => some (.bool (HT.lexLt ns ms))
    | _, _ => none
  | _, _ => none
def rLtA (K : PySem.W.Frag) : R2 := fun x y H Q => rI0 (fun i j => .bl (decide (i < j))) x y H Q ∨ (∃ i j, x = .str i ∧ y = .str j ∧ Q (.bl (decide (i.cps.toList < j.cps.toList))) H) ∨ rLtT K x y H Q
theorem op_ltA (hu : X.A.units < cLine) : OpR X (compareOp .Lt) (rLtA X.K) := OpR.or op_lt (OpR.or op_lt_str (op_ltT hu))
theorem vLt : VOp2 c (rLtA c.K) gLt := VOp2.of fun Hs H x y dx dy d s rx ry e => by
  cases rx with
  | int i => cases ry with
    | int j => cases e; exact ⟨_, .bl _, fun Q q => .inl ⟨i, j, rfl, rfl, q⟩⟩
    | _ => cases e
  | str i => cases ry with
    | str j => cases e; exact ⟨_, .bl _, fun Q q => .inr (.inl ⟨i, j, rfl, rfl, q⟩)⟩
    | _ => cases e
  | @tup a xs ds h1 r1 => cases ry with
    | @tup b ys es h2 r2 =>
      simp only [gLt] at e
      split at e
      · rename_i ns ms e1 e2
        cases e
        have z1 := rpa_intsOf r1 e1
        have z2 := rpa_intsOf r2 e2
        subst z1 z2
        exact ⟨_, .bl _, fun Q q => .inr (.inr ⟨a, b, ns, ms, rfl, rfl, same_t s h1, same_t s h2, q⟩)⟩
      · cases e
    | _ => cases e
  | _ => cases e
def gLe : D → D → Option D
  | .int i, .int j => some (.bool (decide (i ≤ j)))
  | _, _ => none
theorem vLe : VOp2 c (rI0 fun i j => .bl (decide (i ≤ j))) gLe := VOp2.of fun Hs H x y dx dy d s rx ry e => by
  cases rx with
  | int i => cases ry with
    | int j => cases e; exact ⟨_, .bl _, fun Q q => ⟨i, j, rfl, rfl, q⟩⟩
    | _ => cases e
  | _ => cases e
def gGt : D → D → Option D
  | .int i, .int j => some (.bool (decide (j < i)))
  | _, _ => none
theorem vGt : VOp2 c (rI0 fun i j => .bl (decide (j < i))) gGt := VOp2.of fun Hs H x y dx dy d s rx ry e => by
  cases rx with
  | int i => cases ry with
    | int j => cases e; exact ⟨_, .bl _, fun Q q => ⟨i, j, rfl, rfl, q⟩⟩
    | _ => cases e
  | _ => cases e
def gGe : D → D → Option D
  | .int i, .int j => some (.bool (decide (j ≤ i)))
  | _, _ => none
theorem vGe : VOp2 c (rI0 fun i j => .bl (decide (j ≤ i))) gGe := VOp2.of fun Hs H x y dx dy d s rx ry e => by
  cases rx with
  | int i => cases ry with
    | int j => cases e; exact ⟨_, .bl _, fun Q q => ⟨i, j, rfl, rfl, q⟩⟩
    | _ => cases e
  | _ => cases e
/-! ### ==, !=, is None, in -/
/-- equality as Python has it -/
def eqD : D → D → Option Bool
  | .int i, .int j => some (decide (i = j))
  | .str i, .str j => some (decide (i = j))
  | d, e => if SeqAt.shaped d && SeqAt.shaped e then some (PyData.eqv d e) else none
def gEq (d e : D) : Option D := (eqD d e).map .bool
def gNe (d e : D) : Option D := (eqD d e).map fun b => .bool (!b)
theorem eqD_spec {d e : D} {b : Bool} (h : eqD d e = some b) : (∃ i j, d = .int i ∧ e = .int j ∧ b = decide (i = j)) ∨ (∃ i j, d = .str i ∧ e = .str j ∧ b = decide (i = j)) ∨ (SeqAt.shaped d = true ∧ SeqAt.shaped e = true ∧ b = PyData.eqv d e) := by
  unfold eqD at h
  split at h
  · rename_i i j; cases h; exact .inl ⟨i, j, rfl, rfl, rfl⟩
  · rename_i i j; cases h; exact .inr (.inl ⟨i, j, rfl, rfl, rfl⟩)
  · split at h
    · rename_i z
      cases h
      rw [Bool.and_eq_true] at z
      exact .inr (.inr ⟨z.1, z.2, rfl⟩)
    · cases h
theorem decV_int {i j : Int} : decide (V.int i = V.int j) = decide (i = j) := by
  by_cases h : i = j
  · subst h; simp
  · rw [decide_eq_false h, decide_eq_false (fun e => h (V.int.inj e))]
theorem decV_str {i j : Str} : decide (V.str i = V.str j) = decide (i = j) := by
  by_cases h : i = j
  · subst h; simp
  · rw [decide_eq_false h, decide_eq_false (fun e => h (V.str.inj e))]
def rEqA (K : PySem.W.Frag) : R2 := fun x y H Q => rEq x y H Q ∨ rEqD K x y H Q
def rNeA (K : PySem.W.Frag) : R2 := fun x y H Q => rNe x y H Q ∨ rNeD K x y H Q
theorem op_eqA (hu : X.A.units + 64 < cLine) : OpR X (compareOp .Eq) (rEqA X.K) := OpR.or op_eq (op_eqD hu)
theorem op_neA (hu : X.A.units + 64 < cLine) : OpR X (compareOp .NotEq) (rNeA X.K) := OpR.or op_ne (op_neD hu)
theorem vEq : VOp2 c (rEqA c.K) gEq := VOp2.of fun Hs H x y dx dy d s rx ry e => by
  unfold gEq at e
  obtain ⟨b, e1, e2⟩ := Option.map_eq_some_iff.mp e
  subst e2
  refine ⟨_, .bl b, fun Q q => ?_⟩
  rcases eqD_spec e1 with ⟨i, j, rfl, rfl, rfl⟩ | ⟨i, j, rfl, rfl, rfl⟩ | ⟨h1, h2, rfl⟩
  · cases rx; cases ry
    exact .inl ⟨rfl, by rw [decV_int]; exact q⟩
  · cases rx; cases ry
    exact .inl ⟨rfl, by rw [decV_str]; exact q⟩
  · exact .inr ⟨dx, dy, (dp_mono s rx).dp, (dp_mono s ry).dp, h1, h2, q⟩
theorem vNe : VOp2 c (rNeA c.K) gNe := VOp2.of fun Hs H x y dx dy d s rx ry e => by
  unfold gNe at e
  obtain ⟨b, e1, e2⟩ := Option.map_eq_some_iff.mp e
  subst e2
  refine ⟨_, .bl (!b), fun Q q => ?_⟩
  rcases eqD_spec e1 with ⟨i, j, rfl, rfl, rfl⟩ | ⟨i, j, rfl, rfl, rfl⟩ | ⟨h1, h2, rfl⟩
  · cases rx; cases ry
    exact .inl ⟨rfl, by rw [decV_int]; exact q⟩
  · cases rx; cases ry
    exact .inl ⟨rfl, by rw [decV_str]; exact q⟩
  · exact .inr ⟨dx, dy, (dp_mono s rx).dp, (dp_mono s ry).dp, h1, h2, q⟩
def isN : D → Bool
  | .none => true
  | _ => false
@[simp] theorem isN_none : isN .none = true := (rfl)
@[simp] theorem isN_int (i : Int) : isN (.int i) = false := (rfl)
@[simp] theorem isN_bool (i : Bool) : isN (.bool i) = false := (rfl)
@[simp] theorem isN_str (i : Str) : isN (.str i) = false := (rfl)
@[simp] theorem isN_list (i : List D) : isN (.list i) = false := (rfl)
@[simp] theorem isN_tuple (i : List D) : isN (.tuple i) = false := (rfl)
theorem rp_isN {K : PySem.W.Frag} {H : Hp} {v : V} {d : D} (r : Rp K H v d) : decide (v = .non) = isN d := by
  cases r <;> rfl
/-- is, is not: None, a bool -/
def gIs : D → D → Option D
  | d, .none => some (.bool (isN d))
  | .bool a, .bool b => some (.bool (decide (a = b)))
  | _, _ => none
def gIsN (d e : D) : Option D := match gIs d e with
  | some (.bool b) => some (.bool (!b))
  | _ => none
def rIsA : R2 := fun x y H Q => rIsN x y H Q ∨ (∃ a b, x = .bl a ∧ y = .bl b ∧ Q (.bl (decide (a = b))) H)
def rIsNA : R2 := fun x y H Q => rNotN x y H Q ∨ (∃ a b, x = .bl a ∧ y = .bl b ∧ Q (.bl (!decide (a = b))) H)
theorem op_isA : OpR X (compareOp .Is) rIsA := OpR.or op_isN1 op_is_bl
theorem op_isNA : OpR X (compareOp .IsNot) rIsNA := OpR.or op_notN1 op_isnot_bl
theorem vIs : VOp2 c rIsA gIs := VOp2.of fun Hs H x y dx dy d s rx ry e => by
  cases ry with
  | non =>
    cases e
    exact ⟨_, .bl _, fun Q q => .inl ⟨rfl, by rw [rp_isN rx]; exact q⟩⟩
  | bl b => cases rx with
    | bl a => cases e; exact ⟨_, .bl _, fun Q q => .inr ⟨a, b, rfl, rfl, q⟩⟩
    | _ => cases e
  | _ => cases rx <;> cases e
theorem vIsN : VOp2 c rIsNA gIsN := VOp2.of fun Hs H x y dx dy d s rx ry e => by
  cases ry with
  | non =>
    cases e
    exact ⟨_, .bl _, fun Q q => .inl ⟨rfl, by rw [rp_isN rx]; exact q⟩⟩
  | bl b => cases rx with
    | bl a => cases e; exact ⟨_, .bl _, fun Q q => .inr ⟨a, b, rfl, rfl, q⟩⟩
    | _ => cases e
  | _ => cases rx <;> cases e
/-- x in a list; a text of one sign in a text -/
def inD (x : D) : D → Option Bool
  | .list ys => if SeqAt.shaped x && SeqAt.shaped (.list ys) then some (ys.any fun z => PyData.eqv z x) else none
  | .str z => match x with
    | .str ⟨⟨[k]⟩⟩ => some (decide (k ∈ z.cps.toList))
    | _ => none
  | _ => none
def gIn (x y : D) : Option D := (inD x y).map .bool
def gNotIn (x y : D) : Option D := (inD x y).map fun b => .bool (!b)
def rInA (K : PySem.W.Frag) : R2 := fun x y H Q => rInD K x y H Q ∨ rInS x y H Q
def rNotInA (K : PySem.W.Frag) : R2 := fun x y H Q => rNotInD K x y H Q ∨ rNotInS x y H Q
theorem op_inA (hu : X.A.units + 65 < cLine) : OpR X (compareOp .In) (rInA X.K) := OpR.or (op_inD hu) op_inS
theorem op_notInA (hu : X.A.units + 65 < cLine) : OpR X (compareOp .NotIn) (rNotInA X.K) := OpR.or (op_notInD hu) op_notInS
theorem inD_spec {x y : D} {b : Bool} (h : inD x y = some b) : (∃ ys, y = .list ys ∧ SeqAt.shaped x = true ∧ SeqAt.shaped (.list ys) = true ∧ b = ys.any fun z => PyData.eqv z x) ∨ ∃ (k : Nat) (z : Str), x = .str ⟨#[k]⟩ ∧ y = .str z ∧ b = decide (k ∈ z.cps.toList) := by
  unfold inD at h
  split at h
  · rename_i ys
    split at h
    · rename_i z
      cases h
      rw [Bool.and_eq_true] at z
      exact .inl ⟨ys, rfl, z.1, z.2, rfl⟩
    · cases h
  · rename_i z
    split at h
    · rename_i k
      cases h
      exact .inr ⟨k, z, rfl, rfl, rfl⟩
    · cases h
  · cases h
theorem vIn : VOp2 c (rInA c.K) gIn := VOp2.of fun Hs H x y dx dy d s rx ry e => by
  unfold gIn at e
  obtain ⟨b, e1, e2⟩ := Option.map_eq_some_iff.mp e
  subst e2
  refine ⟨_, .bl b, fun Q q => ?_⟩
  rcases inD_spec e1 with ⟨ys, rfl, h1, h2, rfl⟩ | ⟨k, z, rfl, rfl, rfl⟩
  · exact .inl ⟨dx, ys, (dp_mono s rx).dp, (dp_mono s ry).dp, h1, h2, q⟩
  · cases rx; cases ry
    exact .inr ⟨k, z, rfl, rfl, q⟩
theorem vNotIn : VOp2 c (rNotInA c.K) gNotIn := VOp2.of fun Hs H x y dx dy d s rx ry e => by
  unfold gNotIn at e
  obtain ⟨b, e1, e2⟩ := Option.map_eq_some_iff.mp e
  subst e2
  refine ⟨_, .bl (!b), fun Q q => ?_⟩
  rcases inD_spec e1 with ⟨ys, rfl, h1, h2, rfl⟩ | ⟨k, z, rfl, rfl, rfl⟩
  · exact .inl ⟨dx, ys, (dp_mono s rx).dp, (dp_mono s ry).dp, h1, h2, q⟩
  · cases rx; cases ry
    exact .inr ⟨k, z, rfl, rfl, q⟩
/-! ### subscripts -/
def gIx : D → D → Option D
  | .list xs, .int i => atI xs i
  | .tuple xs, .int i => atI xs i
  | .str z, .int i => if z.length ≤ 1000000 then (atI z.cps.toList i).map fun k => .str ⟨#[k]⟩ else none
  | _, _ => none
theorem rpa_atI {K : PySem.W.Frag} {H : Hp} {ds : List D} {vs : List V} {i : Int} {d : D} (r : RpAll K H vs ds) (h : atI ds i = some d) : ∃ v, atI vs i = some v ∧ Rp K H v d := by
  unfold atI at h ⊢
  rw [dpa_len r]
  cases e : ixN ds.length i with
  | none => rw [e] at h; cases h
  | some j =>
    rw [e] at h
    exact dpa_get r h
theorem vIx : VOp2 c (rIx c.K) gIx := VOp2.of fun Hs H x y dx dy d s rx ry e => by
  cases rx with
  | @lst a xs ds h1 r1 => cases ry with
    | int i =>
      obtain ⟨v, e2, r2⟩ := rpa_atI r1 e
      exact ⟨v, r2, fun Q q => .inl ⟨a, xs, i, v, rfl, rfl, same_l s h1, e2, q⟩⟩
    | _ => cases e
  | @tup a xs ds h1 r1 => cases ry with
    | int i =>
      obtain ⟨v, e2, r2⟩ := rpa_atI r1 e
      exact ⟨v, r2, fun Q q => .inr (.inl ⟨a, xs, i, v, rfl, rfl, same_t s h1, e2, q⟩)⟩
    | _ => cases e
  | str z => cases ry with
    | int i =>
      simp only [gIx] at e
      split at e
      · rename_i hl
        obtain ⟨k, e1, e2⟩ := Option.map_eq_some_iff.mp e
        subst e2
        exact ⟨_, .str _, fun Q q => .inr (.inr ⟨z, i, k, rfl, rfl, million hl, e1, q⟩)⟩
      · cases e
    | _ => cases e
  | _ => cases e
variable {E : XK} {a b e : Expr} {pos : Pos} {fa fb : En → Re (D × En)}
theorem de_ix (ha : PE X a (tD c E fa)) (hb : PE X b (tD c E fb)) (hK : c.K = X.K) (hs : PlainIx b) : PE X (.Subscript a b pos) (tD c E (eOp gIx fa fb)) :=
  PE.imp (pe_ix ix_seq ha hb hs) fun σ H Q h => by
    rw [← hK]
    exact v_op vIx h
/-! ### -x -/
def gNeg : D → Option D
  | .int i => some (.int (-i))
  | _ => none
def eUn (g : D → Option D) (fa : En → Re (D × En)) : En → Re (D × En) := fun δ => (fa δ).bd fun p => (opt (g p.1)).bd fun d => .ok (d, p.2)
def pUn (g : D → Option D) (fa : En → Re D) : En → Re D := fun δ => (fa δ).bd fun p => opt (g p)
theorem eUn_pu (g : D → Option D) (fa : En → Re D) : eUn g (Pu fa) = Pu (pUn g fa) := by
  funext δ; unfold eUn Pu pUn; cases fa δ <;> rfl
theorem de_neg (ha : PE X a (tD c E fa)) : PE X (.UnaryOp .USub a pos) (tD c E (eUn gNeg fa)) := PE.imp (pe_un un_neg ha) fun σ H Q ⟨Hs, G, δ, S, q⟩ =>
  ⟨Hs, G, δ, S, PoG.seq q fun ds δ1 Hs1 H1 s1 q1 x S1 r1 => by
    obtain ⟨d, hd, q2⟩ := PoG.last (k := fun d => (d, δ1)) q1
    cases r1 with
    | int i => cases hd; exact ⟨i, rfl, q2 Hs1 H1 (Same.refl _) _ S1 (.int _)⟩
    | _ => cases hd⟩
/-! ### slices -/
def tO (c : DC) (E : XK) (f : En → Re (Option Int × En)) : TO := fun σ H Q => ∃ Hs G δ, Sat c Hs G H σ δ ∧
  PoG c E Hs G (fun o δ' Hs' H' => Sat c Hs' G H' σ δ' → Q o H') (f δ)
def pNoP : En → Re (Option Int) := fun _ => .ok none
def eSoP (f : En → Re (D × En)) : En → Re (Option Int × En) := fun δ => (f δ).bd fun p => match p.1 with
  | .int i => .ok (some i, p.2)
  | _ => .bad
def pSoP (f : En → Re D) : En → Re (Option Int) := fun δ => (f δ).bd fun p => match p with
  | .int i => .ok (some i)
  | _ => .bad
theorem eSoP_pu (f : En → Re D) : eSoP (Pu f) = Pu (pSoP f) := by
  funext δ; unfold eSoP Pu pSoP
  cases f δ with
  | ok x => cases x <;> rfl
  | _ => rfl
theorem do_none : PO X none (tO c E (Pu pNoP)) := ⟨fun pins s σ H Q I ⟨Hs, G, δ, S, q⟩ => po_none.run pins s σ H Q I (q Hs H (Same.refl _) S)⟩
theorem do_some (h : PE X e (tD c E fa)) : PO X (some e) (tO c E (eSoP fa)) := ⟨fun pins s σ H Q I ⟨Hs, G, δ, S, q⟩ => (po_some h).run pins s σ H Q I ⟨Hs, G, δ, S, PoG.seq q fun d δ1 Hs1 H1 s1 q1 x S1 r1 => by
    cases r1 with
    | int i => exact ⟨i, rfl, q1 Hs1 H1 (Same.refl _) S1⟩
    | _ => exact False.elim q1⟩⟩
def cutD (xs : List D) (lo hi : Option Int) : List D := (xs.drop (HT.sIx xs.length 0 lo)).take (HT.sIx xs.length xs.length hi - HT.sIx xs.length 0 lo)
theorem rpa_cut {K : PySem.W.Frag} {H : Hp} {ds : List D} {vs : List V} {lo hi : Option Int} (r : RpAll K H vs ds) : RpAll K H (cutV vs lo hi) (cutD ds lo hi) := by
  unfold cutV cutD
  rw [dpa_len r]
  exact dpa_take (dpa_drop r)
def gSl : D → Option Int → Option Int → Option D
  | .list xs, lo, hi => some (.list (cutD xs lo hi))
  | .tuple xs, lo, hi => some (.tuple (cutD xs lo hi))
  | .str z, lo, hi => if z.length ≤ 1000000 then some (.str (cutS z lo hi)) else none
  | _, _, _ => none
def gSlF : D → Option Int → Option Int → Option (List D)
  | .list xs, lo, hi => some (cutD xs lo hi)
  | _, _, _ => none
def eSl {α : Type} (g : D → Option Int → Option Int → Option α) (fa : En → Re (D × En)) (fl fh : En → Re (Option Int × En)) : En → Re (α × En) := fun δ => (fa δ).bd fun p => (fl p.2).bd fun l => (fh l.2).bd fun h => (opt (g p.1 l.1 h.1)).bd fun d => .ok (d, h.2)
def pSl {α : Type} (g : D → Option Int → Option Int → Option α) (fa : En → Re D) (fl fh : En → Re (Option Int)) : En → Re α := fun δ => (fa δ).bd fun p => (fl δ).bd fun l => (fh δ).bd fun h => opt (g p l h)
theorem eSl_pu {α : Type} (g : D → Option Int → Option Int → Option α) (fa : En → Re D) (fl fh : En → Re (Option Int)) : eSl g (Pu fa) (Pu fl) (Pu fh) = Pu (pSl g fa fl fh) := by
  funext δ; unfold eSl Pu pSl
  cases fa δ with
  | ok x =>
    simp only [Re.bd_ok]
    cases fl δ with
    | ok y =>
      simp only [Re.bd_ok]
      cases fh δ with
      | ok z => rfl
      | _ => rfl
    | _ => rfl
  | _ => rfl
def rSlAA (K : PySem.W.Frag) : V → Option Int → Option Int → Hp → VK → Prop := fun x lo hi H Q => rSlL K x lo hi H Q ∨ rSlA K x lo hi H Q ∨ rSlS x lo hi H Q
theorem sl_all : SlR X (rSlAA X.K) := SlR.or sl_list (SlR.or sl_tupA sl_str)
theorem cut_whole {α : Type} {xs : List α} {lo hi : Option Int} (h : HT.sIx xs.length 0 lo = 0 ∧ HT.sIx xs.length xs.length hi = xs.length) : (xs.drop (HT.sIx xs.length 0 lo)).take (HT.sIx xs.length xs.length hi - HT.sIx xs.length 0 lo) = xs := by
  rw [h.1, h.2]; simp
variable {lo hi : Option Expr} {fl fh : En → Re (Option Int × En)} {p2 : Pos}
theorem de_slF (ha : PE X a (tD c E fa)) (hl : PO X lo (tO c E fl)) (hh : PO X hi (tO c E fh)) (hK : c.K = X.K) : PE X (.Subscript a (.Slice lo hi none p2) pos) (tF c E (eSl gSlF fa fl fh)) := PE.imp (pe_slice sl_list ha hl hh) fun σ H Q ⟨Hs, G, δ, S, q⟩ =>
  ⟨Hs, G, δ, S, PoG.seq q fun dx δ1 Hs1 H1 s1 q1 x S1 r1 => ⟨Hs1, G, δ1, S1, PoG.seq q1 fun l δ2 Hs2 H2 s2 q2 S2 => ⟨Hs2, G, δ2, S2, PoG.seq q2 fun h δ3 Hs3 H3 s3 q3 S3 => by
    obtain ⟨d, hd, q4⟩ := PoG.last (k := fun d => (d, δ3)) q3
    cases r1 with
    | @lst r xs ds h1 r2 =>
      cases hd
      refine ⟨r, xs, rfl, (hK ▸ same_l S3.sh (same_l s3 (same_l s2 h1))), fun p hp => ?_⟩
      exact q4 Hs3 _ (Same.refl _) p _ (S3.loose hp) (S3.loose_of hp) upd_same (rpa_cut (dpa_mono (s2.trans s3) r2))
    | _ => cases hd⟩⟩⟩
theorem de_sl (ha : PE X a (tD c E fa)) (hl : PO X lo (tO c E fl)) (hh : PO X hi (tO c E fh)) (hK : c.K = X.K) : PE X (.Subscript a (.Slice lo hi none p2) pos) (tD c E (eSl gSl fa fl fh)) := PE.imp (pe_slice sl_all ha hl hh) fun σ H Q ⟨Hs, G, δ, S, q⟩ =>
  ⟨Hs, G, δ, S, PoG.seq q fun dx δ1 Hs1 H1 s1 q1 x S1 r1 => ⟨Hs1, G, δ1, S1, PoG.seq q1 fun l δ2 Hs2 H2 s2 q2 S2 => ⟨Hs2, G, δ2, S2, PoG.seq q2 fun h δ3 Hs3 H3 s3 q3 S3 => by
    obtain ⟨d, hd, q4⟩ := PoG.last (k := fun d => (d, δ3)) q3
    cases r1 with
    | @lst r xs ds h1 r2 =>
      cases hd
      refine .inl ⟨r, xs, rfl, (hK ▸ same_l S3.sh (same_l s3 (same_l s2 h1))), fun p hp => ?_⟩
      have f := Sat.fresh_s S3.toFrm hp
      exact q4 (upd Hs3 p (.lst (cutV xs l h))) _ (same_new f) _ (S3.new hp) (.lst (SqL.of upd_same) (dpa_mono (same_new f) (rpa_cut (dpa_mono (s2.trans s3) r2))))
    | @tup r xs ds h1 r2 =>
      cases hd
      have r3 := dpa_mono (s2.trans s3) r2
      have h3 := same_t (s2.trans s3) h1
      refine .inr (.inl ⟨r, xs, rfl, by rw [← hK]; exact same_t S3.sh h3, fun hw => ?_, fun hw p hp => ?_⟩)
      · refine q4 Hs3 _ (Same.refl _) _ S3 (.tup h3 ?_)
        have e1 := rpa_cut (lo := l) (hi := h) r3
        unfold cutV at e1
        rw [cut_whole hw] at e1
        exact e1
      · have f := Sat.fresh_s S3.toFrm hp
        exact q4 (upd Hs3 p (.tup (cutV xs l h))) _ (same_new f) _ (S3.new hp) (.tup (SqT.of upd_same) (dpa_mono (same_new f) (rpa_cut r3)))
    | str z =>
      simp only [gSl] at hd
      split at hd
      · rename_i hz
        cases hd
        exact .inr (.inr ⟨z, rfl, million hz, q4 Hs3 _ (Same.refl _) _ S3 (.str _)⟩)
      · cases hd
    | _ => cases hd⟩⟩⟩
/-! ### built-ins -/
theorem VCall.of {r : List V → Hp → VK → Prop} {g : List D → Option D} (h : ∀ (Hs H : Hp) (vs : List V) (ds : List D) (d : D), Same Hs H → RpAll c.K Hs vs ds → g ds = some d → ∃ v, Rp c.K Hs v d ∧ ∀ Q : VK, Q v H → r vs H Q) : VCall c r g :=
  fun Hs G H σ δ vs ds d S rx e Q q => by
    obtain ⟨v, rv, k⟩ := h Hs H vs ds d S.sh rx e
    exact k Q (q v Hs H (Same.refl _) S rv)
theorem rpa1 {K : PySem.W.Frag} {H : Hp} {vs : List V} {d : D} (r : RpAll K H vs [d]) : ∃ v, vs = [v] ∧ Rp K H v d := by
  cases r with
  | cons h t => cases t; exact ⟨_, rfl, h⟩
theorem rpa2 {K : PySem.W.Frag} {H : Hp} {vs : List V} {d e : D} (r : RpAll K H vs [d, e]) : ∃ v w, vs = [v, w] ∧ Rp K H v d ∧ Rp K H w e := by
  cases r with
  | cons h t => cases t with
    | cons h2 t2 => cases t2; exact ⟨_, _, rfl, h, h2⟩
def gLen : List D → Option D
  | [.list xs] => some (.int xs.length)
  | [.tuple xs] => some (.int xs.length)
  | [.str z] => if z.length ≤ 1000000 then some (.int z.length) else none
  | _ => none
def rLenA (K : PySem.W.Frag) : List V → Hp → VK → Prop := fun xs H Q => ∃ x n, xs = [x] ∧ LenV K x H n ∧ Q (.int n) H
theorem gLen_inv {ds : List D} {d : D} (h : gLen ds = some d) : (∃ xs, ds = [.list xs] ∧ d = .int xs.length) ∨ (∃ xs, ds = [.tuple xs] ∧ d = .int xs.length) ∨ (∃ z, ds = [.str z] ∧ z.length ≤ 1000000 ∧ d = .int z.length) := by
  unfold gLen at h
  split at h
  · cases h; exact .inl ⟨_, rfl, rfl⟩
  · cases h; exact .inr (.inl ⟨_, rfl, rfl⟩)
  · split at h
    · rename_i z hz; cases h; exact .inr (.inr ⟨_, rfl, hz, rfl⟩)
    · cases h
  · cases h
theorem vLen : VCall c (rLenA c.K) gLen := VCall.of fun Hs H vs ds d s r e => by
  rcases gLen_inv e with ⟨xs, rfl, rfl⟩ | ⟨xs, rfl, rfl⟩ | ⟨z, rfl, hz, rfl⟩
  · obtain ⟨v, rfl, rv⟩ := rpa1 r
    cases rv with
    | @lst a ys _ h1 r1 => exact ⟨_, .int _, fun Q q => ⟨_, _, rfl, .inl ⟨_, same_l s h1, by rw [dpa_len r1]⟩, q⟩⟩
  · obtain ⟨v, rfl, rv⟩ := rpa1 r
    cases rv with
    | @tup a ys _ h1 r1 => exact ⟨_, .int _, fun Q q => ⟨_, _, rfl, .inr ⟨_, same_t s h1, by rw [dpa_len r1]⟩, q⟩⟩
  · obtain ⟨v, rfl, rv⟩ := rpa1 r
    cases rv
    exact ⟨_, .int _, fun Q q => ⟨_, _, rfl, ⟨million hz, rfl⟩, q⟩⟩
def boolsOf : List D → Option (List Bool)
  | [] => some []
  | .bool i :: r => (boolsOf r).map (i :: ·)
  | _ => none
theorem rpa_boolsOf {K : PySem.W.Frag} {H : Hp} : ∀ {ds : List D} {vs : List V} {ns : List Bool}, RpAll K H vs ds → boolsOf ds = some ns → vs = ns.map V.bl
  | _, _, _, .nil, e => by cases e; rfl
  | _, _, ns, .cons h1 h2, e => by
    cases h1 with
    | bl i =>
      simp only [boolsOf, Option.map_eq_some_iff] at e
      obtain ⟨ms, e1, e2⟩ := e
      subst e2
      rw [rpa_boolsOf h2 e1]
      rfl
    | _ => cases e
theorem boolsOf_map : ∀ ns : List Bool, boolsOf (ns.map PyData.bool) = some ns
  | [] => rfl
  | n :: ns => by show (boolsOf (ns.map PyData.bool)).map (n :: ·) = _; rw [boolsOf_map ns]; rfl
def gAll : List D → Option D
  | [.list xs] => (boolsOf xs).map fun bs => .bool (bs.all id)
  | _ => none
theorem vAll : VCall c (rAll c.K) gAll := VCall.of fun Hs H vs ds d s r e => by
  unfold gAll at e
  split at e
  · obtain ⟨bs, e1, e2⟩ := Option.map_eq_some_iff.mp e
    subst e2
    obtain ⟨v, rfl, rv⟩ := rpa1 r
    cases rv with
    | @lst a ys _ h1 r1 =>
      have z := rpa_boolsOf r1 e1
      subst z
      exact ⟨_, .bl _, fun Q q => ⟨a, bs, rfl, same_l s h1, q⟩⟩
  · cases e
def gAbs : List D → Option D
  | [.int i] => some (.int (if i < 0 then -i else i))
  | _ => none
theorem vAbs : VCall c (fun xs H Q => ∃ i, xs = [.int i] ∧ Q (.int (if i < 0 then -i else i)) H) gAbs := VCall.of fun Hs H vs ds d s r e => by
  unfold gAbs at e
  split at e
  · cases e
    obtain ⟨v, rfl, rv⟩ := rpa1 r
    cases rv
    exact ⟨_, .int _, fun Q q => ⟨_, rfl, q⟩⟩
  · cases e
def gMax : List D → Option D
  | [.int i, .int j] => some (.int (if j > i then j else i))
  | _ => none
def gMin : List D → Option D
  | [.int i, .int j] => some (.int (if j < i then j else i))
  | _ => none
theorem vMax : VCall c (fun xs H Q => ∃ i j, xs = [.int i, .int j] ∧ Q (.int (if j > i then j else i)) H) gMax := VCall.of fun Hs H vs ds d s r e => by
  unfold gMax at e
  split at e
  · cases e
    obtain ⟨v, w, rfl, rv, rw'⟩ := rpa2 r
    cases rv; cases rw'
    exact ⟨_, .int _, fun Q q => ⟨_, _, rfl, q⟩⟩
  · cases e
theorem vMin : VCall c (fun xs H Q => ∃ i j, xs = [.int i, .int j] ∧ Q (.int (if j < i then j else i)) H) gMin := VCall.of fun Hs H vs ds d s r e => by
  unfold gMin at e
  split at e
  · cases e
    obtain ⟨v, w, rfl, rv, rw'⟩ := rpa2 r
    cases rv; cases rw'
    exact ⟨_, .int _, fun Q q => ⟨_, _, rfl, q⟩⟩
  · cases e
/-- list(xs), list(t) -/
def gList : List D → Option (List D)
  | [.list xs] => some xs
  | [.tuple xs] => some xs
  | _ => none
theorem vList : VCallF c (fun xs H Q => ∃ p ys, xs = [.ref p] ∧ (SqL c.K H p ys ∨ SqT c.K H p ys) ∧ ∀ l, H l = none → Q (.ref l) (upd H l (.lst ys))) gList := fun Hs G H σ δ vs ds d S r e Q q => by
  unfold gList at e
  split at e
  · cases e
    obtain ⟨v, rfl, rv⟩ := rpa1 r
    cases rv with
    | @lst a ys _ h1 r1 => exact ⟨a, ys, rfl, .inl (same_l S.sh h1), fun l hl => q l ys Hs _ (Same.refl _) (S.loose hl) (S.loose_of hl) upd_same r1⟩
  · cases e
    obtain ⟨v, rfl, rv⟩ := rpa1 r
    cases rv with
    | @tup a ys _ h1 r1 => exact ⟨a, ys, rfl, .inr (same_t S.sh h1), fun l hl => q l ys Hs _ (Same.refl _) (S.loose hl) (S.loose_of hl) upd_same r1⟩
  · cases e
/-- tuple(xs), tuple(t) -/
def gTuple : List D → Option D
  | [.list xs] => some (.tuple xs)
  | [.tuple xs] => some (.tuple xs)
  | _ => none
theorem vTuple : VCall c (fun xs H Q => ∃ p ys, xs = [.ref p] ∧ ((SqL c.K H p ys ∧ ∀ l, H l = none → Q (.ref l) (upd H l (.tup ys))) ∨ (SqT c.K H p ys ∧ Q (.ref p) H))) gTuple := fun Hs G H σ δ vs ds d S r e Q q => by
  unfold gTuple at e
  split at e
  · cases e
    obtain ⟨v, rfl, rv⟩ := rpa1 r
    cases rv with
    | @lst a ys _ h1 r1 => exact ⟨a, ys, rfl, .inl ⟨same_l S.sh h1, fun l hl => q _ (upd Hs l (.tup ys)) _ (same_new (Sat.fresh_s S.toFrm hl)) (S.new hl) (.tup (SqT.of upd_same) (dpa_mono (same_new (Sat.fresh_s S.toFrm hl)) r1))⟩⟩
  · cases e
    obtain ⟨v, rfl, rv⟩ := rpa1 r
    cases rv with
    | @tup a ys _ h1 r1 => exact ⟨a, ys, rfl, .inr ⟨same_t S.sh h1, q _ Hs H (Same.refl _) S (.tup h1 r1)⟩⟩
  · cases e
def gSum : List D → Option D
  | [.list xs] => (intsOf xs).map fun ns => .int ns.sum
  | _ => none
theorem vSum : VCall c (rSum c.K) gSum := VCall.of fun Hs H vs ds d s r e => by
  unfold gSum at e
  split at e
  · obtain ⟨bs, e1, e2⟩ := Option.map_eq_some_iff.mp e
    subst e2
    obtain ⟨v, rfl, rv⟩ := rpa1 r
    cases rv with
    | @lst a ys _ h1 r1 =>
      have z := rpa_intsOf r1 e1
      subst z
      exact ⟨_, .int _, fun Q q => ⟨a, bs, rfl, same_l s h1, q⟩⟩
  · cases e
/-! ### isinstance -/
def tyN : D → String
  | .none => "NoneType" | .bool _ => "bool" | .int _ => "int" | .str _ => "str" | .list _ => "list" | .tuple _ => "tuple" | .dict _ => "dict"
def isiD (d : D) (T : String) : Bool := tyN d == T || (T == "int" && tyN d == "bool")
theorem rp_ty {K : PySem.W.Frag} {H : Hp} {v : V} {d : D} (r : Rp K H v d) : TyX K H v (.type (tyN d)) := by
  cases r with
  | non => exact .base .non
  | bl b => exact .base (.bl b)
  | int b => exact .base (.int b)
  | str b => exact .base (.str b)
  | lst h _ =>
    rcases h with (h | ⟨o, h⟩) | ⟨o, its, n, h, hc, _⟩
    · exact .base (.lst h)
    · exact .base (.frz h)
    · exact .kList h hc
  | tup h _ =>
    rcases h with (h | ⟨o, h⟩) | ⟨o, its, n, h, hc, _⟩
    · exact .base (.tup h)
    · exact .fTuple h
    · exact .kTuple h hc
def eIsi (T : String) (fa : En → Re (D × En)) : En → Re (D × En) := fun δ => (fa δ).bd fun p => .ok (.bool (isiD p.1 T), p.2)
def pIsi (T : String) (fa : En → Re D) : En → Re D := fun δ => (fa δ).bd fun p => .ok (.bool (isiD p T))
theorem eIsi_pu (T : String) (fa : En → Re D) : eIsi T (Pu fa) = Pu (pIsi T fa) := by
  funext δ; unfold eIsi Pu pIsi; cases fa δ <;> rfl
def kitAll (T : String) : Bool := ["NoneType", "bool", "int", "str", "list", "tuple", "dict"].all fun t => decide (kitB t T = some (t == T || (T == "int" && t == "bool")))
theorem kit_all {T : String} (h : kitAll T = true) (d : D) : kitB (tyN d) T = some (isiD d T) := by
  unfold kitAll at h
  have h1 := List.all_eq_true.mp h (tyN d) (by cases d <;> simp [tyN])
  exact of_decide_eq_true h1
theorem same_tyx {K : PySem.W.Frag} {H H' : Hp} {v : V} {d : D} (s : Same H H') (r : Rp K H v d) : TyX K H' v (.type (tyN d)) := rp_ty (dp_mono s r)
theorem de_isi {T : String} {x y : Str} {p p1 : Pos} (ha : PE X a (tD c E fa)) (hT : kitAll T = true) (hK : c.K = X.K) (hg : Gl X x) (hm : X.mg x = none) (hv : bootBuiltins x = some (.builtin "isinstance")) (hg2 : Gl X y) (hm2 : X.mg y = none) (hv2 : bootBuiltins y = some (.type T))
    (hn : x ≠ "__name__" := by decide) (hdb : (x == ("__debug__" : Str)) = false := by decide) (hn2 : y ≠ "__name__" := by decide) (hdb2 : (y == ("__debug__" : Str)) = false := by decide)
    (hs : starEach [a, .Name y p1] X.env = (false, eval a X.env) :: starEach [.Name y p1] X.env := by rfl) (hs2 : starEach [.Name y p1] X.env = (false, eval (.Name y p1) X.env) :: starEach [] X.env := by rfl)
    (hpl : (backTo pos (starEach [.Name y p1] X.env)).any (·.1) = false := by rfl) :
    PE X (.Call (.Name x p) [a, .Name y p1] [] pos) (tD c E (eIsi T fa)) := PE.imp (pe_callB call_isi hg hm hv (pa_cons ha (pa_cons (pe_bltn (v := .ty T) hg2 hm2 hv2 rfl hn2 hdb2) pa_nil hs2) hs) hn hdb hs hpl) fun σ H Q ⟨Hs, G, δ, S, q⟩ =>
  ⟨Hs, G, δ, S, PoG.seq q fun d δ1 Hs1 H1 s1 q1 v S1 r1 => ⟨v, .ty T, .type (tyN d), .type T, isiD d T, rfl, .ty T, by rw [← hK]; exact same_tyx S1.sh r1, kit_ty (kit_all hT d), q1 Hs1 H1 (Same.refl _) _ S1 (.bl _)⟩⟩
end
end DL

/-! DL3: targets, what is walked, comprehensions, statements, loops over data -/
namespace DL
open PySem L2

/-! ### targets -/
/-- d is stored: the names' slots that change are among ts -/
def tG (c : DC) (ts : List Nat) (g : D → En → Option En) : TG := fun v σ H Q => ∃ Hs G δ d δ', Sat c Hs G H σ δ ∧ Rp c.K Hs v d ∧ g d δ = some δ' ∧
  ∀ σ', Sat c Hs G H σ' δ' → (∀ vs : List Nat, (∀ t ∈ ts, t ∈ vs) → wipe σ' vs = wipe σ vs) → Q σ' H
def tGs (c : DC) (ts : List Nat) (g : List D → En → Option En) : TGs := fun v σ H Q => ∃ Hs G δ d δ', Sat c Hs G H σ δ ∧ RpAll c.K Hs v d ∧ g d δ = some δ' ∧
  ∀ σ', Sat c Hs G H σ' δ' → (∀ vs : List Nat, (∀ t ∈ ts, t ∈ vs) → wipe σ' vs = wipe σ vs) → Q σ' H
theorem PG.imp {X : Cx} {e : Expr} {t t' : TG} (h : PG X e t) (w : ∀ v σ H Q, t' v σ H Q → t v σ H Q) : PG X e t' := ⟨fun pins s σ H v u Q I r q => h.run pins s σ H v u Q I r (w v σ H Q q)⟩
theorem PGs.imp {X : Cx} {e : List Expr} {t t' : TGs} (h : PGs X e t) (w : ∀ v σ H Q, t' v σ H Q → t v σ H Q) : PGs X e t' := ⟨fun pins s σ H v u Q I r q => h.run pins s σ H v u Q I r (w v σ H Q q)⟩
theorem wipe_set {i : Nat} {w : Option V} : ∀ {vs : List Nat} {σ : St}, i ∈ vs → wipe (σ.set i w) vs = wipe σ vs
  | v :: vs, σ, h => by
    unfold wipe
    by_cases e : i = v
    · subst e
      have q : ∀ (vs : List Nat) (σ : St), (wipe (σ.set i w) vs).set i none = (wipe σ vs).set i none := by
        intro vs
        induction vs with
        | nil => intro σ; unfold wipe; rw [List.set_set]
        | cons u us ih =>
          intro σ
          unfold wipe
          by_cases e2 : u = i
          · subst e2
            rw [List.set_set, List.set_set]
            exact ih σ
          · rw [List.set_comm _ _ e2, List.set_comm _ _ e2, ih σ]
      exact q vs σ
    · rw [wipe_set (by
        rcases List.mem_cons.mp h with z | z
        · exact absurd z e
        · exact z)]
def gNm (i : Nat) : D → En → Option En := fun d δ => some (δ.set i (.sh d))
def gsNil : List D → En → Option En := fun ds δ => match ds with
  | [] => some δ
  | _ => none
def gsCons (g : D → En → Option En) (gs : List D → En → Option En) : List D → En → Option En := fun ds δ => match ds with
  | d :: r => (g d δ).bind fun δ' => gs r δ'
  | [] => none
def gTp (gs : List D → En → Option En) : D → En → Option En := fun d δ => match d with
  | .tuple ds => gs ds δ
  | _ => none
section
variable {X : Cx} {c : DC} {pos : Pos}
theorem dg_name {i : Nat} {x : Str} (hm : i ∉ c.mi) (hN : X.N.Nodup) (hi : X.N[i]? = some x) (hx : Loc X.env.scope x) (hf : X.fn x = true ∨ X.env.scope.names.lookup x = some .local := by first | exact .inl rfl | exact .inr rfl | assumption) : PG X (.Name x pos) (tG c [i] (gNm i)) :=
  PG.imp (pg_name hN hi hx hf) fun v σ H Q ⟨Hs, G, δ, d, δ', S, r, e, q⟩ => by
    cases e
    exact q _ (S.setSh hm r) fun vs h => wipe_set (h i (by simp))
theorem dgs_nil : PGs X [] (tGs c [] gsNil) := PGs.imp pgs_nil fun v σ H Q ⟨Hs, G, δ, d, δ', S, r, e, q⟩ => by
  cases r with
  | nil => cases e; exact ⟨rfl, q σ S fun _ _ => rfl⟩
  | cons _ _ => cases e
theorem dgs_cons {e : Expr} {es : List Expr} {ts us : List Nat} {g : D → En → Option En} {gs : List D → En → Option En} (h1 : PG X e (tG c ts g)) (h2 : PGs X es (tGs c us gs))
    (hs : (assignEach (e :: es) X.env).map (·.2) = assign e X.env :: (assignEach es X.env).map (·.2) := by rfl) : PGs X (e :: es) (tGs c (ts ++ us) (gsCons g gs)) := PGs.imp (pgs_cons h1 h2 hs) fun v σ H Q ⟨Hs, G, δ, d, δ', S, r, e, q⟩ => by
  cases r with
  | nil => cases e
  | cons r1 r2 =>
    obtain ⟨δ1, e1, e2⟩ := Option.bind_eq_some_iff.mp e
    exact ⟨_, _, rfl, Hs, G, δ, _, δ1, S, r1, e1, fun σ1 S1 w1 => ⟨Hs, G, δ1, _, δ', S1, r2, e2, fun σ2 S2 w2 => q σ2 S2 fun vs h => (w2 vs fun t ht => h t (List.mem_append_right _ ht)).trans (w1 vs fun t ht => h t (List.mem_append_left _ ht))⟩⟩
theorem gs_len {ts : List Nat} {gs : List D → En → Option En} {es : List Expr} : PGs X es (tGs c ts gs) → True := fun _ => trivial
/-- the target's number is told: n -/
def gTpN (n : Nat) (gs : List D → En → Option En) : D → En → Option En := fun d δ => match d with
  | .tuple ds => if ds.length = n then gs ds δ else none
  | .list ds => if ds.length = n then gs ds δ else none
  | _ => none
theorem dg_tup {es : List Expr} {k : Nat} {ts : List Nat} {gs : List D → En → Option En} {n : Nat} (hK : c.K = X.K) (hc : X.calm = true) (h : PGs X es (tGs c ts gs))
    (hn : (assignEach es X.env).length = n := by rfl) (hst : (assignEach es X.env).findIdx? (·.1) = none := by rfl) : PG X (.Tuple es k pos) (tG c ts (gTpN n gs)) := ⟨fun pins s σ H v u Q I rv ⟨Hs, G, δ, d, δ', S, r, e, q⟩ => by
  cases r with
  | @tup a xs ds h1 r1 =>
    unfold gTpN at e
    simp only at e
    split at e
    · rename_i hl
      exact (pg_tup hc h hn hst).run pins s σ H _ _ Q I rv ⟨a, xs, rfl, by rw [← hK]; exact same_t S.sh h1, by rw [dpa_len r1]; exact hl, Hs, G, δ, ds, δ', S, r1, e, q⟩
    · cases e
  | @lst a xs ds h1 r1 =>
    unfold gTpN at e
    simp only at e
    split at e
    · rename_i hl
      exact (pg_lst hc h hn hst).run pins s σ H _ _ Q I rv ⟨a, xs, rfl, by rw [← hK]; exact same_l S.sh h1, by rw [dpa_len r1]; exact hl, Hs, G, δ, ds, δ', S, r1, e, q⟩
    · cases e
  | _ => cases e⟩

/-! ### what is walked -/
/-- the iterator gives the items ds one after another, whatever the frame is -/
def ItD (c : DC) (J : It) (H0 : Hp) (ds : List D) : Prop := ∀ (Hs G H : Hp) (σ : St) (δ : En), Same H0 Hs → Sat c Hs G H σ δ →
  (∀ (i : Nat) (d : D), ds[i]? = some d → J.go i H ∧ ∀ x H', J.yld i H x H' → ∃ Hs', Same Hs Hs' ∧ Sat c Hs' G H' σ δ ∧ Rp c.K Hs' x d) ∧ ∀ i, ds.length ≤ i → J.stop i H
def tI (c : DC) (E : XK) (f : En → Re (List D × En)) : TI := fun σ H R => ∃ Hs G δ, Sat c Hs G H σ δ ∧
  PoG c E Hs G (fun ds δ' Hs' H' => ∀ J, Sat c Hs' G H' σ δ' → ItD c J Hs' ds → R J H') (f δ)
theorem PI.imp {X : Cx} {tg e : Expr} {t t' : TI} (h : PI X tg e t) (w : ∀ σ H Q, t' σ H Q → t σ H Q) : PI X tg e t' := ⟨fun pins s σ H Q I q => h.run pins s σ H Q I (w σ H Q q)⟩
variable {E : XK} {tg e e2 : Expr} {fa : En → Re (D × En)} {fr : En → Re (List D × En)}
theorem sql_same {K : PySem.W.Frag} {H : Hp} {a : Addr} {xs ys : List V} (h : H a = some (.lst xs)) (h' : SqL K H a ys) (hk : K.lookup a = none ∨ True) : Rd H a (.lst ys) → ys = xs := fun r => by
  rcases r with r | ⟨o, r⟩
  · rw [h] at r; cases r; rfl
  · rw [h] at r; cases r
/-- for x in e, e a list -/
def eLi (fa : En → Re (D × En)) : En → Re (List D × En) := fun δ => (fa δ).bd fun p => match p.1 with
  | .list ds => .ok (ds, p.2)
  | _ => .bad
def pLi (fa : En → Re D) : En → Re (List D) := fun δ => (fa δ).bd fun p => match p with
  | .list ds => .ok ds
  | _ => .bad
theorem eLi_pu (f : En → Re D) : eLi (Pu f) = Pu (pLi f) := by
  funext δ; unfold eLi Pu pLi
  cases f δ with
  | ok x => cases x <;> rfl
  | _ => rfl
theorem itd_list {a : Addr} {xs : List V} {ds : List D} {Hs : Hp} (h1 : SqL c.K Hs a xs) (r1 : RpAll c.K Hs xs ds) : ItD c (Itl c.K a) Hs ds := fun Hs2 G H σ δ s S => by
  have h2 : SqL c.K H a xs := same_l S.sh (same_l s h1)
  refine ⟨fun i d hi => ?_, fun i hi => ⟨xs, h2, by rw [dpa_len r1]; exact hi⟩⟩
  obtain ⟨v, hv, rv⟩ := dpa_get r1 hi
  refine ⟨⟨xs, v, h2, hv⟩, fun x H' y => ?_⟩
  obtain ⟨e, y⟩ := y
  subst e
  have := y xs (h2)
  rw [hv] at this
  cases this
  exact ⟨Hs2, Same.refl _, S, dp_mono s rv⟩
theorem itd_tup {a : Addr} {xs : List V} {ds : List D} {Hs : Hp} (h1 : SqT c.K Hs a xs) (r1 : RpAll c.K Hs xs ds) : ItD c (Itt c.K a) Hs ds := fun Hs2 G H σ δ s S => by
  have h2 : SqT c.K H a xs := same_t S.sh (same_t s h1)
  refine ⟨fun i d hi => ?_, fun i hi => ⟨xs, h2, by rw [dpa_len r1]; exact hi⟩⟩
  obtain ⟨v, hv, rv⟩ := dpa_get r1 hi
  refine ⟨⟨xs, v, h2, hv⟩, fun x H' y => ?_⟩
  obtain ⟨e, y⟩ := y
  subst e
  have := y xs h2
  rw [hv] at this
  cases this
  exact ⟨Hs2, Same.refl _, S, dp_mono s rv⟩
theorem di_list (hK : c.K = X.K) (ha : PE X e (tD c E fa)) : PI X tg e (tI c E (eLi fa)) := PI.imp (pi_list ha) fun σ H R ⟨Hs, G, δ, S, q⟩ =>
  ⟨Hs, G, δ, S, PoG.seq q fun d δ1 Hs1 H1 s1 q1 v S1 r1 => by
    cases r1 with
    | @lst a xs ds h1 r1 => exact ⟨a, rfl, ⟨xs, (hK ▸ same_l S1.sh h1)⟩, by rw [← hK]; exact q1 Hs1 H1 (Same.refl _) _ S1 (itd_list h1 r1)⟩
    | _ => exact False.elim q1⟩
/-- a tuple -/
def eTi (fa : En → Re (D × En)) : En → Re (List D × En) := fun δ => (fa δ).bd fun p => match p.1 with
  | .tuple ds => .ok (ds, p.2)
  | _ => .bad
def pTi (fa : En → Re D) : En → Re (List D) := fun δ => (fa δ).bd fun p => match p with
  | .tuple ds => .ok ds
  | _ => .bad
theorem eTi_pu (f : En → Re D) : eTi (Pu f) = Pu (pTi f) := by
  funext δ; unfold eTi Pu pTi
  cases f δ with
  | ok x => cases x <;> rfl
  | _ => rfl
theorem di_tup (hK : c.K = X.K) (ha : PE X e (tD c E fa)) : PI X tg e (tI c E (eTi fa)) := PI.imp (pi_tup ha) fun σ H R ⟨Hs, G, δ, S, q⟩ =>
  ⟨Hs, G, δ, S, PoG.seq q fun d δ1 Hs1 H1 s1 q1 v S1 r1 => by
    cases r1 with
    | @tup a xs ds h1 r1 => exact ⟨a, rfl, ⟨xs, by rw [← hK]; exact same_t S1.sh h1⟩, by rw [← hK]; exact q1 Hs1 H1 (Same.refl _) _ S1 (itd_tup h1 r1)⟩
    | _ => exact False.elim q1⟩
/-- a text, sign by sign -/
def eSi (fa : En → Re (D × En)) : En → Re (List D × En) := fun δ => (fa δ).bd fun p => match p.1 with
  | .str z => .ok (z.cps.toList.map fun k => .str ⟨#[k]⟩, p.2)
  | _ => .bad
def pSi (fa : En → Re D) : En → Re (List D) := fun δ => (fa δ).bd fun p => match p with
  | .str z => .ok (z.cps.toList.map fun k => .str ⟨#[k]⟩)
  | _ => .bad
theorem eSi_pu (f : En → Re D) : eSi (Pu f) = Pu (pSi f) := by
  funext δ; unfold eSi Pu pSi
  cases f δ with
  | ok x => cases x <;> rfl
  | _ => rfl
theorem di_str (ha : PE X e (tD c E fa)) : PI X tg e (tI c E (eSi fa)) := PI.imp (pi_str ha) fun σ H R ⟨Hs, G, δ, S, q⟩ =>
  ⟨Hs, G, δ, S, PoG.seq q fun d δ1 Hs1 H1 s1 q1 v S1 r1 => by
    cases r1 with
    | str z =>
      refine ⟨z, rfl, q1 Hs1 H1 (Same.refl _) _ S1 fun Hs2 G2 H2 σ2 δ2 s2 S2 => ⟨fun i d hi => ?_, fun i hi => ?_⟩⟩
      · rw [List.getElem?_map] at hi
        obtain ⟨k, hk, hd⟩ := Option.map_eq_some_iff.mp hi
        subst hd
        have hk' : z.cps[i]? = some k := by simpa using hk
        refine ⟨(Array.getElem?_eq_some_iff.mp hk').1, fun x H' y => ?_⟩
        obtain ⟨e, k2, h2, h3⟩ := y
        subst e h3
        rw [hk'] at h2
        cases h2
        exact ⟨Hs2, Same.refl _, S2, .str _⟩
      · show z.cps.size ≤ i
        simpa using hi
    | _ => exact False.elim q1⟩
/-- range(n), range(a, b) -/
def rgD (i j : Int) : List D := (List.range (j - i).toNat).map fun k => .int (i + (k : Nat))
def gRg1 : List D → Option (List D)
  | [.int j] => if j < 2 ^ 62 ∧ -(2 ^ 62) ≤ j then some (rgD 0 j) else none
  | _ => none
def gRg2 : List D → Option (List D)
  | [.int i, .int j] => if (j < 2 ^ 62 ∧ -(2 ^ 62) ≤ j) ∧ (i < 2 ^ 62 ∧ -(2 ^ 62) ≤ i) then some (rgD i j) else none
  | _ => none
/-- range(a, b, -1) -/
def rgDn (i j : Int) : List D := (List.range (i - j).toNat).map fun k => .int (i + (k : Nat) * -1)
def gRg3 : List D → Option (List D)
  | [.int i, .int j, .int s] => if s = -1 ∧ (j < 2 ^ 62 ∧ -(2 ^ 62) ≤ j) ∧ (i < 2 ^ 62 ∧ -(2 ^ 62) ≤ i) then some (rgDn i j) else none
  | _ => none
theorem gRg1_inv {ds r : List D} (h : gRg1 ds = some r) : ∃ j, ds = [.int j] ∧ (j < 2 ^ 62 ∧ -(2 ^ 62) ≤ j) ∧ r = rgD 0 j := by
  unfold gRg1 at h
  split at h
  · split at h
    · rename_i j hj; cases h; exact ⟨j, rfl, hj, rfl⟩
    · cases h
  · cases h
theorem gRg2_inv {ds r : List D} (h : gRg2 ds = some r) : ∃ i j, ds = [.int i, .int j] ∧ ((j < 2 ^ 62 ∧ -(2 ^ 62) ≤ j) ∧ (i < 2 ^ 62 ∧ -(2 ^ 62) ≤ i)) ∧ r = rgD i j := by
  unfold gRg2 at h
  split at h
  · split at h
    · rename_i i j hj; cases h; exact ⟨i, j, rfl, hj, rfl⟩
    · cases h
  · cases h
theorem gRg3_inv {ds r : List D} (h : gRg3 ds = some r) : ∃ i j, ds = [.int i, .int j, .int (-1)] ∧ ((j < 2 ^ 62 ∧ -(2 ^ 62) ≤ j) ∧ (i < 2 ^ 62 ∧ -(2 ^ 62) ≤ i)) ∧ r = rgDn i j := by
  unfold gRg3 at h
  split at h
  · split at h
    · rename_i i j s hj
      cases h
      obtain ⟨rfl, h2⟩ := hj
      exact ⟨i, j, rfl, h2, rfl⟩
    · cases h
  · cases h
theorem itd_rg {i j : Int} {Hs : Hp} {n : Nat} (hn : n = (j - i).toNat) : ItD c (Itr i n) Hs (rgD i j) := fun Hs2 G H σ δ s S => by
  refine ⟨fun k d hk => ?_, fun k hk => ?_⟩
  · unfold rgD at hk
    rw [List.getElem?_map] at hk
    obtain ⟨m, hm, hd⟩ := Option.map_eq_some_iff.mp hk
    subst hd
    obtain ⟨hlt, e2⟩ := List.getElem?_eq_some_iff.mp hm
    have e3 : k = m := by simpa using e2
    subst e3
    refine ⟨?_, fun x H' y => ?_⟩
    · show k < n
      rw [List.length_range] at hlt
      omega
    obtain ⟨e, y⟩ := y
    subst e y
    exact ⟨Hs2, Same.refl _, S, .int _⟩
  · show n ≤ k
    unfold rgD at hk
    rw [List.length_map, List.length_range] at hk
    omega
theorem itd_rgn {i j : Int} {Hs : Hp} {n : Nat} (hn : n = (i - j).toNat) : ItD c (Itc i (-1) n) Hs (rgDn i j) := fun Hs2 G H σ δ s S => by
  refine ⟨fun k d hk => ?_, fun k hk => ?_⟩
  · unfold rgDn at hk
    rw [List.getElem?_map] at hk
    obtain ⟨m, hm, hd⟩ := Option.map_eq_some_iff.mp hk
    subst hd
    obtain ⟨hlt, e2⟩ := List.getElem?_eq_some_iff.mp hm
    have e3 : k = m := by simpa using e2
    subst e3
    refine ⟨?_, fun x H' y => ?_⟩
    · show k < n
      rw [List.length_range] at hlt
      omega
    obtain ⟨e, y⟩ := y
    subst e y
    exact ⟨Hs2, Same.refl _, S, .int _⟩
  · show n ≤ k
    unfold rgDn at hk
    rw [List.length_map, List.length_range] at hk
    omega
theorem di_range1 {p pos : Pos} (hg : Gl X "range") (hm : X.mg "range" = none) (ha : PA X [e] (tA c E fr)) (hs : starEach [e] X.env = [(false, eval e X.env)] := by rfl) : PI X tg (.Call (.Name "range" p) [e] [] pos) (tI c E (eCa gRg1 fr)) := PI.imp (pi_range1 hg hm ha hs) fun σ H R ⟨Hs, G, δ, S, q⟩ =>
  ⟨Hs, G, δ, S, PoG.seq q fun ds δ1 Hs1 H1 s1 q1 vs S1 r1 => by
    obtain ⟨d, hd, q2⟩ := PoG.last (k := fun d => (d, δ1)) q1
    obtain ⟨j, rfl, hj, rfl⟩ := gRg1_inv hd
    obtain ⟨v, rfl, rv⟩ := rpa1 r1
    cases rv
    exact ⟨j, rfl, hj.2, hj.1, q2 Hs1 H1 (Same.refl _) _ S1 (itd_rg (by rw [Int.sub_zero]))⟩⟩
theorem di_range2 {p pos : Pos} (hg : Gl X "range") (hm : X.mg "range" = none) (ha : PA X [e, e2] (tA c E fr)) (hs : starEach [e, e2] X.env = [(false, eval e X.env), (false, eval e2 X.env)] := by rfl) (hs2 : starEach [e2] X.env = [(false, eval e2 X.env)] := by rfl) : PI X tg (.Call (.Name "range" p) [e, e2] [] pos) (tI c E (eCa gRg2 fr)) := PI.imp (pi_range2 hg hm ha hs hs2) fun σ H R ⟨Hs, G, δ, S, q⟩ =>
  ⟨Hs, G, δ, S, PoG.seq q fun ds δ1 Hs1 H1 s1 q1 vs S1 r1 => by
    obtain ⟨d, hd, q2⟩ := PoG.last (k := fun d => (d, δ1)) q1
    obtain ⟨i, j, rfl, hj, rfl⟩ := gRg2_inv hd
    obtain ⟨v, w', rfl, rv, rw'⟩ := rpa2 r1
    cases rv
    cases rw'
    exact ⟨i, j, rfl, ⟨hj.2.2, hj.2.1, hj.1.2, hj.1.1⟩, q2 Hs1 H1 (Same.refl _) _ S1 (itd_rg rfl)⟩⟩
theorem rpa3 {K : PySem.W.Frag} {H : Hp} {vs : List V} {d e f : D} (r : RpAll K H vs [d, e, f]) : ∃ v w u, vs = [v, w, u] ∧ Rp K H v d ∧ Rp K H w e ∧ Rp K H u f := by
  cases r with
  | cons h t => cases t with
    | cons h2 t2 => cases t2 with
      | cons h3 t3 => cases t3; exact ⟨_, _, _, rfl, h, h2, h3⟩
theorem di_range3 {e3 : Expr} {p pos : Pos} (hg : Gl X "range") (hm : X.mg "range" = none) (ha : PA X [e, e2, e3] (tA c E fr)) (hs : starEach [e, e2, e3] X.env = (false, eval e X.env) :: starEach [e2, e3] X.env := by rfl) (hpl : (backTo pos (starEach [e2, e3] X.env)).any (·.1) = false := by rfl) : PI X tg (.Call (.Name "range" p) [e, e2, e3] [] pos) (tI c E (eCa gRg3 fr)) := PI.imp (pi_range3 hg hm ha hs hpl) fun σ H R ⟨Hs, G, δ, S, q⟩ =>
  ⟨Hs, G, δ, S, PoG.seq q fun ds δ1 Hs1 H1 s1 q1 vs S1 r1 => by
    obtain ⟨d, hd, q2⟩ := PoG.last (k := fun d => (d, δ1)) q1
    obtain ⟨i, j, rfl, hj, rfl⟩ := gRg3_inv hd
    obtain ⟨v, w', u, rfl, rv, rw', ru⟩ := rpa3 r1
    cases rv
    cases rw'
    cases ru
    exact ⟨i, j, -1, _, rfl, RgC.neg hj.2.2 hj.2.1 hj.1.2 hj.1.1, q2 Hs1 H1 (Same.refl _) _ S1 (itd_rgn rfl)⟩⟩
/-- zip of two lists, enumerate, reversed of a list -/
def gZip : List D → Option (List D)
  | [.list xs, .list ys] => some (List.zipWith (fun x y => .tuple [x, y]) xs ys)
  | _ => none
def gEnum : List D → Option (List D)
  | [.list xs] => some (xs.mapIdx fun i x => .tuple [.int (i : Nat), x])
  | _ => none
def gRevd : List D → Option (List D)
  | [.list xs] => some xs.reverse
  | _ => none
theorem gZip_inv {ds r : List D} (h : gZip ds = some r) : ∃ xs ys, ds = [.list xs, .list ys] ∧ r = List.zipWith (fun x y => .tuple [x, y]) xs ys := by
  unfold gZip at h
  split at h
  · cases h; exact ⟨_, _, rfl, rfl⟩
  · cases h
theorem gEnum_inv {ds r : List D} (h : gEnum ds = some r) : ∃ xs, ds = [.list xs] ∧ r = xs.mapIdx fun i x => .tuple [.int (i : Nat), x] := by
  unfold gEnum at h
  split at h
  · cases h; exact ⟨_, rfl, rfl⟩
  · cases h
theorem gRevd_inv {ds r : List D} (h : gRevd ds = some r) : ∃ xs, ds = [.list xs] ∧ r = xs.reverse := by
  unfold gRevd at h
  split at h
  · cases h; exact ⟨_, rfl, rfl⟩
  · cases h
theorem di_zip {p pos tpos : Pos} {elts : List Expr} {kk : Nat} (hK : c.K = X.K) (hg : Gl X "zip") (hm : X.mg "zip" = none) (ha : PA X [e, e2] (tA c E fr)) (hs : starEach [e, e2] X.env = (false, eval e X.env) :: starEach [e2] X.env := by rfl) (hpl : (backTo pos (starEach [e2] X.env)).any (·.1) = false := by rfl) :
    PI X (.Tuple elts kk tpos) (.Call (.Name "zip" p) [e, e2] [] pos) (tI c E (eCa gZip fr)) := PI.imp (pi_zip hg hm ha hs hpl) fun σ H R ⟨Hs, G, δ, S, q⟩ =>
  ⟨Hs, G, δ, S, PoG.seq q fun ds δ1 Hs1 H1 s1 q1 vs S1 r1 => by
    obtain ⟨d, hd, q2⟩ := PoG.last (k := fun d => (d, δ1)) q1
    obtain ⟨xs0, ys0, rfl, rfl⟩ := gZip_inv hd
    obtain ⟨v, w', rfl, rv, rw'⟩ := rpa2 r1
    cases rv with
    | @lst a xs _ h1 q9 => cases rw' with
      | @lst b ys _ h2 r2 =>
        refine ⟨a, b, xs, ys, rfl, (hK ▸ same_l S1.sh h1), (hK ▸ same_l S1.sh h2), q2 Hs1 H1 (Same.refl _) _ S1 fun Hs2 G2 H2 σ2 δ2 s2 S2 => ⟨fun i d hi => ?_, fun i hi => ?_⟩⟩
        · rw [List.getElem?_zipWith] at hi
          split at hi
          · rename_i x y ex ey
            cases hi
            obtain ⟨vx, hvx, rx⟩ := dpa_get q9 ex
            obtain ⟨vy, hvy, ry⟩ := dpa_get r2 ey
            have g1 : SqL X.K H2 a xs := (hK ▸ same_l S2.sh (same_l s2 h1))
            have g2 : SqL X.K H2 b ys := (hK ▸ same_l S2.sh (same_l s2 h2))
            refine ⟨⟨xs, ys, vx, vy, g1, g2, hvx, hvy⟩, fun z H' y => ?_⟩
            obtain ⟨T, x1, y1, rfl, hT, rfl, p1, p2⟩ := y
            have e1 := p1 xs g1
            have e2 := p2 ys g2
            rw [hvx] at e1
            rw [hvy] at e2
            cases e1
            cases e2
            have f := Sat.fresh_s S2.toFrm hT
            exact ⟨upd Hs2 T (.tup [vx, vy]), same_new f, S2.new hT, .tup (SqT.of upd_same) (.cons (dp_mono (s2.trans (same_new f)) rx) (.cons (dp_mono (s2.trans (same_new f)) ry) .nil))⟩
          · cases hi
        · refine ⟨xs, ys, (hK ▸ same_l S2.sh (same_l s2 h1)), (hK ▸ same_l S2.sh (same_l s2 h2)), ?_⟩
          rw [List.length_zipWith] at hi
          rw [dpa_len q9, dpa_len r2]
          omega⟩
theorem di_enum {p pos tpos : Pos} {elts : List Expr} {kk : Nat} (hK : c.K = X.K) (hg : Gl X "enumerate") (hm : X.mg "enumerate" = none) (ha : PA X [e] (tA c E fr)) (hs : starEach [e] X.env = [(false, eval e X.env)] := by rfl) :
    PI X (.Tuple elts kk tpos) (.Call (.Name "enumerate" p) [e] [] pos) (tI c E (eCa gEnum fr)) := PI.imp (pi_enum hg hm ha hs) fun σ H R ⟨Hs, G, δ, S, q⟩ =>
  ⟨Hs, G, δ, S, PoG.seq q fun ds δ1 Hs1 H1 s1 q1 vs S1 r1 => by
    obtain ⟨d, hd, q2⟩ := PoG.last (k := fun d => (d, δ1)) q1
    obtain ⟨xs0, rfl, rfl⟩ := gEnum_inv hd
    obtain ⟨v, rfl, rv⟩ := rpa1 r1
    cases rv with
    | @lst a xs _ h1 q9 =>
      refine ⟨a, xs, rfl, (hK ▸ same_l S1.sh h1), q2 Hs1 H1 (Same.refl _) _ S1 fun Hs2 G2 H2 σ2 δ2 s2 S2 => ⟨fun i d hi => ?_, fun i hi => ?_⟩⟩
      · rw [List.getElem?_mapIdx] at hi
        obtain ⟨x, ex, ed⟩ := Option.map_eq_some_iff.mp hi
        subst ed
        obtain ⟨vx, hvx, rx⟩ := dpa_get q9 ex
        have g1 : SqL X.K H2 a xs := (hK ▸ same_l S2.sh (same_l s2 h1))
        refine ⟨⟨xs, vx, g1, hvx⟩, fun z H' y => ?_⟩
        obtain ⟨T, x1, rfl, hT, rfl, p1⟩ := y
        have e1 := p1 xs g1
        rw [hvx] at e1
        cases e1
        have f := Sat.fresh_s S2.toFrm hT
        exact ⟨upd Hs2 T (.tup [.int (i : Nat), vx]), same_new f, S2.new hT, .tup (SqT.of upd_same) (.cons (.int _) (.cons (dp_mono (s2.trans (same_new f)) rx) .nil))⟩
      · refine ⟨xs, (hK ▸ same_l S2.sh (same_l s2 h1)), ?_⟩
        rw [List.length_mapIdx] at hi
        rw [dpa_len q9]
        exact hi⟩
theorem di_rev {p pos : Pos} (hK : c.K = X.K) (hg : Gl X "reversed") (hm : X.mg "reversed" = none) (ha : PA X [e] (tA c E fr)) (hs : starEach [e] X.env = [(false, eval e X.env)] := by rfl) :
    PI X tg (.Call (.Name "reversed" p) [e] [] pos) (tI c E (eCa gRevd fr)) := PI.imp (pi_reversed hg hm ha hs) fun σ H R ⟨Hs, G, δ, S, q⟩ =>
  ⟨Hs, G, δ, S, PoG.seq q fun ds δ1 Hs1 H1 s1 q1 vs S1 r1 => by
    obtain ⟨d, hd, q2⟩ := PoG.last (k := fun d => (d, δ1)) q1
    obtain ⟨xs0, rfl, rfl⟩ := gRevd_inv hd
    obtain ⟨v, rfl, rv⟩ := rpa1 r1
    cases rv with
    | @lst a xs _ h1 q9 =>
      refine ⟨a, xs, rfl, (hK ▸ same_l S1.sh h1), q2 Hs1 H1 (Same.refl _) _ S1 fun Hs2 G2 H2 σ2 δ2 s2 S2 => ⟨fun i d hi => ?_, fun i hi => ?_⟩⟩
      · obtain ⟨hlt, _⟩ := List.getElem?_eq_some_iff.mp hi
        rw [List.length_reverse] at hlt
        rw [List.getElem?_reverse hlt] at hi
        obtain ⟨vx, hvx, rx⟩ := dpa_get q9 hi
        have g1 : SqL X.K H2 a xs := (hK ▸ same_l S2.sh (same_l s2 h1))
        rw [← dpa_len q9] at hvx hlt
        refine ⟨⟨hlt, xs, vx, g1, hvx⟩, fun z H' y => ?_⟩
        obtain ⟨rfl, p1⟩ := y
        have e1 := p1 xs g1
        rw [hvx] at e1
        cases e1
        exact ⟨Hs2, Same.refl _, S2, dp_mono s2 rx⟩
      · show xs.length ≤ i
        rw [List.length_reverse] at hi
        rw [dpa_len q9]
        exact hi⟩
end
end DL

/-! DL4: comprehensions -/
namespace DL
open PySem L2

/-- slots forgotten, slots as they were -/
def wp (δ : En) : List Nat → En
  | [] => δ
  | v :: vs => (wp δ vs).set v .no
def chk (δ : En) (vs : List Nat) : Bool := vs.all fun i => match δ[i]? with
  | some (.sh _) => true
  | some .no => true
  | _ => false
def rs (δ0 : En) : En → List Nat → En
  | δ, [] => δ
  | δ, v :: vs => rs δ0 (δ.set v (δ0.getD v .no)) vs

theorem wp_set {i : Nat} {s : Sl} : ∀ {vs : List Nat} {δ : En}, i ∈ vs → wp (δ.set i s) vs = wp δ vs
  | v :: vs, δ, h => by
    unfold wp
    by_cases e : i = v
    · subst e
      have q : ∀ (vs : List Nat) (δ : En), (wp (δ.set i s) vs).set i .no = (wp δ vs).set i .no := by
        intro vs
        induction vs with
        | nil => intro δ; unfold wp; rw [List.set_set]
        | cons u us ih =>
          intro δ
          unfold wp
          by_cases e2 : u = i
          · subst e2
            rw [List.set_set, List.set_set]
            exact ih δ
          · rw [List.set_comm _ _ e2, List.set_comm _ _ e2, ih δ]
      exact q vs δ
    · rw [wp_set (by
        rcases List.mem_cons.mp h with z | z
        · exact absurd z e
        · exact z)]
theorem wp_len (δ : En) : ∀ vs : List Nat, (wp δ vs).length = δ.length
  | [] => rfl
  | v :: vs => by unfold wp; rw [List.length_set, wp_len δ vs]
theorem wp_out {i : Nat} (δ : En) : ∀ {vs : List Nat}, i ∉ vs → (wp δ vs)[i]? = δ[i]?
  | [], _ => rfl
  | v :: vs, h => by
    unfold wp
    rw [List.getElem?_set_ne (by rintro rfl; exact h List.mem_cons_self)]
    exact wp_out δ fun z => h (List.mem_cons_of_mem _ z)
theorem wp_subset {ws : List Nat} : ∀ {vs : List Nat} {δ : En}, (∀ v ∈ vs, v ∈ ws) → wp (wp δ vs) ws = wp δ ws
  | [], δ, _ => rfl
  | v :: vs, δ, h => by
    show wp ((wp δ vs).set v .no) ws = wp δ ws
    rw [wp_set (h v List.mem_cons_self)]
    exact wp_subset fun u hu => h u (List.mem_cons_of_mem _ hu)
theorem wp_idem (δ : En) (vs : List Nat) : wp (wp δ vs) vs = wp δ vs := wp_subset fun _ h => h
theorem wipe_subset {ws : List Nat} : ∀ {vs : List Nat} {σ : St}, (∀ v ∈ vs, v ∈ ws) → wipe (wipe σ vs) ws = wipe σ ws
  | [], σ, _ => rfl
  | v :: vs, σ, h => by
    show wipe ((wipe σ vs).set v none) ws = wipe σ ws
    rw [wipe_set (h v List.mem_cons_self)]
    exact wipe_subset fun u hu => h u (List.mem_cons_of_mem _ hu)
theorem wipe_idem (σ : St) (vs : List Nat) : wipe (wipe σ vs) vs = wipe σ vs := wipe_subset fun _ h => h
theorem rs_len (δ0 : En) : ∀ (vs : List Nat) (δ : En), (rs δ0 δ vs).length = δ.length
  | [], _ => rfl
  | v :: vs, δ => by unfold rs; rw [rs_len δ0 vs, List.length_set]
theorem rs_out {i : Nat} (δ0 : En) : ∀ {vs : List Nat} {δ : En}, i ∉ vs → (rs δ0 δ vs)[i]? = δ[i]?
  | [], _, _ => rfl
  | v :: vs, δ, h => by
    unfold rs
    rw [rs_out δ0 fun z => h (List.mem_cons_of_mem _ z), List.getElem?_set_ne (by rintro rfl; exact h List.mem_cons_self)]
theorem rs_in {i : Nat} (δ0 : En) : ∀ {vs : List Nat} {δ : En}, i ∈ vs → i < δ.length → (rs δ0 δ vs)[i]? = some (δ0.getD i .no)
  | v :: vs, δ, h, hl => by
    unfold rs
    by_cases hv : i ∈ vs
    · exact rs_in δ0 hv (by rw [List.length_set]; exact hl)
    · have e : i = v := by
        rcases List.mem_cons.mp h with z | z
        · exact z
        · exact absurd z hv
      subst e
      rw [rs_out δ0 hv, List.getElem?_set_self hl]
theorem rs_wp (δ : En) (vs : List Nat) : rs δ (wp δ vs) vs = δ := by
  apply List.ext_getElem?
  intro i
  by_cases h : i ∈ vs
  · by_cases hl : i < δ.length
    · rw [rs_in δ h (by rw [wp_len]; exact hl)]
      rw [List.getElem?_eq_getElem hl]
      simp [hl]
    · rw [List.getElem?_eq_none (by rw [rs_len, wp_len]; omega), List.getElem?_eq_none (by omega)]
  · rw [rs_out δ h, wp_out δ h]

section
variable {c : DC} {Hs Hs' G G' H H' : Hp} {σ : St} {δ : En}
theorem Sat.wipe (S : Sat c Hs G H σ δ) : ∀ {vs : List Nat}, (∀ v ∈ vs, v ∉ c.mi) → Sat c Hs G H (L2.wipe σ vs) (wp δ vs)
  | [], _ => S
  | v :: vs, h => (Sat.wipe S fun u hu => h u (List.mem_cons_of_mem _ hu)).setNo (h v List.mem_cons_self)
theorem Sat.weakG (S : Sat c Hs G' H σ δ) (e : Same G G') : Sat c Hs G H σ δ :=
  S.keep ⟨S.bs, S.sh, e.trans S.gm, S.nw, S.hin, fun a o o' q q' => S.gs a o o' (e a o q) q'⟩ (Same.refl _) (fun _ _ _ _ _ _ q => q) (fun j s b hj f => (foot_own (S.sl j s hj) f).1.1) fun j s b hj f => by
    cases q : G b with
    | none => rfl
    | some o =>
      have := (foot_own (S.sl j s hj) f).1.2.1
      rw [e b o q] at this
      cases this
/-- a slot as it was: nothing or stable data -/
theorem Sat.unset {v : Nat} {s : Sl} (S : Sat c Hs G H (σ.set v none) δ) (hv : v ∉ c.mi) (ok : SlOk c Hs G H v σ[v]? s) (hs : ∀ w a, Foot H w s a → False) : Sat c Hs G H σ (δ.set v s) := by
  by_cases hl : v < σ.length
  · have e : (σ.set v none).set v σ[v] = σ := by rw [List.set_set, List.set_getElem_self]
    rw [List.getElem?_eq_getElem hl] at ok
    have q := S.setAny (v := σ[v]) hv ok fun j t b _ f _ => hs _ _ f
    rw [e] at q
    exact q
  · have e1 : σ.set v none = σ := List.set_eq_of_length_le (by omega)
    rw [e1] at S
    rw [List.set_eq_of_length_le (by rw [S.ln]; omega)]
    exact S
theorem chk_at {δ0 : En} {vs : List Nat} {v : Nat} (h : chk δ0 vs = true) (hv : v ∈ vs) : δ0[v]? = some .no ∨ ∃ d, δ0[v]? = some (.sh d) := by
  have q := List.all_eq_true.mp h v hv
  cases e : δ0[v]? with
  | none => rw [e] at q; cases q
  | some s =>
    rw [e] at q
    cases s with
    | no => exact .inl rfl
    | sh d => exact .inr ⟨d, rfl⟩
    | _ => cases q
theorem Sat.unwipe {Hs0 G0 H0 : Hp} {δ0 : En} (S0 : Sat c Hs0 G0 H0 σ δ0) (e : Same Hs0 Hs) : ∀ {vs : List Nat} {δ : En}, vs.Nodup → chk δ0 vs = true → (∀ v ∈ vs, v ∉ c.mi) → Sat c Hs G H (L2.wipe σ vs) δ → Sat c Hs G H σ (rs δ0 δ vs)
  | [], _, _, _, _, S => S
  | v :: vs, δ, nd, ck, hm, S => by
    have nd' := List.nodup_cons.mp nd
    have hw : (L2.wipe σ vs)[v]? = σ[v]? := by
      have : ∀ {us : List Nat}, v ∉ us → (L2.wipe σ us)[v]? = σ[v]? := by
        intro us
        induction us with
        | nil => intro _; rfl
        | cons u us ih =>
          intro h
          unfold L2.wipe
          rw [List.getElem?_set_ne (by rintro rfl; exact h List.mem_cons_self)]
          exact ih fun z => h (List.mem_cons_of_mem _ z)
      exact this nd'.1
    have S2 : Sat c Hs G H (L2.wipe σ vs) (δ.set v (δ0.getD v .no)) := by
      refine Sat.unset S (hm v List.mem_cons_self) ?_ ?_
      · rw [hw]
        rcases chk_at ck List.mem_cons_self with q | ⟨d, q⟩
        · rw [List.getD_eq_getElem?_getD, q]; trivial
        · rw [List.getD_eq_getElem?_getD, q]
          obtain ⟨x, e1, r⟩ := S0.sl v _ q
          exact ⟨x, e1, dp_mono e r⟩
      · intro w a f
        rcases chk_at ck List.mem_cons_self with q | ⟨d, q⟩
        · rw [List.getD_eq_getElem?_getD, q] at f; exact foot_no f
        · rw [List.getD_eq_getElem?_getD, q] at f; exact foot_sh f
    refine Sat.unwipe S0 e (vs := vs) nd'.2 ?_ (fun u hu => hm u (List.mem_cons_of_mem _ hu)) S2
    unfold chk at ck ⊢
    rw [List.all_cons, Bool.and_eq_true] at ck
    exact ck.2
/-- a hidden object changes -/
theorem Sat.regrow {p : Addr} {o o' : HO} (S : Sat c Hs G H σ δ) (hg : G p = some o) (hi : c.Hin p = none) : Sat c Hs (upd G p o') (upd H p o') σ δ := by
  have hs : Hs p = none := by
    cases q : Hs p with
    | none => rfl
    | some u =>
      obtain ⟨z, hz⟩ := S.gs p o u hg q
      rw [hi] at hz; cases hz
  have nf : ∀ (j : Nat) (s : Sl) (b : Addr), δ[j]? = some s → Foot H σ[j]? s b → b ≠ p := fun j s b hj f z => by
    have := (foot_own (S.sl j s hj) f).1.2.1
    rw [z, hg] at this; cases this
  refine S.keep ⟨S.bs, fun b u q => ?_, fun b u q => ?_, S.nw, fun b u q => ?_, fun b u u' q q' => ?_⟩ (Same.refl _) (fun j s b u hj f q => by rw [upd_ne (nf j s b hj f)]; exact q)
    (fun j s b hj f => (foot_own (S.sl j s hj) f).1.1) fun j s b hj f => by rw [upd_ne (nf j s b hj f)]; exact (foot_own (S.sl j s hj) f).1.2.1
  · rw [upd_ne (by rintro rfl; rw [hs] at q; cases q)]; exact S.sh b u q
  · by_cases hb : b = p
    · subst hb; rw [upd_same] at q ⊢; exact q
    · rw [upd_ne hb] at q ⊢; exact S.gm b u q
  · obtain ⟨u', e'⟩ := S.hin b u q
    by_cases hb : b = p
    · subst hb; exact ⟨o', upd_same⟩
    · exact ⟨u', by rw [upd_ne hb]; exact e'⟩
  · by_cases hb : b = p
    · subst hb; rw [hs] at q'; cases q'
    · rw [upd_ne hb] at q; exact S.gs b u u' q q'
/-- a new hidden object -/
theorem Sat.hide {p : Addr} {o : HO} (S : Sat c Hs G H σ δ) (h : H p = none) : Sat c Hs (upd G p o) (upd H p o) σ δ := by
  have nf : ∀ (j : Nat) (s : Sl) (b : Addr), δ[j]? = some s → Foot H σ[j]? s b → b ≠ p := fun j s b hj f z => by
    obtain ⟨_, u, e⟩ := foot_own (S.sl j s hj) f
    rw [z, h] at e; cases e
  refine S.keep ⟨S.bs, S.sh.trans (same_new h), fun b u q => ?_, S.nw, fun b u q => ?_, fun b u u' q q' => ?_⟩ (Same.refl _) (fun j s b u hj f q => same_new h b u q)
    (fun j s b hj f => (foot_own (S.sl j s hj) f).1.1) fun j s b hj f => by rw [upd_ne (nf j s b hj f)]; exact (foot_own (S.sl j s hj) f).1.2.1
  · by_cases hb : b = p
    · subst hb; rw [upd_same] at q ⊢; exact q
    · rw [upd_ne hb] at q ⊢; exact S.gm b u q
  · obtain ⟨u', e'⟩ := S.hin b u q
    by_cases hb : b = p
    · subst hb; exact ⟨o, upd_same⟩
    · exact ⟨u', by rw [upd_ne hb]; exact e'⟩
  · by_cases hb : b = p
    · subst hb; rw [Sat.fresh_s S.toFrm h] at q'; cases q'
    · rw [upd_ne hb] at q; exact S.gs b u u' q q'
end

/-! ### comprehensions -/
def nb {α β : Type} (x : Re α) (k : α → Re β) : Re β := match x with
  | .ok a => k a
  | _ => .bad
@[simp] theorem nb_ok {α β : Type} (a : α) (k : α → Re β) : nb (.ok a) k = k a := (rfl)
def lcL (vs : List Nat) (g : D → En → Option En) (t : En → Re (Bool × En)) (f : En → Re (D × En)) : List D → En → Re (List D × En)
  | [], δ => .ok ([], δ)
  | d :: ds, δ => match g d δ with
    | none => .bad
    | some δ1 => nb (t δ1) fun p => match p.1 with
      | true => nb (f p.2) fun q => nb (lcL vs g t f ds (wp q.2 vs)) fun r => .ok (q.1 :: r.1, r.2)
      | false => lcL vs g t f ds (wp p.2 vs)
def eLc (fi : En → Re (List D × En)) (vs : List Nat) (g : D → En → Option En) (t : En → Re (Bool × En)) (f : En → Re (D × En)) : En → Re (List D × En) := fun δ => (fi δ).bd fun p =>
  if p.1.length ≤ 1000000 ∧ chk p.2 vs = true then nb (lcL vs g t f p.1 (wp p.2 vs)) fun q => .ok (q.1, rs p.2 q.2 vs) else .bad
def lcP (g : D → En → Option En) (t : En → Re Bool) (f : En → Re D) : List D → En → Re (List D)
  | [], _ => .ok []
  | d :: ds, δ => match g d δ with
    | none => .bad
    | some δ1 => nb (t δ1) fun p => match p with
      | true => nb (f δ1) fun q => nb (lcP g t f ds δ) fun r => .ok (q :: r)
      | false => lcP g t f ds δ
def pLc (fi : En → Re (List D)) (vs : List Nat) (g : D → En → Option En) (t : En → Re Bool) (f : En → Re D) : En → Re (List D) := fun δ => (fi δ).bd fun ds =>
  if ds.length ≤ 1000000 ∧ chk δ vs = true then nb (lcP g t f ds (wp δ vs)) .ok else .bad
/-- the target changes the block's own slots alone -/
def GOk (vs : List Nat) (g : D → En → Option En) : Prop := ∀ d δ δ', g d δ = some δ' → wp δ' vs = wp δ vs
def GsOk (vs : List Nat) (g : List D → En → Option En) : Prop := ∀ d δ δ', g d δ = some δ' → wp δ' vs = wp δ vs
theorem gok_nm {vs : List Nat} {i : Nat} (h : i ∈ vs) : GOk vs (gNm i) := fun d δ δ' e => by cases e; exact wp_set h
theorem gsok_nil {vs : List Nat} : GsOk vs gsNil := fun d δ δ' e => by
  unfold gsNil at e
  split at e
  · cases e; rfl
  · cases e
theorem gsok_cons {vs : List Nat} {g : D → En → Option En} {gs : List D → En → Option En} (h : GOk vs g) (h2 : GsOk vs gs) : GsOk vs (gsCons g gs) := fun d δ δ' e => by
  unfold gsCons at e
  split at e
  · obtain ⟨δ1, e1, e2⟩ := Option.bind_eq_some_iff.mp e
    exact (h2 _ _ _ e2).trans (h _ _ _ e1)
  · cases e
theorem gok_tp {vs : List Nat} {n : Nat} {gs : List D → En → Option En} (h : GsOk vs gs) : GOk vs (gTpN n gs) := fun d δ δ' e => by
  unfold gTpN at e
  split at e
  · split at e
    · exact h _ _ _ e
    · cases e
  · split at e
    · exact h _ _ _ e
    · cases e
  · cases e
theorem lcL_pu {vs : List Nat} {g : D → En → Option En} {t : En → Re Bool} {f : En → Re D} (hg : GOk vs g) : ∀ (ds : List D) (δ : En), wp δ vs = δ → lcL vs g (Pu t) (Pu f) ds δ = (lcP g t f ds δ).bd fun r => .ok (r, δ)
  | [], δ, _ => rfl
  | d :: ds, δ, h => by
    unfold lcL lcP
    cases hgd : g d δ with
    | none => rfl
    | some δ1 =>
      have w := (hg d δ δ1 hgd).trans h
      have ih := lcL_pu (t := t) (f := f) hg ds δ h
      unfold Pu at ih ⊢
      simp only
      cases t δ1 with
      | bad => rfl
      | er e => rfl
      | ok b =>
        simp only [Re.bd_ok, nb_ok]
        cases b with
        | true =>
          simp only
          cases f δ1 with
          | bad => rfl
          | er e => rfl
          | ok y =>
            simp only [Re.bd_ok, nb_ok, w]
            rw [ih]
            cases lcP g t f ds δ <;> rfl
        | false =>
          simp only [w]
          exact ih
theorem eLc_pu {fi : En → Re (List D)} {vs : List Nat} {g : D → En → Option En} {t : En → Re Bool} {f : En → Re D} (hg : GOk vs g) : eLc (Pu fi) vs g (Pu t) (Pu f) = Pu (pLc fi vs g t f) := by
  funext δ
  have q := fun ds => lcL_pu (t := t) (f := f) hg ds (wp δ vs) (wp_idem δ vs)
  unfold Pu at q ⊢
  simp only [eLc, pLc]
  cases fi δ with
  | bad => rfl
  | er e => rfl
  | ok ds =>
    simp only [Re.bd_ok]
    by_cases h : ds.length ≤ 1000000 ∧ chk δ vs = true
    · rw [if_pos h, if_pos h]
      rw [q ds]
      cases lcP g t f ds (wp δ vs) with
      | bad => rfl
      | er e => rfl
      | ok r =>
        simp only [Re.bd_ok, nb_ok, rs_wp]
    · rw [if_neg h, if_neg h]
      rfl
theorem PoG.of_ok {α : Type} {c : DC} {E : XK} {Hs G : Hp} {W : α → En → Hp → Hp → Prop} {a : α} {δ : En} (h : ∀ Hs' H', Same Hs Hs' → W a δ Hs' H') : PoG c E Hs G W (.ok (a, δ)) := h
theorem lcL_ne {vs : List Nat} {g : D → En → Option En} {t : En → Re (Bool × En)} {f : En → Re (D × En)} : ∀ (ds : List D) (δ : En), lcL vs g t f ds δ = .bad ∨ ∃ r, lcL vs g t f ds δ = .ok r
  | [], δ => .inr ⟨_, rfl⟩
  | d :: ds, δ => by
    unfold lcL
    cases g d δ with
    | none => exact .inl rfl
    | some δ1 =>
      simp only
      cases t δ1 with
      | bad => exact .inl rfl
      | er e => exact .inl rfl
      | ok p =>
        simp only [nb_ok]
        cases p.1 with
        | true =>
          simp only
          cases f p.2 with
          | bad => exact .inl rfl
          | er e => exact .inl rfl
          | ok q =>
            simp only [nb_ok]
            rcases lcL_ne ds (wp q.2 vs) with e | ⟨r, e⟩
            · rw [e]; exact .inl rfl
            · rw [e]; exact .inr ⟨_, rfl⟩
        | false => exact lcL_ne ds (wp p.2 vs)
section
variable {c : DC} {E : XK} {fi : En → Re (List D × En)} {vs ts : List Nat} {g : D → En → Option En} {t : En → Re (Bool × En)} {f : En → Re (D × En)}
theorem v_lc (hn : vs.Nodup) (hm : ∀ v ∈ vs, v ∉ c.mi) (ht : ∀ t ∈ ts, t ∈ vs) {σ : St} {H : Hp} {Q : VK} (h : tF c E (eLc fi vs g t f) σ H Q) : tLc (tI c E fi) (tG c ts g) (tT c E0 t) (tD c E0 f) vs σ H Q := by
  obtain ⟨Hs, G, δ, S, q⟩ := h
  refine ⟨Hs, G, δ, S, PoG.seq q fun ds δ1 Hs1 H1 s1 q1 J S1 it D hD => ?_⟩
  simp only at q1
  split at q1
  · rename_i hc
    obtain ⟨hlen, hck⟩ := hc
    rcases lcL_ne (vs := vs) (g := g) (t := t) (f := f) ds (wp δ1 vs) with e | ⟨r, hr⟩
    · rw [e] at q1; exact q1.elim
    · rw [hr] at q1
      obtain ⟨R, δF⟩ := r
      have hIn : c.Hin D = none := Sat.fresh_in S1.toFrm hD
      have hG : G D = none := Sat.fresh_G S1.toFrm hD
      refine ⟨fun i m H => m = ds.length - i ∧ i ≤ ds.length ∧ ∃ Hs2 δ2 acc xs r, Same Hs1 Hs2 ∧ Sat c Hs2 (upd G D (.lst xs)) H (wipe σ vs) δ2 ∧ RpAll c.K Hs2 xs acc ∧ xs.length ≤ i ∧ lcL vs g t f (ds.drop i) δ2 = .ok (r, δF) ∧ R = acc ++ r,
        ⟨ds.length, by simp, Nat.zero_le _, Hs1, wp δ1 vs, [], [], R, Same.refl _, (S1.hide hD).wipe hm, .nil, Nat.le_refl _, by simpa using hr, rfl⟩, ?_⟩
      rintro i m H2 ⟨rfl, hi, Hs2, δ2, acc, xs, r, s2, S2, ra, hxl, hl, hR⟩
      by_cases hlt : i < ds.length
      · right
        obtain ⟨hgo, hstep⟩ := (it Hs2 _ H2 _ δ2 s2 S2).1 i ds[i] (by simp [hlt])
        rw [List.drop_eq_getElem_cons hlt] at hl
        unfold lcL at hl
        refine ⟨hgo, _, fun H' n => ⟨ds.length - (i + 1), by omega, n⟩, fun x H' y => ?_⟩
        obtain ⟨Hs3, s3, S3, r3⟩ := hstep x H' y
        cases hg : g ds[i] δ2 with
        | none => rw [hg] at hl; cases hl
        | some δ3 =>
          rw [hg] at hl
          refine ⟨Hs3, _, δ2, ds[i], δ3, S3, r3, hg, fun σ3 S4 w => ⟨?_, ?_⟩⟩
          · rw [w vs ht, wipe_idem]
          · have w' : wipe σ3 vs = wipe σ vs := by rw [w vs ht, wipe_idem]
            refine ⟨Hs3, _, δ3, S4, ?_⟩
            simp only at hl
            cases htt : t δ3 with
            | bad => rw [htt] at hl; cases hl
            | er e => rw [htt] at hl; cases hl
            | ok p =>
              rw [htt, nb_ok] at hl
              obtain ⟨b, δ5⟩ := p
              refine PoG.of_ok fun Hs5 H5 s5 S5 => ?_
              simp only at hl
              cases b with
              | true =>
                show if true = true then _ else _
                rw [if_pos rfl]
                simp only at hl
                refine ⟨Hs5, _, δ5, S5, ?_⟩
                cases hf : f δ5 with
                | bad => rw [hf] at hl; cases hl
                | er e => rw [hf] at hl; cases hl
                | ok p =>
                  rw [hf, nb_ok] at hl
                  obtain ⟨d6, δ6⟩ := p
                  refine PoG.of_ok fun Hs6 H6 s6 y S6 r6 => ?_
                  simp only at hl
                  refine ⟨xs, S6.gm _ _ upd_same, Nat.lt_of_le_of_lt hxl (Nat.lt_of_lt_of_le hlt (million hlen)), rfl, hlt, ?_⟩
                  rcases lcL_ne (vs := vs) (g := g) (t := t) (f := f) (ds.drop (i + 1)) (wp δ6 vs) with e | ⟨r2, hr2⟩
                  · rw [e] at hl; cases hl
                  · rw [hr2, nb_ok] at hl
                    obtain ⟨r3', δ7⟩ := r2
                    cases hl
                    refine ⟨Hs6, wp δ6 vs, acc ++ [d6], xs ++ [y], r3', ((s2.trans s3).trans s5).trans s6, ?_, dpa_append (dpa_mono ((s3.trans s5).trans s6) ra) (.cons r6 .nil), by simpa using hxl, hr2, by simp [hR]⟩
                    rw [← w']
                    have S7 := (S6.regrow (o' := .lst (xs ++ [y])) upd_same hIn).wipe hm
                    rw [upd_upd] at S7
                    exact S7
              | false =>
                show if false = true then _ else _
                rw [if_neg Bool.false_ne_true]
                simp only at hl
                refine ⟨rfl, hlt, Hs5, wp δ5 vs, acc, xs, r, (s2.trans s3).trans s5, ?_, dpa_mono (s3.trans s5) ra, Nat.le_succ_of_le hxl, hl, hR⟩
                rw [← w']
                exact S5.wipe hm
      · left
        have e : i = ds.length := by omega
        subst e
        refine ⟨(it Hs2 _ H2 _ δ2 s2 S2).2 _ (Nat.le_refl _), ?_⟩
        rw [List.drop_length] at hl
        cases hl
        rw [List.append_nil] at hR
        subst hR
        have S3 := Sat.unwipe S1 s2 hn hck hm S2
        have sg : Same G (upd G D (.lst xs)) := same_new hG
        refine q1 Hs2 H2 s2 D xs (S3.weakG sg) ⟨?_, hG, hIn, fun j s hj fo => ?_⟩ (S3.gm _ _ upd_same) ra
        · cases z : Hs2 D with
          | none => rfl
          | some u =>
            obtain ⟨o, ho⟩ := S3.gs D _ u upd_same z
            rw [hIn] at ho; cases ho
        · have := (foot_own (S3.sl j s hj) fo).1.2.1
          rw [upd_same] at this
          cases this
  · exact q1.elim
variable {X : Cx} {elt tg iter : Expr} {ifs : List Expr} {scope : Scope} {own : List (Str × Nat)} {pos : Pos}
/-- a clause's tests over data -/
theorem dts_nil : PTs X [] (tT c E (Pu fun _ => .ok true)) := ⟨fun pins s σ H Q I ⟨Hs, G, δ, S, q⟩ => pts_nil.run pins s σ H Q I (q Hs H (Same.refl _) S)⟩
theorem dts_one {e : Expr} (h : PT X e (tT c E t)) : PTs X [e] (tT c E t) := pts_one h
theorem de_lc (hc : X.calm = true) (hN : X.N.Nodup) (hn : (own.map (·.2)).Nodup) (hm : ∀ v ∈ own.map (·.2), v ∉ c.mi) (hts : ∀ t ∈ ts, t ∈ own.map (·.2)) (hi : PI X tg iter (tI c E fi)) (ok : BlkOk X.N X.env.scope scope own)
    (hg : ∀ (s : Shared) (H : Hp) (C : Addr) (cl : List (Str × Addr)) (fp : List Addr), PG (X.blk s H scope (compEnvC scope cl C X.env) fp) tg (tG c ts g)) (ht : ∀ (s : Shared) (H : Hp) (C : Addr) (cl : List (Str × Addr)) (fp : List Addr), PTs (X.blk s H scope (compEnvC scope cl C X.env) fp) ifs (tT c E0 t))
    (he : ∀ (s : Shared) (H : Hp) (C : Addr) (cl : List (Str × Addr)) (fp : List Addr), PE (X.blk s H scope (compEnvC scope cl C X.env) fp) elt (tD c E0 f)) (hs : ∀ x, foldedSetIterable iter X.env x = pure x := by intro _; rfl) :
    PE X (.ListComp elt [⟨tg, iter, ifs, 0⟩] scope pos) (tF c E (eLc fi (own.map (·.2)) g t f)) := PE.imp (pe_lc hc hN hi ok hg ht he hs) fun _ _ _ h => v_lc hn hm hts h
end
end DL

/-! DL5: statements over data -/
namespace DL
open PySem L2

inductive Fl where
  | nx (δ : En) | rt (d : D) (δ : En) | bk (δ : En) | ct (δ : En) | rf (ds : List D) (δ : En)
def PoS (c : DC) (E : XK) (Hs G : Hp) (De : Ends) : Re Fl → Prop
  | .bad => False
  | .er e => ∀ Hs' H', Same Hs Hs' → Frm c Hs' G H' → XOk c E Hs' H' e
  | .ok (.nx δ') => ∀ σ' Hs' H', Same Hs Hs' → Sat c Hs' G H' σ' δ' → De.nx σ' H'
  | .ok (.rt d δ') => ∀ v σ' Hs' H', Same Hs Hs' → Sat c Hs' G H' σ' δ' → Rp c.K Hs' v d → De.rt v H'
  | .ok (.bk δ') => ∀ σ' Hs' H', Same Hs Hs' → Sat c Hs' G H' σ' δ' → De.bk σ' H'
  | .ok (.ct δ') => ∀ σ' Hs' H', Same Hs Hs' → Sat c Hs' G H' σ' δ' → De.ct σ' H'
  | .ok (.rf ds δ') => ∀ p xs σ' Hs' H', Same Hs Hs' → Sat c Hs' G H' σ' δ' → Hs' p = none → c.Hin p = none → H' p = some (.lst xs) → RpAll c.K Hs' xs ds → De.rt (.ref p) H'
def tS (c : DC) (E : XK) (F : En → Re Fl) : TS := fun De σ H => ∃ Hs G δ, Sat c Hs G H σ δ ∧ PoS c E Hs G De (F δ)
theorem PoS.mono {c : DC} {E : XK} {Hs Hs' G : Hp} {De : Ends} {x : Re Fl} (e : Same Hs Hs') (h : PoS c E Hs G De x) : PoS c E Hs' G De x := by
  cases x with
  | bad => exact h
  | er e' => exact fun Hs2 H2 s2 => h Hs2 H2 (e.trans s2)
  | ok f => cases f with
    | nx δ => exact fun σ2 Hs2 H2 s2 => h σ2 Hs2 H2 (e.trans s2)
    | rt d δ => exact fun v σ2 Hs2 H2 s2 => h v σ2 Hs2 H2 (e.trans s2)
    | bk δ => exact fun σ2 Hs2 H2 s2 => h σ2 Hs2 H2 (e.trans s2)
    | ct δ => exact fun σ2 Hs2 H2 s2 => h σ2 Hs2 H2 (e.trans s2)
    | rf ds δ => exact fun p xs σ2 Hs2 H2 s2 => h p xs σ2 Hs2 H2 (e.trans s2)
/-- an expression, then a statement's end -/
theorem PoS.seq {α : Type} {c : DC} {E : XK} {Hs G : Hp} {De : Ends} {W : α → En → Hp → Hp → Prop} {r : Re (α × En)} {k : α × En → Re Fl} (h : PoS c E Hs G De (r.bd k))
    (w : ∀ a δ' Hs' H', Same Hs Hs' → PoS c E Hs' G De (k (a, δ')) → W a δ' Hs' H') : PoG c E Hs G W r := by
  cases r with
  | bad => exact h
  | er e => exact h
  | ok p => exact fun Hs' H' s => w p.1 p.2 Hs' H' s (PoS.mono s h)

section
variable {X : Cx} {c : DC} {E : XK} {e a b : Expr} {pos : Pos} {st : Stmt} {rest : List Stmt} {F A B : En → Re Fl} {f fa : En → Re (D × En)} {fr : En → Re (List D × En)} {t : En → Re (Bool × En)}

/-! ### blocks -/
def nopS : En → Re Fl := fun δ => .ok (.nx δ)
def seqS (A B : En → Re Fl) : En → Re Fl := fun δ => (A δ).bd fun r => match r with
  | .nx δ' => B δ'
  | r => .ok r
theorem dss_nil : PSs X [] (tS c E nopS) := PSs.imp pss_nil fun σ H De ⟨Hs, G, δ, S, q⟩ => q σ Hs H (Same.refl _) S
theorem dss_one (h : PS X st (tS c E F)) : PSs X [st] (tS c E F) := pss_one h
theorem dss_cons (h : PS X st (tS c E A)) (h2 : PSs X rest (tS c E B)) : PSs X (st :: rest) (tS c E (seqS A B)) := PSs.imp (pss_cons h h2) fun σ H De ⟨Hs, G, δ, S, q⟩ => by
  refine ⟨Hs, G, δ, S, ?_⟩
  unfold seqS at q
  cases hA : A δ with
  | bad => rw [hA] at q; exact q
  | er e => rw [hA] at q; exact q
  | ok r =>
    rw [hA] at q
    simp only [Re.bd_ok] at q
    cases r with
    | nx δ1 => exact fun σ' Hs' H' s S' => ⟨Hs', G, δ1, S', PoS.mono s q⟩
    | rt d δ1 => exact q
    | bk δ1 => exact q
    | ct δ1 => exact q
    | rf ds δ1 => exact q
/-- code that is not reached -/
def nevS : En → Re Fl := fun _ => .bad
theorem ds_never : PS X st (tS c E nevS) := PS.imp ps_never fun σ H De ⟨Hs, G, δ, S, q⟩ => q
theorem dss_never {sts : List Stmt} : PSs X sts (tS c E nevS) := PSs.imp pss_never fun σ H De ⟨Hs, G, δ, S, q⟩ => q
theorem ds_pass : PS X (.Pass pos) (tS c E nopS) := PS.imp ps_pass fun σ H De ⟨Hs, G, δ, S, q⟩ => q σ Hs H (Same.refl _) S
def bkS : En → Re Fl := fun δ => .ok (.bk δ)
def ctS : En → Re Fl := fun δ => .ok (.ct δ)
theorem ds_break : PS X (.Break pos) (tS c E bkS) := PS.imp ps_break fun σ H De ⟨Hs, G, δ, S, q⟩ => q σ Hs H (Same.refl _) S
theorem ds_continue : PS X (.Continue pos) (tS c E ctS) := PS.imp ps_continue fun σ H De ⟨Hs, G, δ, S, q⟩ => q σ Hs H (Same.refl _) S
def exS (f : En → Re (D × En)) : En → Re Fl := fun δ => (f δ).bd fun p => .ok (.nx p.2)
theorem ds_expr (h : PE X e (tD c E f)) (hs : swapsWith e none pos.line X.env = pure false := by rfl) : PS X (.Expr e pos) (tS c E (exS f)) := PS.imp (ps_expr h hs) fun σ H De ⟨Hs, G, δ, S, q⟩ =>
  ⟨Hs, G, δ, S, PoS.seq q fun d δ1 Hs1 H1 s1 q1 v S1 r1 => q1 σ Hs1 H1 (Same.refl _) S1⟩
def rtS (f : En → Re (D × En)) : En → Re Fl := fun δ => (f δ).bd fun p => .ok (.rt p.1 p.2)
theorem ds_ret (h : PE X e (tD c E f)) : PS X (.Return (some e) pos) (tS c E (rtS f)) := PS.imp (ps_ret h) fun σ H De ⟨Hs, G, δ, S, q⟩ =>
  ⟨Hs, G, δ, S, PoS.seq q fun d δ1 Hs1 H1 s1 q1 v S1 r1 => q1 v σ Hs1 H1 (Same.refl _) S1 r1⟩
def rfS (fr : En → Re (List D × En)) : En → Re Fl := fun δ => (fr δ).bd fun p => .ok (.rf p.1 p.2)
theorem ds_retF (h : PE X e (tF c E fr)) : PS X (.Return (some e) pos) (tS c E (rfS fr)) := PS.imp (ps_ret h) fun σ H De ⟨Hs, G, δ, S, q⟩ =>
  ⟨Hs, G, δ, S, PoS.seq q fun d δ1 Hs1 H1 s1 q1 p xs S1 L h1 r1 => q1 p xs σ Hs1 H1 (Same.refl _) S1 L.s L.i h1 r1⟩
/-- the name's own list is handed back -/
def roS (i : Nat) : En → Re Fl := fun δ => match δ[i]? with
  | some (.ow ds) => .ok (.rf ds δ)
  | _ => .bad
theorem ds_retO {i : Nat} {x : Str} {xp : Pos} (hm : i ∉ c.mi) (hx : PE X (.Name x xp) (tVar i)) : PS X (.Return (some (.Name x xp)) pos) (tS c E (roS i)) := PS.imp (ps_ret hx) fun σ H De ⟨Hs, G, δ, S, q⟩ => by
  unfold roS at q
  cases hi : δ[i]? with
  | none => rw [hi] at q; exact q.elim
  | some s => cases s with
    | ow ds =>
      rw [hi] at q
      obtain ⟨l, xs, e1, h1, r1, w1⟩ := S.sl i _ hi
      refine ⟨.ref l, e1, q l xs σ Hs H (Same.refl _) S w1.1 ?_ h1 r1⟩
      rcases w1.2.2 with ⟨z, _⟩ | ⟨_, z⟩
      · exact absurd z hm
      · exact z
    | _ => rw [hi] at q; exact q.elim
def rnS : En → Re Fl := fun δ => .ok (.rt .none δ)
theorem ds_retN : PS X (.Return none pos) (tS c E rnS) := PS.imp ps_retN fun σ H De ⟨Hs, G, δ, S, q⟩ => q _ σ Hs H (Same.refl _) S .non
def ifS (t : En → Re (Bool × En)) (A B : En → Re Fl) : En → Re Fl := fun δ => (t δ).bd fun p => match p.1 with
  | true => A p.2
  | false => B p.2
theorem ds_if {sa sb : List Stmt} (ht : PT X e (tT c E t)) (ha : PSs X sa (tS c E A)) (hb : PSs X sb (tS c E B)) : PS X (.If e sa sb pos) (tS c E (ifS t A B)) := PS.imp (ps_if ht ha hb) fun σ H De ⟨Hs, G, δ, S, q⟩ =>
  ⟨Hs, G, δ, S, PoS.seq q fun d δ1 Hs1 H1 s1 q1 S1 => by
    cases d with
    | true =>
      show if true = true then _ else _
      rw [if_pos rfl]
      exact ⟨Hs1, G, δ1, S1, q1⟩
    | false =>
      show if false = true then _ else _
      rw [if_neg Bool.false_ne_true]
      exact ⟨Hs1, G, δ1, S1, q1⟩⟩
/-! ### assignments -/
def asS (i : Nat) (f : En → Re (D × En)) : En → Re Fl := fun δ => (f δ).bd fun p => .ok (.nx (p.2.set i (.sh p.1)))
def owS (i : Nat) (f : En → Re (List D × En)) : En → Re Fl := fun δ => (f δ).bd fun p => .ok (.nx (p.2.set i (.ow p.1)))
def agS (g : D → En → Option En) (f : En → Re (D × En)) : En → Re Fl := fun δ => (f δ).bd fun p => (opt (g p.1 p.2)).bd fun δ' => .ok (.nx δ')
theorem v_as {i : Nat} (hm : i ∉ c.mi) {σ : St} {H : Hp} {De : Ends} (h : tS c E (asS i f) De σ H) : tAsg (tD c E f) (gName i) De σ H := by
  obtain ⟨Hs, G, δ, S, q⟩ := h
  exact ⟨Hs, G, δ, S, PoS.seq q fun d δ1 Hs1 H1 s1 q1 v S1 r1 => q1 _ Hs1 H1 (Same.refl _) (S1.setSh hm r1)⟩
theorem v_ow {i : Nat} (hm : i ∉ c.mi) {σ : St} {H : Hp} {De : Ends} (h : tS c E (owS i fr) De σ H) : tAsg (tF c E fr) (gName i) De σ H := by
  obtain ⟨Hs, G, δ, S, q⟩ := h
  exact ⟨Hs, G, δ, S, PoS.seq q fun d δ1 Hs1 H1 s1 q1 p xs S1 L h r1 => q1 _ Hs1 H1 (Same.refl _) (S1.setOw hm L h r1)⟩
theorem ds_set {i : Nat} {x : Str} {pos' : Pos} (hm : i ∉ c.mi) (hN : X.N.Nodup) (hi : X.N[i]? = some x) (hx : Loc X.env.scope x) (he : PE X e (tD c E f)) (hs : swapsWith e (some (.Name x pos')) pos.line X.env = pure false := by rfl) (hf : X.fn x = true ∨ X.env.scope.names.lookup x = some .local := by first | exact .inl rfl | exact .inr rfl | assumption) :
    PS X (.Assign [.Name x pos'] e pos) (tS c E (asS i f)) := PS.imp (ps_set hN hi hx he hs hf) fun σ H De h => v_as hm h
theorem ds_own {i : Nat} {x : Str} {pos' : Pos} (hm : i ∉ c.mi) (hN : X.N.Nodup) (hi : X.N[i]? = some x) (hx : Loc X.env.scope x) (he : PE X e (tF c E fr)) (hs : swapsWith e (some (.Name x pos')) pos.line X.env = pure false := by rfl) (hf : X.fn x = true ∨ X.env.scope.names.lookup x = some .local := by first | exact .inl rfl | exact .inr rfl | assumption) :
    PS X (.Assign [.Name x pos'] e pos) (tS c E (owS i fr)) := PS.imp (ps_set hN hi hx he hs hf) fun σ H De h => v_ow hm h
theorem ds_asg {tg : Expr} {ts : List Nat} {g : D → En → Option En} (he : PE X e (tD c E f)) (hg : PG X tg (tG c ts g)) (hs : swapsWithSole [tg] e pos.line X.env = pure false := by rfl) (hw : swappedStores [tg] e X.env = pure none := by rfl)
    (h1 : (assignEach [tg] X.env).map (·.2) = [assign tg X.env] := by rfl) : PS X (.Assign [tg] e pos) (tS c E (agS g f)) := PS.imp (ps_asg he hg hs hw h1) fun σ H De ⟨Hs, G, δ, S, q⟩ =>
  ⟨Hs, G, δ, S, PoS.seq q fun d δ1 Hs1 H1 s1 q1 v S1 r1 => by
    cases hz : g d δ1 with
    | none => rw [hz] at q1; exact q1.elim
    | some δ2 =>
      rw [hz] at q1
      exact ⟨Hs1, G, δ1, d, δ2, S1, r1, hz, fun σ' S2 _ => q1 σ' Hs1 H1 (Same.refl _) S2⟩⟩
/-- a, b = x, y (local names): stored from the right -/
def paS (i j : Nat) (fr : En → Re (List D × En)) : En → Re Fl := fun δ => (fr δ).bd fun p => match p.1 with
  | [d, e] => .ok (.nx ((p.2.set i (.sh d)).set j (.sh e)))
  | _ => .bad
theorem ds_par {i j : Nat} {x y : Str} {px py pt : Pos} {kt k2 : Nat} {pt2 : Pos} (hm : i ∉ c.mi) (hm2 : j ∉ c.mi) (hc : X.calm = true) (hN : X.N.Nodup) (hi : X.N[i]? = some x) (hj : X.N[j]? = some y) (hij : i ≠ j)
    (hx : X.env.scope.names.lookup x = some .local) (hy : X.env.scope.names.lookup y = some .local) (ha : PA X [a, b] (tA c E fr))
    (hw : swappedStores [.Tuple [.Name x px, .Name y py] kt pt] (.Tuple [a, b] k2 pt2) X.env = pure (some [x, y]))
    (hs : swapsWithSole [.Tuple [.Name x px, .Name y py] kt pt] (.Tuple [a, b] k2 pt2) pos.line X.env = pure false := by rfl) :
    PS X (.Assign [.Tuple [.Name x px, .Name y py] kt pt] (.Tuple [a, b] k2 pt2) pos) (tS c E (paS i j fr)) := PS.imp (ps_par hc hN hi hj hij hx hy ha hw hs) fun σ H De ⟨Hs, G, δ, S, q⟩ =>
  ⟨Hs, G, δ, S, PoS.seq q fun ds δ1 Hs1 H1 s1 q1 vs S1 r1 => by
    unfold PoS at q1
    match ds, r1, q1 with
    | [d, e], r1, q1 =>
      obtain ⟨v, w, rfl, rv, rw'⟩ := rpa2 r1
      exact ⟨v, w, rfl, q1 _ Hs1 H1 (Same.refl _) ((S1.setSh hm rv).setSh hm2 rw')⟩
    | [], _, q1 => exact q1.elim
    | [_], _, q1 => exact q1.elim
    | _ :: _ :: _ :: _, _, q1 => exact q1.elim⟩
/-! ### y = [.. for ..] -/
section
variable {fi : En → Re (List D × En)} {ts : List Nat} {g : D → En → Option En} {elt tg iter : Expr} {ifs : List Expr} {scope : Scope} {own : List (Str × Nat)} {spos : Pos}
theorem ds_ownLc {i : Nat} {y : Str} {py : Pos} (hmi : i ∉ c.mi) (hc : X.calm = true) (hN : X.N.Nodup) (hy : X.N[i]? = some y) (hyl : X.env.scope.names.lookup y = some .local)
    (hsw : swapsWith (.ListComp elt [⟨tg, iter, ifs, 0⟩] scope pos) (some (.Name y py)) spos.line X.env = pure true) (hn : (own.map (·.2)).Nodup) (hm : ∀ v ∈ own.map (·.2), v ∉ c.mi) (hts : ∀ t ∈ ts, t ∈ own.map (·.2)) (hi : PI X tg iter (tI c E fi)) (ok : BlkOk X.N X.env.scope scope own)
    (hg : ∀ (s : Shared) (H : Hp) (C : Addr) (cl : List (Str × Addr)) (fp : List Addr), PG (X.blk s H scope (compEnvC scope cl C X.env) fp) tg (tG c ts g)) (ht : ∀ (s : Shared) (H : Hp) (C : Addr) (cl : List (Str × Addr)) (fp : List Addr), PTs (X.blk s H scope (compEnvC scope cl C X.env) fp) ifs (tT c E0 t))
    (he : ∀ (s : Shared) (H : Hp) (C : Addr) (cl : List (Str × Addr)) (fp : List Addr), PE (X.blk s H scope (compEnvC scope cl C X.env) fp) elt (tD c E0 f)) (hs : ∀ x, foldedSetIterable iter X.env x = pure x := by intro _; rfl) :
    PS X (.Assign [.Name y py] (.ListComp elt [⟨tg, iter, ifs, 0⟩] scope pos) spos) (tS c E (owS i (eLc fi (own.map (·.2)) g t f))) := PS.imp (ps_setLc hc hN hy hyl hsw hi ok hg ht he hs) fun σ H De h =>
  v_lc hn hm hts (Q := fun x H1 => gName i x σ H1 De.nx) (by
    obtain ⟨Hs, G, δ, S, q⟩ := h
    exact ⟨Hs, G, δ, S, PoS.seq q fun d δ1 Hs1 H1 s1 q1 p xs S1 L h r1 => q1 _ Hs1 H1 (Same.refl _) (S1.setOw hmi L h r1)⟩)
theorem ds_setLc {i : Nat} {y : Str} {py : Pos} (hmi : i ∉ c.mi) (hc : X.calm = true) (hN : X.N.Nodup) (hy : X.N[i]? = some y) (hyl : X.env.scope.names.lookup y = some .local)
    (hsw : swapsWith (.ListComp elt [⟨tg, iter, ifs, 0⟩] scope pos) (some (.Name y py)) spos.line X.env = pure true) (hn : (own.map (·.2)).Nodup) (hm : ∀ v ∈ own.map (·.2), v ∉ c.mi) (hts : ∀ t ∈ ts, t ∈ own.map (·.2)) (hi : PI X tg iter (tI c E fi)) (ok : BlkOk X.N X.env.scope scope own)
    (hg : ∀ (s : Shared) (H : Hp) (C : Addr) (cl : List (Str × Addr)) (fp : List Addr), PG (X.blk s H scope (compEnvC scope cl C X.env) fp) tg (tG c ts g)) (ht : ∀ (s : Shared) (H : Hp) (C : Addr) (cl : List (Str × Addr)) (fp : List Addr), PTs (X.blk s H scope (compEnvC scope cl C X.env) fp) ifs (tT c E0 t))
    (he : ∀ (s : Shared) (H : Hp) (C : Addr) (cl : List (Str × Addr)) (fp : List Addr), PE (X.blk s H scope (compEnvC scope cl C X.env) fp) elt (tD c E0 f)) (hs : ∀ x, foldedSetIterable iter X.env x = pure x := by intro _; rfl) :
    PS X (.Assign [.Name y py] (.ListComp elt [⟨tg, iter, ifs, 0⟩] scope pos) spos) (tS c E (asS i (fz (eLc fi (own.map (·.2)) g t f)))) := PS.imp (ps_setLc hc hN hy hyl hsw hi ok hg ht he hs) fun σ H De h =>
  v_lc hn hm hts (Q := fun x H1 => gName i x σ H1 De.nx) (by
    obtain ⟨Hs, G, δ, S, q⟩ := h
    have q' : PoS c E Hs G De ((eLc fi (own.map (·.2)) g t f δ).bd fun p => .ok (.nx (p.2.set i (.sh (.list p.1))))) := by
      unfold asS fz at q
      cases hz : eLc fi (own.map (·.2)) g t f δ with
      | bad => rw [hz] at q; exact q
      | er e => rw [hz] at q; exact q
      | ok p => rw [hz] at q; exact q
    exact ⟨Hs, G, δ, S, PoS.seq q' fun d δ1 Hs1 H1 s1 q1 p xs S1 L h r1 => q1 _ (upd Hs1 p (.lst xs)) H1 (same_new L.s) ((S1.freeze L h).setSh hmi (.lst (SqL.of upd_same) (dpa_mono (same_new L.s) r1)))⟩)
end
theorem fz_pu (f : En → Re (List D)) : fz (Pu f) = Pu fun δ => (f δ).bd fun ds => .ok (.list ds) := by
  funext δ; unfold fz Pu; simp only; cases f δ <;> rfl
/-! ### freezing -/
def fzE (i : Nat) (δ : En) : En := match δ[i]? with
  | some (.ow ds) => δ.set i (.sh (.list ds))
  | some (.ow2 dss) => δ.set i (.sh (.list (dss.map .list)))
  | _ => δ
theorem Sat.fzE {Hs G H : Hp} {σ : St} {δ : En} (S : Sat c Hs G H σ δ) {i : Nat} (hm : i ∉ c.mi) : ∃ Hs', Same Hs Hs' ∧ Sat c Hs' G H σ (DL.fzE i δ) := by
  unfold DL.fzE
  cases h : δ[i]? with
  | none => exact ⟨Hs, Same.refl _, S⟩
  | some s => cases s with
    | ow ds =>
      obtain ⟨v, Hs', _, q1, q2, _⟩ := S.freezeOw h hm
      exact ⟨Hs', q1, q2⟩
    | ow2 dss =>
      obtain ⟨v, Hs', _, q1, q2, _⟩ := S.freezeOw2 h hm
      exact ⟨Hs', q1, q2⟩
    | _ => exact ⟨Hs, Same.refl _, S⟩
def fzS (i : Nat) (F : En → Re Fl) : En → Re Fl := fun δ => F (fzE i δ)
theorem dss_fz {sts : List Stmt} {i : Nat} (hm : i ∉ c.mi) (h : PSs X sts (tS c E F)) : PSs X sts (tS c E (fzS i F)) := PSs.imp h fun σ H De ⟨Hs, G, δ, S, q⟩ => by
  obtain ⟨Hs', s, S'⟩ := S.fzE hm
  exact ⟨Hs', G, _, S', PoS.mono s q⟩
theorem ds_fz {i : Nat} (hm : i ∉ c.mi) (h : PS X st (tS c E F)) : PS X st (tS c E (fzS i F)) := PS.imp h fun σ H De ⟨Hs, G, δ, S, q⟩ => by
  obtain ⟨Hs', s, S'⟩ := S.fzE hm
  exact ⟨Hs', G, _, S', PoS.mono s q⟩
/-! ### owned lists: methods, stores -/
/-- a method that changes the list itself -/
def VMu (r : V → List V → Hp → VK → Prop) (m : List D → List D → Option (List D × D)) : Prop := ∀ (K : PySem.W.Frag) (Hs H : Hp) (l : Addr) (xs as : List V) (ds es ds' : List D) (d : D), H l = some (.lst xs) → Same Hs H → Hs l = none → RpAll K Hs xs ds → RpAll K Hs as es → m ds es = some (ds', d) → ∀ Q : VK,
  (∀ xs' v, RpAll K Hs xs' ds' → Rp K Hs v d → Q v (upd H l (.lst xs'))) → r (.ref l) as H Q
def eMu (i : Nat) (m : List D → List D → Option (List D × D)) (fr : En → Re (List D × En)) : En → Re (D × En) := fun δ => match δ[i]? with
  | some (.ow _) => (fr δ).bd fun p => match p.2[i]? with
    | some (.ow ds) => (opt (m ds p.1)).bd fun q => .ok (q.2, p.2.set i (.ow q.1))
    | _ => .bad
  | _ => .bad
theorem v_mu {i : Nat} {r : V → List V → Hp → VK → Prop} {m : List D → List D → Option (List D × D)} (hr : VMu r m) {K : PySem.W.Frag} {σ : St} {H : Hp} {Q : VK} (h : tD c E (eMu i m fr) σ H Q) : tBM K "list" r (tVar i) (tA c E fr) σ H Q := by
  obtain ⟨Hs, G, δ, S, q⟩ := h
  unfold eMu at q
  cases hi : δ[i]? with
  | none => rw [hi] at q; exact q.elim
  | some s => cases s with
    | ow ds0 =>
      rw [hi] at q
      simp only at q
      obtain ⟨l, xs, e1, h1, _, _⟩ := S.sl i _ hi
      refine ⟨.ref l, e1, .inl ⟨rfl, xs, SqL.of h1⟩, Hs, G, δ, S, PoG.seq q fun es δ1 Hs1 H1 s1 q1 as S1 r1 => ?_⟩
      simp only at q1
      cases hi1 : δ1[i]? with
      | none => rw [hi1] at q1; exact q1.elim
      | some s => cases s with
        | ow ds =>
          rw [hi1] at q1
          simp only at q1
          cases hz : m ds es with
          | none => rw [hz] at q1; exact q1.elim
          | some z =>
            rw [hz] at q1
            obtain ⟨ds', d⟩ := z
            obtain ⟨l', ys, e2, h2, r2, w2⟩ := S1.sl i _ hi1
            rw [e1] at e2
            cases e2
            refine hr c.K Hs1 H1 l ys as ds es ds' d h2 S1.sh w2.1 r2 r1 hz Q fun xs' v rx rv => ?_
            exact q1 Hs1 _ (Same.refl _) v (S1.writeOw hi1 e1 rx) rv
        | _ => rw [hi1] at q1; exact q1.elim
    | _ => rw [hi] at q; exact q.elim
variable {es : List Expr} {name : Str} {apos cpos : Pos} {id : String} {r : V → List V → Hp → VK → Prop} {m : List D → List D → Option (List D × D)} {i : Nat} {x : Str} {xp : Pos}
theorem de_mu (slot : Slot "list" name id) (hty : typeOf (.builtin id) = pure (.type "method_descriptor")) (hm : MtR X id r) (hr : VMu r m) (ho : PE X (.Name x xp) (tVar i)) (ha : PA X (e :: es) (tA c E fr))
    (hbase : attributeBase (.Name x xp) name X.env (eval (.Name x xp) X.env) = eval (.Name x xp) X.env := by rfl)
    (hfew : ((backTo cpos (starEach (e :: es) X.env)).all (fun x => !x.1) && (backToKw cpos (keywordEach [] X.env)).all (fun x => x.1.isSome)
      && decide ((e :: es).length + ([] : List Keyword).length + (if ([] : List Keyword).isEmpty then 0 else 1) < 30)) = true := by rfl)
    (hline : (apos.endLine == cpos.line) = true := by rfl) (hs : starEach (e :: es) X.env = (false, eval e X.env) :: starEach es X.env := by rfl) (hplain : (backTo cpos (starEach es X.env)).any (·.1) = false := by rfl) :
    PE X (.Call (.Attribute (.Name x xp) name apos) (e :: es) [] cpos) (tD c E (eMu i m fr)) := PE.imp (pe_bm PySem.F.plainAttrs_list slot hty hm ho ha hbase hfew hline hs hplain) fun _ _ _ h => v_mu hr h
def eMu0 (i : Nat) (m : List D → List D → Option (List D × D)) : En → Re (D × En) := fun δ => match δ[i]? with
  | some (.ow ds) => (opt (m ds [])).bd fun q => .ok (q.2, δ.set i (.ow q.1))
  | _ => .bad
theorem de_mu0 (slot : Slot "list" name id) (hty : typeOf (.builtin id) = pure (.type "method_descriptor")) (hm : MtR X id r) (hr : VMu r m) (ho : PE X (.Name x xp) (tVar i))
    (hbase : attributeBase (.Name x xp) name X.env (eval (.Name x xp) X.env) = eval (.Name x xp) X.env := by rfl) (hline : (apos.endLine == cpos.line) = true := by rfl) :
    PE X (.Call (.Attribute (.Name x xp) name apos) [] [] cpos) (tD c E (eMu0 i m)) := PE.imp (pe_bm0 PySem.F.plainAttrs_list slot hty hm ho hbase hline) fun σ H Q ⟨Hs, G, δ, S, q⟩ => by
  unfold eMu0 at q
  cases hi : δ[i]? with
  | none => rw [hi] at q; exact q.elim
  | some s => cases s with
    | ow ds =>
      rw [hi] at q
      simp only at q
      obtain ⟨l, xs, e1, h1, r1, w1⟩ := S.sl i _ hi
      refine ⟨.ref l, e1, .inl ⟨rfl, xs, SqL.of h1⟩, ?_⟩
      cases hz : m ds [] with
      | none => rw [hz] at q; exact q.elim
      | some z =>
        rw [hz] at q
        obtain ⟨ds', d⟩ := z
        exact hr c.K Hs H l xs [] ds [] ds' d h1 S.sh w1.1 r1 .nil hz Q fun xs' v rx rv => q Hs _ (Same.refl _) v (S.writeOw hi e1 rx) rv
    | _ => rw [hi] at q; exact q.elim
def mApp : List D → List D → Option (List D × D)
  | ds, [d] => if ds.length < 1000000 then some (ds ++ [d], .none) else none
  | _, _ => none
theorem vApp : VMu rAppend mApp := fun K Hs H l xs as ds es ds' d h s n r1 r2 e Q q => by
  unfold mApp at e
  split at e
  · split at e
    · rename_i hl
      cases e
      obtain ⟨v, rfl, rv⟩ := rpa1 r2
      exact ⟨l, xs, v, rfl, rfl, h, by rw [dpa_len r1]; exact Nat.lt_of_lt_of_le hl (by decide), q _ _ (dpa_append r1 (.cons rv .nil)) .non⟩
    · cases e
  · cases e
def mPop : List D → List D → Option (List D × D)
  | ds, [] => (ds[ds.length - 1]?).map fun d => (ds.dropLast, d)
  | _, _ => none
theorem vPop : VMu rPop mPop := fun K Hs H l xs as ds es ds' d h s n r1 r2 e Q q => by
  unfold mPop at e
  split at e
  · obtain ⟨z, e1, e2⟩ := Option.map_eq_some_iff.mp e
    cases e2
    cases r2
    obtain ⟨v, hv, rv⟩ := dpa_get r1 e1
    rw [← dpa_len r1] at hv
    exact ⟨l, xs, v, rfl, rfl, h, hv, q _ _ (dpa_last r1) rv⟩
  · cases e
def mPopAt : List D → List D → Option (List D × D)
  | ds, [.int i] => if -(2 ^ 63) ≤ i ∧ i < 2 ^ 63 then (seqIndex? i ds.length).bind fun k => (ds[k]?).map fun d => (ds.eraseIdx k, d) else none
  | _, _ => none
theorem vPopAt : VMu rPopAt mPopAt := fun K Hs H l xs as ds es ds' d h s n r1 r2 e Q q => by
  unfold mPopAt at e
  split at e
  · split at e
    · rename_i hb
      obtain ⟨k, e1, e2⟩ := Option.bind_eq_some_iff.mp e
      obtain ⟨z, e3, e4⟩ := Option.map_eq_some_iff.mp e2
      cases e4
      obtain ⟨v, rfl, rv⟩ := rpa1 r2
      cases rv
      obtain ⟨v, hv, rv⟩ := dpa_get r1 e3
      exact ⟨l, xs, _, k, v, rfl, rfl, h, hb.1, hb.2, by rw [dpa_len r1]; exact e1, hv, q _ _ (dpa_erase r1) rv⟩
    · cases e
  · cases e
def mRev : List D → List D → Option (List D × D)
  | ds, [] => some (ds.reverse, .none)
  | _, _ => none
theorem vRev : VMu rReverse mRev := fun K Hs H l xs as ds es ds' d h s n r1 r2 e Q q => by
  unfold mRev at e
  split at e
  · cases e
    cases r2
    exact ⟨l, xs, rfl, rfl, h, q _ _ (dpa_reverse r1) .non⟩
  · cases e
def mClr : List D → List D → Option (List D × D)
  | _, [] => some ([], .none)
  | _, _ => none
theorem vClr : VMu rClear mClr := fun K Hs H l xs as ds es ds' d h s n r1 r2 e Q q => by
  unfold mClr at e
  split at e
  · cases e
    cases r2
    exact ⟨l, xs, rfl, rfl, h, q _ _ .nil .non⟩
  · cases e
/-- x[i] = e, x an owned list -/
def stS (k : Nat) (fi fe : En → Re (D × En)) : En → Re Fl := fun δ => (fe δ).bd fun p => match p.2[k]? with
  | some (.ow _) => (fi p.2).bd fun q => match q.1 with
    | .int i => match q.2[k]? with
      | some (.ow ds) => (opt (ixN ds.length i)).bd fun j => .ok (.nx (q.2.set k (.ow (ds.set j p.1))))
      | _ => .bad
    | _ => .bad
  | _ => .bad
theorem ds_store {k : Nat} {fi fe : En → Re (D × En)} {ix : Expr} {spos : Pos} (hx : PE X (.Name x xp) (tVar k)) (hi : PE X ix (tD c E fi)) (he : PE X e (tD c E fe))
    (hs : swapsWithSole [.Subscript (.Name x xp) ix spos] e pos.line X.env = pure false := by rfl) (hw : swappedStores [.Subscript (.Name x xp) ix spos] e X.env = pure none := by rfl)
    (h1 : (assignEach [.Subscript (.Name x xp) ix spos] X.env).map (·.2) = [assign (.Subscript (.Name x xp) ix spos) X.env] := by rfl)
    (ha : ∀ v, assign (.Subscript (.Name x xp) ix spos) X.env v = (do
      let ov ← holding [v] (eval (.Name x xp) X.env)
      let iv ← holding [v, ov] (eval ix X.env)
      standAt spos
      holding [v, ov, iv] (setItem ov iv v)
      release [v, ov, iv] []) := by intro _; rfl) : PS X (.Assign [.Subscript (.Name x xp) ix spos] e pos) (tS c E (stS k fi fe)) := PS.imp (ps_asg he (pg_sub hx hi set_list ha) hs hw h1) fun σ H De ⟨Hs, G, δ, S, q⟩ =>
  ⟨Hs, G, δ, S, PoS.seq q fun d δ1 Hs1 H1 s1 q1 v S1 r1 => by
    simp only at q1
    cases hk : δ1[k]? with
    | none => rw [hk] at q1; exact q1.elim
    | some s => cases s with
      | ow ds0 =>
        rw [hk] at q1
        simp only at q1
        obtain ⟨l, xs0, e1, h1, _, _⟩ := S1.sl k _ hk
        refine ⟨.ref l, e1, Hs1, G, δ1, S1, PoS.seq q1 fun di δ2 Hs2 H2 s2 q2 iv S2 r2 => ?_⟩
        simp only at q2
        cases r2 with
        | int i =>
          simp only at q2
          cases hk2 : δ2[k]? with
          | none => rw [hk2] at q2; exact q2.elim
          | some s => cases s with
            | ow ds =>
              rw [hk2] at q2
              simp only at q2
              obtain ⟨l', xs, e2, h2, r3, _⟩ := S2.sl k _ hk2
              rw [e1] at e2
              cases e2
              cases hj : ixN ds.length i with
              | none => rw [hj] at q2; exact q2.elim
              | some j =>
                rw [hj] at q2
                refine ⟨l, xs, i, j, rfl, rfl, h2, by rw [dpa_len r3]; exact hj, q2 σ Hs2 _ (Same.refl _) (S2.writeOw hk2 e1 (dpa_set r3 (dp_mono s2 r1)))⟩
            | _ => rw [hk2] at q2; exact q2.elim
        | _ => exact False.elim q2
      | _ => rw [hk] at q1; exact q1.elim⟩
/-! ### loops -/
def forL (g : D → En → Option En) (F : En → Re Fl) : List D → En → Re Fl
  | [], δ => .ok (.nx δ)
  | d :: ds, δ => (opt (g d δ)).bd fun δ1 => match F δ1 with
    | .ok (.nx δ2) => forL g F ds δ2
    | .ok (.ct δ2) => forL g F ds δ2
    | .ok (.bk δ2) => .ok (.nx δ2)
    | r => r
def forS (fi : En → Re (List D × En)) (g : D → En → Option En) (F : En → Re Fl) : En → Re Fl := fun δ => (fi δ).bd fun p => forL g F p.1 p.2
theorem ds_for {tg iter : Expr} {body : List Stmt} {fi : En → Re (List D × En)} {ts : List Nat} {g : D → En → Option En} (hp : PassesOwn (model X.prog X.w) X.A X.env X.xe) (hc : X.calm = true) (hi : PI X tg iter (tI c E fi)) (hg : PG X tg (tG c ts g)) (hb : PSs X body (tS c E F))
    (hs : ∀ x, foldedSetIterable iter X.env x = pure x := by intro _; rfl) : PS X (.For tg iter body [] pos) (tS c E (forS fi g F)) := PS.imp (ps_for hp hc hi hg hb hs) fun σ H De ⟨Hs, G, δ, S, q⟩ =>
  ⟨Hs, G, δ, S, PoS.seq q fun ds δ1 Hs1 H1 s1 q1 J S1 it => by
    simp only at q1
    refine ⟨fun i m σ2 H2 => m = ds.length - i ∧ i ≤ ds.length ∧ ∃ Hs2 δ2, Same Hs1 Hs2 ∧ Sat c Hs2 G H2 σ2 δ2 ∧ PoS c E Hs2 G De (forL g F (ds.drop i) δ2),
      ⟨ds.length, by simp, Nat.zero_le _, Hs1, δ1, Same.refl _, S1, by simpa using q1⟩, ?_⟩
    rintro i m σ2 H2 ⟨rfl, hi, Hs2, δ2, s2, S2, q2⟩
    by_cases hlt : i < ds.length
    · right
      obtain ⟨hgo, hstep⟩ := (it Hs2 _ H2 σ2 δ2 s2 S2).1 i ds[i] (by simp [hlt])
      rw [List.drop_eq_getElem_cons hlt] at q2
      unfold forL at q2
      refine ⟨hgo, _, fun σ' H' n => ⟨ds.length - (i + 1), by omega, n⟩, fun x H' y => ?_⟩
      obtain ⟨Hs3, s3, S3, r3⟩ := hstep x H' y
      cases hg : g ds[i] δ2 with
      | none => rw [hg] at q2; exact q2.elim
      | some δ3 =>
        rw [hg] at q2
        simp only [opt_some, Re.bd_ok] at q2
        refine ⟨Hs3, G, δ2, ds[i], δ3, S3, r3, hg, fun σ4 S4 w => ?_⟩
        refine ⟨Hs3, G, δ3, S4, ?_⟩
        have q3 := PoS.mono s3 q2
        cases hF : F δ3 with
        | bad => rw [hF] at q3; exact q3
        | er e => rw [hF] at q3; exact q3
        | ok r =>
          rw [hF] at q3
          cases r with
          | nx δ5 => exact fun σ' Hs' H' s S' => ⟨rfl, hlt, Hs', δ5, (s2.trans s3).trans s, S', PoS.mono s q3⟩
          | ct δ5 => exact fun σ' Hs' H' s S' => ⟨rfl, hlt, Hs', δ5, (s2.trans s3).trans s, S', PoS.mono s q3⟩
          | bk δ5 => exact fun σ' Hs' H' s S' => q3 σ' Hs' H' s S'
          | rt d δ5 => exact q3
          | rf ds δ5 => exact q3
    · left
      have e : i = ds.length := by omega
      subst e
      refine ⟨(it Hs2 _ H2 σ2 δ2 s2 S2).2 _ (Nat.le_refl _), ?_⟩
      rw [List.drop_length] at q2
      exact q2 σ2 Hs2 H2 (Same.refl _) S2⟩
def whL (t : En → Re (Bool × En)) (F : En → Re Fl) : Nat → En → Re Fl
  | 0, _ => .bad
  | n + 1, δ => (t δ).bd fun p => match p.1 with
    | false => .ok (.nx p.2)
    | true => match F p.2 with
      | .ok (.nx δ2) => whL t F n δ2
      | .ok (.ct δ2) => whL t F n δ2
      | .ok (.bk δ2) => .ok (.nx δ2)
      | r => r
def whS (n : En → Nat) (t : En → Re (Bool × En)) (F : En → Re Fl) : En → Re Fl := fun δ => whL t F (n δ) δ
theorem ds_while {test : Expr} {body : List Stmt} (n : En → Nat) (hp : PassesOwn (model X.prog X.w) X.A X.env X.xe) (ht : PT X test (tT c E t)) (hb : PSs X body (tS c E F)) : PS X (.While test body [] pos) (tS c E (whS n t F)) := PS.imp (ps_while hp ht hb) fun σ H De ⟨Hs, G, δ, S, q⟩ => by
  refine ⟨fun m σ2 H2 => ∃ Hs2 δ2, Sat c Hs2 G H2 σ2 δ2 ∧ PoS c E Hs2 G De (whL t F m δ2), ⟨n δ, Hs, δ, S, q⟩, ?_⟩
  rintro m σ2 H2 ⟨Hs2, δ2, S2, q2⟩
  cases m with
  | zero => exact q2.elim
  | succ m =>
    unfold whL at q2
    refine ⟨Hs2, G, δ2, S2, PoS.seq q2 fun b δ3 Hs3 H3 s3 q3 S3 => ?_⟩
    cases b with
    | false =>
      show if false = true then _ else _
      rw [if_neg Bool.false_ne_true]
      exact q3 σ2 Hs3 H3 (Same.refl _) S3
    | true =>
      show if true = true then _ else _
      rw [if_pos rfl]
      simp only at q3
      refine ⟨fun σ' H' => ∃ Hs2 δ2, Sat c Hs2 G H' σ' δ2 ∧ PoS c E Hs2 G De (whL t F m δ2), fun σ' H' n => ⟨m, Nat.lt_succ_self m, n⟩, Hs3, G, δ3, S3, ?_⟩
      cases hF : F δ3 with
      | bad => rw [hF] at q3; exact q3
      | er e => rw [hF] at q3; exact q3
      | ok r =>
        rw [hF] at q3
        cases r with
        | nx δ5 => exact fun σ' Hs' H' s S' => ⟨Hs', δ5, S', PoS.mono s q3⟩
        | ct δ5 => exact fun σ' Hs' H' s S' => ⟨Hs', δ5, S', PoS.mono s q3⟩
        | bk δ5 => exact fun σ' Hs' H' s S' => q3 σ' Hs' H' s S'
        | rt d δ5 => exact q3
        | rf ds δ5 => exact q3
end
end DL

/-! DLG: promises of defs that hold where no repr is under way -/
namespace DL
open PySem PySem.Spec PyProof.Rows L2
structure RoomG (k : Nat) (A : Around) : Prop extends Room k A where
  gd : A.guards = some []
theorem RoomG.mono {j k : Nat} {A : Around} (r : RoomG k A) (h : j ≤ k) : RoomG j A := ⟨r.toRoom.mono h, r.gd⟩
theorem RoomG.deeper {k : Nat} {A : Around} (r : RoomG (k + 1) A) (env : Env) : RoomG k (A.deeper env) := ⟨r.toRoom.deeper env, r.gd⟩
structure FnOkG (P : Program) (w : World) (K : PySem.W.Frag) (mg : Str → Option Value) (base : Heap) (CX : CXT) (k : Nat) (f : Addr) (fd : FuncData) (ps : List Str) (sp : Sp) : Prop where
  len : ∀ vs H Q E, sp vs H Q E → vs.length = ps.length
  run : ∀ (A : Around) (outer : List Env) (s : Shared) (H : Hp) (args : Args) (us : List Value) (vs : List V) (Q : VK) (E : XK), RoomG k A → Env0 P w K mg base A outer s H →
    BindsTo s fd args (ps.zip us) → Vals vs us → sp vs H Q E → codeAny (model P w) A (.call (.ref f) args) (CR CX outer P w H s Q E) s
theorem FnOkG.imp {P : Program} {w : World} {K : PySem.W.Frag} {mg : Str → Option Value} {base : Heap} {CX : CXT} {k : Nat} {f : Addr} {fd : FuncData} {ps : List Str} {sp sp' : Sp} (F : FnOkG P w K mg base CX k f fd ps sp)
    (h : ∀ vs H Q E, sp' vs H Q E → sp vs H Q E) : FnOkG P w K mg base CX k f fd ps sp' :=
  ⟨fun vs H Q E z => F.len vs H Q E (h _ _ _ _ z), fun A outer s H args us vs Q E r1 r2 r3 r4 z => F.run A outer s H args us vs Q E r1 r2 r3 r4 (h _ _ _ _ z)⟩
section
variable {P : Program} {w : World} {K : PySem.W.Frag} {mg : Str → Option Value} {base : Heap}
theorem fun_okG {x qual : Str} {st : Stmt} {f : Addr} {fd : FuncData} {N ps : List Str} {k : Nat} {sp : Sp} (F : Fun K x qual st f fd) (S : FnScope N ps (defScope st)) (len : ∀ vs H Q E, sp vs H Q E → vs.length = ps.length)
    (body : ∀ (cdv : Value) (A : Around) (outer : List Env) (s : Shared) (H : Hp) (vs : List V) (Q : VK) (E : XK), RoomG k (A.deeper (envOfC qual (defScope st) s.heap.objs.size f cdv)) → sp vs H Q E →
      ∃ t, PSs (cxOf (L2.CX P w) P w K mg base N qual (defScope st) f cdv A outer s H E) (defBody st) t ∧ t { nx := fun _ H' => Q .non H', rt := Q } (start N vs) H) : FnOkG P w K mg base (L2.CX P w) (k + 1) f fd ps sp := by
  obtain ⟨oc, od, kV, doc, pm, an, cdv, ct, osl, rfl, lk, code⟩ := F.ex
  constructor
  · exact len
  intro A outer s H args us vs Q E room e0 bnd rv hsp
  have nvs := len _ _ _ _ hsp
  have kin : K.In s.heap := e0.mod.kin.keeps fun b o e => (e0.bs b o e).1
  have lim : s.heap.NoLimit := e0.mod.nolimit.keeps fun b o e => (e0.bs b o e).1
  have kinds : ∀ z ∈ ps.zip us, (defScope st).names.lookup z.1 = some .local ∨ ((defScope st).names.lookup z.1 = some .cell ∧ ((cellsFrom (s.heap.objs.size + 1) (defScope st).names []).lookup z.1).isSome = true) := by
    rintro ⟨n, v⟩ hz
    cases S.par n (List.of_mem_zip hz).1 with
    | inl z => exact .inl z
    | inr z => exact .inr ⟨z, PySem.W.cellsFrom_some _ _ _ (.inl z)⟩
  refine codeAny_call_function room.toRoom.depth (kin _ _ lk) rfl S.co S.gen rfl (PySem.W.codeRec_of kin code) (bnd _ _ _ _ ?_)
  refine wpAny_newFunctionEnv_cells S.kind kinds fun env henv s1 made => ?_
  cases henv
  refine ⟨lim.keeps made.toInCall.keep, codeAny_func ?_⟩
  obtain ⟨t, run, start⟩ := body cdv A outer s H vs Q E (room.deeper _) hsp
  have I := inv_start (CX := L2.CX P w) (E := E) S room.hd e0 nvs rv made
  refine wpAny_mono (run.run [] s1 (L2.start N vs) H _ I start) (fun fl s' z => ?_) fun e s' z => z
  cases fl with
  | ret u =>
    obtain ⟨v, σ', H', J, r, q⟩ := z
    exact ⟨v, H', J.os, J.bare, J.base, J.hok, r, q⟩
  | next =>
    obtain ⟨σ', H', J, q⟩ := z
    exact ⟨V.non, H', J.os, J.bare, J.base, J.hok, rfl, q⟩
  | brk => exact (z.elim fun _ z => z.elim fun _ z => z.2).elim
  | cont => exact (z.elim fun _ z => z.elim fun _ z => z.2).elim
end
section
variable {X : Cx} {CX : CXT} {k : Nat} {f : Addr} {fd : FuncData} {ps ks : List Str} {sp : Sp} {E : XK} {x : Str} {p pos : Pos} {e : Expr} {es : List Expr} {kws : List Keyword} {t tk : TA} {ds : List Value} {dvs : List V} {g : List Value → List Value → List Value} {gV : List V → List V → List V}
theorem run_fnG {pins : List (Addr × Obj)} {σ : L2.St} {H : Hp} {s : Shared} {Q : VK} {us : List Value} {vs : List V} (F : FnOkG X.prog X.w X.K X.mg X.base CX k f fd ps sp) (room : RoomG k X.A) (bnd : Binds X.K fd ps ds) (dv : Vals dvs ds) (pass : Passes CX X E)
    (I : Inv X pins σ H s) (r : Vals vs us) (h : sp (vs ++ dvs) H Q E) : wpAny (model X.prog X.w) X.A (call (.ref f) us) (EP X pins σ Q) X.xe s := by
  have all : Vals (vs ++ dvs) (us ++ ds) := r.append dv
  have num : (us ++ ds).length = ps.length := all.length.symm.trans (F.len _ _ _ _ h)
  have c := F.run X.A X.stack s H ⟨us, []⟩ (us ++ ds) (vs ++ dvs) Q E room I.env0 (bnd s us I.kIn num) all h
  refine wpAny_call (codeAny_mono c fun r s' z => ?_)
  match r, z with
  | .error e, z => exact pass pins σ H s e s' I z
  | .ok (.ret u), z => exact I.after z
  | .ok .next, z => exact z.elim
  | .ok .brk, z => exact z.elim
  | .ok .cont, z => exact z.elim
theorem pe_callG (F : FnOkG X.prog X.w X.K X.mg X.base CX k f fd ps sp) (room : RoomG k X.A) (hg : Gl X x) (hm : X.mg x = some (.ref f)) (kept : PySem.W.keepIn X.K (.ref f) = true) (bnd : Binds X.K fd ps ds) (dv : Vals dvs ds) (pass : Passes CX X E)
    (ha : PA X (e :: es) t) (hdb : (x == ("__debug__" : Str)) = false := by decide) (he : starEach (e :: es) X.env = (false, eval e X.env) :: starEach es X.env := by rfl) (hpl : (backTo pos (starEach es X.env)).any (·.1) = false := by rfl) : PE X (.Call (.Name x p) (e :: es) [] pos) (tCall sp dvs E t) where
  run := fun pins s σ H Q I h => wpAny_Call_Name_kw (ld_glob I hg hm (PySem.W.callWith_K (h₀ := X.base) I.ok.mod.kin kept (thn (ha.run pos pins s σ H _ I h) fun us s1 ⟨vs, H1, I1, r, q⟩ => ⟨I1.kIn, run_fnG F room bnd dv pass I1 r q⟩) he hpl) hdb)
theorem run_fnkG {pins : List (Addr × Obj)} {σ : L2.St} {H : Hp} {s : Shared} {Q : VK} {us ws : List Value} {vs zs : List V} (F : FnOkG X.prog X.w X.K X.mg X.base CX k f fd ps sp) (room : RoomG k X.A) (bnd : KBinds X.K fd ps ks g gV) (pass : Passes CX X E)
    (I : Inv X pins σ H s) (r : Vals vs us) (rz : Vals zs ws) (h : sp (gV vs zs) H Q E) : wpAny (model X.prog X.w) X.A (call (.ref f) us (ks.zip ws)) (EP X pins σ Q) X.xe s := by
  have all := bnd.rel r rz
  have num : (g us ws).length = ps.length := all.length.symm.trans (F.len _ _ _ _ h)
  have c := F.run X.A X.stack s H ⟨us, ks.zip ws⟩ (g us ws) (gV vs zs) Q E room I.env0 (bnd.to s us ws I.kIn num) all h
  refine wpAny_call (codeAny_mono c fun r s' z => ?_)
  match r, z with
  | .error e, z => exact pass pins σ H s e s' I z
  | .ok (.ret u), z => exact I.after z
  | .ok .next, z => exact z.elim
  | .ok .brk, z => exact z.elim
  | .ok .cont, z => exact z.elim
theorem pe_callKG (F : FnOkG X.prog X.w X.K X.mg X.base CX k f fd ps sp) (room : RoomG k X.A) (hg : Gl X x) (hm : X.mg x = some (.ref f)) (kept : PySem.W.keepIn X.K (.ref f) = true) (bnd : KBinds X.K fd ps ks g gV) (pass : Passes CX X E)
    (ha : PA X (e :: es) t) (hkw : PK X kws tk) (hall : (backToKw pos (keywordEach kws X.env)).all (·.1.isSome) = true := by rfl) (hks : (backToKw pos (keywordEach kws X.env)).filterMap (·.1) = ks := by rfl)
    (hdb : (x == ("__debug__" : Str)) = false := by decide) (he : starEach (e :: es) X.env = (false, eval e X.env) :: starEach es X.env := by rfl)
    (hpl : ((backTo pos (starEach (e :: es) X.env)).any (·.1) || (backToKw pos (keywordEach kws X.env)).any (·.1.isNone)) = false := by rfl) : PE X (.Call (.Name x p) (e :: es) kws pos) (tCallK sp gV E t tk) where
  run := fun pins s σ H Q I h => wpAny_Call_Name_kw (ld_glob I hg hm (PySem.W.callWith_KW (h₀ := X.base) I.ok.mod.kin kept hall (thn (ha.run pos pins s σ H _ I h) fun us s1 ⟨vs, H1, I1, r, q⟩ => thn (hkw.run pos pins s1 σ H1 _ I1 q) fun ws s2 ⟨zs, H2, I2, rz, q2⟩ => ⟨I2.kIn, by
    rw [hks]
    exact run_fnkG F room bnd pass I2 r rz q2⟩) hpl he) hdb)
theorem pe_ck0G (F : FnOkG X.prog X.w X.K X.mg X.base CX k f fd ps sp) (room : RoomG k X.A) (hg : Gl X x) (hm : X.mg x = some (.ref f)) (kept : PySem.W.keepIn X.K (.ref f) = true) (bnd : KBinds X.K fd ps ks g gV) (pass : Passes CX X E)
    (hkw : PK X kws tk) (hall : (backToKw pos (keywordEach kws X.env)).all (·.1.isSome) = true := by rfl) (hks : (backToKw pos (keywordEach kws X.env)).filterMap (·.1) = ks := by rfl)
    (hdb : (x == ("__debug__" : Str)) = false := by decide) (hpl : ((backTo pos (starEach [] X.env)).any (·.1) || (backToKw pos (keywordEach kws X.env)).any (·.1.isNone)) = false := by rfl) : PE X (.Call (.Name x p) [] kws pos) (tCallK sp gV E tNil tk) where
  run := fun pins s σ H Q I h => wpAny_Call_Name_kw (ld_glob I hg hm (PySem.W.callWith_KW0 (h₀ := X.base) I.ok.mod.kin kept hall (thn (hkw.run pos pins s σ H _ I h) fun ws s2 ⟨zs, H2, I2, rz, q2⟩ => ⟨I2.kIn, by
    rw [hks]
    exact run_fnkG F room bnd pass I2 .nil rz q2⟩) hpl) hdb)
end
/-! the law's call -/
section
variable {P : Program} {w : World} {K : PySem.W.Frag} {mg mb : Str → Option Value} {CX : CXT} {k : Nat} {fa a : Addr} {fd : FuncData} {x : Str} {sp : Sp} {s1 : Shared} {vs : List Value} {ns : List Int}
def Ends1 (s1 : Shared) : Result → Shared → Prop := fun r s' => r = .ok (.ret (.bool true)) ∧ OldK s1.heap s'.heap ∧ s'.os = s1.os ∧ AllBare s'.gens
theorem core_callG {H : Hp} (kin : K.In s1.heap) (nsm : s1.heap.Ns mainGlobals mg) (nsb : s1.heap.Ns builtinsNs mb) (boot : ∀ x : Str, x ≠ "__name__" → mb x = bootBuiltins x) (lim : s1.heap.NoLimit) (nog : s1.gens = #[])
    (obj : s1.heap.get? a = some { cls := .type "list", data := .seq vs.toArray }) (room : RoomG k callerA) (F : ∀ base : Heap, K.In base → base.Ns mainGlobals mg → FnOkG P w K mg base CX k fa fd [x] sp) (bnd : ∀ (s : Shared) (u : Value), BindsTo s fd ⟨[u], []⟩ [(x, u)])
    (hsp : sp [.ref a] H (fun v _ => v = .bl true) fun _ _ _ => False) (err : ∀ e s', CX [] H s1 (fun _ _ _ => False) e s' → False) (only : Only H) (hok : HOk P w H s1.heap) (one : ∀ b, H b ≠ none → b = a) (free : H a ≠ none → K.lookup a = none) :
    codeAny (model P w) callerA (.call (.ref fa) ⟨[.ref a], []⟩) (Ends1 s1) s1 := by
  have isA : ∀ {b : Addr} {u : HO}, H b = some u → b = a := fun {b u} z => one b (by rw [z]; exact fun z => nomatch z)
  have keep : ∀ {b : Addr} {o : Obj}, s1.heap.get? b = some o → H b = none → (hidT s1.heap H).get? b = some o := fun z n => hidT_get z n
  have dictFree : ∀ {b : Addr} {o : Obj} {es : Array DictEntry} {ep : Nat}, s1.heap.get? b = some o → o.data = .dict es ep → H b = none := fun {b o es ep} z d => by
    cases q : H b with
    | none => rfl
    | some u =>
      obtain rfl := isA q
      rw [obj] at z
      cases z
      exact nomatch (show Data.seq vs.toArray _ = Data.dict es ep from d)
  have nsT : ∀ {b : Addr} {m : Str → Option Value}, s1.heap.Ns b m → (hidT s1.heap H).Ns b m := fun {b m} ⟨o, es, ep, z, d, r⟩ => ⟨o, es, ep, keep z (dictFree z d), d, r⟩
  have kinT : K.In (hidT s1.heap H) := fun b o z => keep (kin b o z) (by
    cases q : H b with
    | none => rfl
    | some u =>
      obtain rfl := isA q
      rw [free (by rw [q]; exact fun z => nomatch z)] at z
      cases z)
  obtain ⟨mc, l1, l2⟩ := lim
  have top : Mod K mg (hidT s1.heap H) := ⟨kinT, nsT nsm, ⟨mb, nsT nsb, boot⟩, ⟨mc, nsT l1, l2⟩⟩
  have env : Env0 P w K mg (hidT s1.heap H) callerA [] s1 H := { frames := rfl, mod := top, bs := fun b o z => of_hidT z, bsz := Nat.le_of_eq (hidT_size _ _), funs := trivial, frf := (fun b hb => nomatch hb), hok := hok, bare := .of_eq nog }
  have ran := (F _ kinT (nsT nsm)).run callerA [] s1 H ⟨[.ref a], []⟩ [.ref a] [.ref a] _ _ room env (bnd s1 (.ref a)) (.cons rfl .nil) hsp
  refine codeAny_mono ran fun r s' z => ?_
  match r, z with
  | .error e, z => exact (err e s' z).elim
  | .ok .next, z => exact z.elim
  | .ok .brk, z => exact z.elim
  | .ok .cont, z => exact z.elim
  | .ok (.ret u), ⟨v, H', os, bare, un, hok', rel, q⟩ =>
    cases (show v = .bl true from q)
    cases (show u = Value.bool true from rel)
    refine ⟨rfl, OldK.of_keep fun b o z => ?_, os, bare⟩
    cases qb : H b with
    | none => exact un.keep b o z qb (fun m => nomatch m) (by simp)
    | some u =>
      rcases only b with n | ⟨ob, xs, y⟩
      · rw [qb] at n; cases n
      · have y' := un.frzs b ob _ y
        have e1 := (hok b _ y).1
        have e2 := (hok' b _ y').1
        rw [z] at e1
        cases e1
        exact e2
theorem law_callG (kin : K.In s1.heap) (nsm : s1.heap.Ns mainGlobals mg) (nsb : s1.heap.Ns builtinsNs mb) (boot : ∀ x : Str, x ≠ "__name__" → mb x = bootBuiltins x) (lim : s1.heap.NoLimit) (nog : s1.gens = #[])
    (obj : s1.heap.get? a = some { cls := .type "list", data := .seq vs.toArray }) (inums : IntsAre vs ns) (num : ns.length ≤ sizeLine) (room : RoomG k callerA) (F : ∀ base : Heap, K.In base → base.Ns mainGlobals mg → FnOkG P w K mg base CX k fa fd [x] sp) (bnd : ∀ (s : Shared) (u : Value), BindsTo s fd ⟨[u], []⟩ [(x, u)])
    (hsp : ∀ H : Hp, Only H → SqL K H a (ns.map V.int) → sp [.ref a] H (fun v _ => v = .bl true) fun _ _ _ => False) (err : ∀ H e s', CX [] H s1 (fun _ _ _ => False) e s' → False) :
    codeAny (model P w) callerA (.call (.ref fa) ⟨[.ref a], []⟩) (Ends1 s1) s1 := by
  have rv := vals_ints inums
  cases look : K.lookup a with
  | some o =>
    have z := kin a o look
    rw [obj] at z
    cases z
    have only : Only fun _ => none := fun _ => .inl rfl
    have sq : SqL K (fun _ => none) a (ns.map V.int) := .inr ⟨_, vs.toArray, _, look, rfl, rfl, rfl, by rw [List.size_toArray, inums.length]; exact num, by simpa using rv⟩
    exact core_callG kin nsm nsb boot lim nog obj room F bnd (hsp _ only sq) (err _) only (fun b u z => nomatch (show (none : Option HO) = some u from z)) (fun b z => absurd rfl z) fun z => absurd rfl z
  | none =>
    obtain ⟨Hf, hf⟩ : ∃ Hf : Hp, Hf = fun b => if b = a then some (.frz { cls := .type "list", data := .seq vs.toArray } (.lst (ns.map V.int))) else none := ⟨_, rfl⟩
    have atA : Hf a = some (.frz { cls := .type "list", data := .seq vs.toArray } (.lst (ns.map V.int))) := by rw [hf]; exact if_pos rfl
    have off : ∀ b, b ≠ a → Hf b = none := fun b n => by rw [hf]; exact if_neg n
    have only : Only Hf := fun b => by
      by_cases z : b = a
      · subst z; exact .inr ⟨_, _, atA⟩
      · exact .inl (off b z)
    refine core_callG kin nsm nsb boot lim nog obj room F bnd (hsp Hf only (.inl (.inr ⟨_, atA⟩))) (err _) only (fun b u z => ?_) (fun b z => ?_) fun _ => look
    · by_cases y : b = a
      · subst y
        rw [atA] at z
        cases z
        exact ⟨obj, by rw [List.length_map]; exact num, vs, _, rv, obj⟩
      · rw [off b y] at z; cases z
    · exact Classical.byContradiction fun y => z (off b y)
end
theorem walk_ofG {l : PySem.W.OpenLaw} {n k : Nat} {q : Program} {loose : List Str} {XP : (Str → Option Value) → Heap → Prop} {YP : World → Heap → Prop} {d : DefRec} {K : Params → PySem.W.Frag} {CX : World → CXT} {sp : World → Sp} {x : Str}
    (most : l.most = some n) (small : n ≤ sizeLine) (nodf : d.params.defaults = []) (room : RoomG k callerA) (hY : ∀ (w : World) (h : Heap), YP w h → (K w.params).In h)
    (F : ∀ (w : World) (mg : Str → Option Value) (fa : Addr) (h : Heap), (K w.params).In h → h.Ns mainGlobals mg → mg d.name = some (.ref fa) → ∃ fd : FuncData, (∀ (s : Shared) (u : Value), BindsTo s fd ⟨[u], []⟩ [(x, u)]) ∧ ∀ base : Heap, (K w.params).In base → base.Ns mainGlobals mg → FnOkG l.prog w (K w.params) mg base (CX w) k fa fd [x] (sp w))
    (hsp : ∀ (w : World) (H : Hp) (a : Addr) (ns : List Int), ns.length ≤ n → SqL (K w.params) H a (ns.map V.int) → sp w [.ref a] H (fun v _ => v = .bl true) fun _ _ _ => False) (err : ∀ (w : World) (H : Hp) (s : Shared) (e : Value) (s' : Shared), CX w [] H s (fun _ _ _ => False) e s' → False) :
    PySem.W.WalkO q loose XP YP l.row.toRowW d [] (fun f vs => PySem.call f vs) := Att.attach_call most nodf fun w s₀ s₁ mg mb fa o pm cd doc a vs ns G Y ho hd hcd hmg hobj hints hlen hg => by
  obtain ⟨fd, bnd, ok⟩ := F w mg fa _ (hY w _ Y) G.T.g hmg
  exact law_callG (hY w _ Y) G.T.g G.T.b G.T.builtins G.T.nolimit hg hobj hints (Nat.le_trans hlen small) room ok bnd (fun H _ sq => hsp w H a ns hlen sq) fun H e s' => err w H s₁ e s'
end DL

/-! DL6: defs and their calls over data -/
namespace DL
open PySem L2

/-- what is new in the stable part was not there -/
def Nw (H Hs Hs' : Hp) : Prop := ∀ a o, Hs' a = some o → Hs a = some o ∨ H a = none
def XOkK (K : PySem.W.Frag) (mg : Str → Option Value) (E : XK) (Hs H : Hp) (e : Er) : Prop := match e.pay with
  | none => ∀ C, mg e.cls = some (.ref C) → E (.ref C) none H
  | some (f, d) => ∀ C dx v, mg e.cls = some (.ref C) → H dx = some (.xd [(f, v)]) → Rp K Hs v d → E (.ref C) (some dx) H
/-- a def that changes nothing; it hands back stable data | a new list -/
def PoP (K : PySem.W.Frag) (mg : Str → Option Value) (Hs H : Hp) (Q : VK) (E : XK) : Re D → Prop
  | .bad => False
  | .er e => ∀ Hs' H', Same Hs Hs' → Same Hs' H' → Same H H' → Nw H Hs Hs' → XOkK K mg E Hs' H' e
  | .ok d => ∀ v Hs' H', Same Hs Hs' → Same Hs' H' → Same H H' → Nw H Hs Hs' → Rp K Hs' v d → Q v H'
def PoPF (K : PySem.W.Frag) (mg : Str → Option Value) (Hs H : Hp) (Q : VK) (E : XK) : Re (List D) → Prop
  | .bad => False
  | .er e => ∀ Hs' H', Same Hs Hs' → Same Hs' H' → Same H H' → Nw H Hs Hs' → XOkK K mg E Hs' H' e
  | .ok ds => ∀ p xs Hs' H', Same Hs Hs' → Same Hs' H' → Same H H' → Nw H Hs Hs' → Hs' p = none → H p = none → H' p = some (.lst xs) → RpAll K Hs' xs ds → Q (.ref p) H'
def spP (K : PySem.W.Frag) (mg : Str → Option Value) (F : List D → Re D) : Sp := fun vs H Q E => ∃ Hs ds, Same Hs H ∧ RpAll K Hs vs ds ∧ PoP K mg Hs H Q E (F ds)
def spPF (K : PySem.W.Frag) (mg : Str → Option Value) (F : List D → Re (List D)) : Sp := fun vs H Q E => ∃ Hs ds, Same Hs H ∧ RpAll K Hs vs ds ∧ PoPF K mg Hs H Q E (F ds)
/-- a def that changes its first argument, a list -/
def PoM (K : PySem.W.Frag) (mg : Str → Option Value) (a : Addr) (Hs H : Hp) (Q : VK) (E : XK) : Re (D × List D) → Prop
  | .bad => False
  | .er e => ∀ Hs' H', Same Hs Hs' → Same Hs' H' → (∀ b o, b ≠ a → H b = some o → H' b = some o) → Nw H Hs Hs' → (∃ o, H' a = some o) → XOkK K mg E Hs' H' e
  | .ok (d, s) => ∀ v xs Hs' H', Same Hs Hs' → Same Hs' H' → (∀ b o, b ≠ a → H b = some o → H' b = some o) → Nw H Hs Hs' → Hs' a = none → H' a = some (.lst xs) → RpAll K Hs' xs s → Rp K Hs' v d → Q v H'
def PoMF (K : PySem.W.Frag) (mg : Str → Option Value) (a : Addr) (Hs H : Hp) (Q : VK) (E : XK) : Re (List D × List D) → Prop
  | .bad => False
  | .er e => ∀ Hs' H', Same Hs Hs' → Same Hs' H' → (∀ b o, b ≠ a → H b = some o → H' b = some o) → Nw H Hs Hs' → (∃ o, H' a = some o) → XOkK K mg E Hs' H' e
  | .ok (d, s) => ∀ p ys xs Hs' H', Same Hs Hs' → Same Hs' H' → (∀ b o, b ≠ a → H b = some o → H' b = some o) → Nw H Hs Hs' → Hs' a = none → H' a = some (.lst xs) → RpAll K Hs' xs s → Hs' p = none → H p = none → H' p = some (.lst ys) → RpAll K Hs' ys d → Q (.ref p) H'
def spM (K : PySem.W.Frag) (mg : Str → Option Value) (F : List D → List D → Re (D × List D)) : Sp := fun vs H Q E => ∃ Hs a xs src ws ds, vs = V.ref a :: ws ∧ Same Hs H ∧ Hs a = none ∧ H a = some (.lst xs) ∧ RpAll K Hs xs src ∧ RpAll K Hs ws ds ∧ PoM K mg a Hs H Q E (F src ds)
def spMF (K : PySem.W.Frag) (mg : Str → Option Value) (F : List D → List D → Re (List D × List D)) : Sp := fun vs H Q E => ∃ Hs a xs src ws ds, vs = V.ref a :: ws ∧ Same Hs H ∧ Hs a = none ∧ H a = some (.lst xs) ∧ RpAll K Hs xs src ∧ RpAll K Hs ws ds ∧ PoMF K mg a Hs H Q E (F src ds)

/-! ### from a body to the promise -/
def en0 (n : Nat) (ds : List D) : En := ds.map .sh ++ List.replicate (n - ds.length) .no
def dfP (np n : Nat) (F : En → Re Fl) (ds : List D) : Re D := if ds.length = np then (match F (en0 n ds) with
  | .bad => .bad
  | .er e => .er e
  | .ok (.nx _) => .ok .none
  | .ok (.rt d _) => .ok d
  | .ok _ => .bad) else .bad
def en1 (n : Nat) (src ds : List D) : En := .ow src :: (ds.map .sh ++ List.replicate (n - (ds.length + 1)) .no)
def fin1 (d : D) (δ : En) : Re (D × List D) := match δ[(0 : Nat)]? with
  | some (.ow s) => .ok (d, s)
  | _ => .bad
def dfM (np n : Nat) (F : En → Re Fl) (src ds : List D) : Re (D × List D) := if ds.length = np then (match F (en1 n src ds) with
  | .bad => .bad
  | .er e => .er e
  | .ok (.nx δ) => fin1 .none δ
  | .ok (.rt d δ) => fin1 d δ
  | .ok _ => .bad) else .bad
section
variable {P : Program} {w : World} {K : PySem.W.Frag} {mg : Str → Option Value} {base : Heap}
theorem start_at {N : List Str} {vs : List V} {i : Nat} {v : V} (h : vs[i]? = some v) : (L2.start N vs)[i]? = some (some v) := by
  unfold L2.start
  have hl := (List.getElem?_eq_some_iff.mp h).1
  rw [List.getElem?_append_left (by simpa using hl), List.getElem?_map, h]
  rfl
theorem start_len {N : List Str} {vs : List V} : (L2.start N vs).length = vs.length + (N.length - vs.length) := by
  unfold L2.start
  rw [List.length_append, List.length_map, List.length_replicate]
theorem sat0 {N : List Str} {vs : List V} {ds : List D} {Hs H : Hp} {ma : Nat → Addr} (s : Same Hs H) (r : RpAll K Hs vs ds) : Sat ⟨K, mg, H, Hs, [], ma⟩ Hs H H (L2.start N vs) (en0 N.length ds) := by
  have key : ∀ (i : Nat) (t : Sl), (en0 N.length ds)[i]? = some t → t = .no ∨ ∃ v d, vs[i]? = some v ∧ t = .sh d ∧ Rp K Hs v d := fun i t h => by
    unfold en0 at h
    by_cases hi : i < ds.length
    · rw [List.getElem?_append_left (by simpa using hi), List.getElem?_map] at h
      obtain ⟨d, e1, e2⟩ := Option.map_eq_some_iff.mp h
      obtain ⟨v, hv, rv⟩ := dpa_get r e1
      exact .inr ⟨v, d, hv, e2.symm, rv⟩
    · rw [List.getElem?_append_right (by simpa using Nat.le_of_not_lt hi), List.getElem?_replicate] at h
      split at h
      · cases h; exact .inl rfl
      · cases h
  refine ⟨⟨Same.refl _, s, Same.refl _, fun a o e => .inl e, fun a o e => ⟨o, e⟩, fun a o o' e _ => ⟨o, e⟩⟩, ?_, fun i t h => ?_, fun i j t u a ne h1 h2 f1 f2 => ?_, fun i hi => absurd hi (by simp)⟩
  · rw [start_len]
    unfold en0
    rw [List.length_append, List.length_map, List.length_replicate, dpa_len r]
  · rcases key i t h with rfl | ⟨v, d, hv, rfl, rv⟩
    · trivial
    · exact ⟨v, start_at hv, rv⟩
  · rcases key i t h1 with rfl | ⟨v, d, hv, rfl, rv⟩
    · exact foot_no f1
    · exact foot_sh f1
theorem sat1 {N : List Str} {ws xs : List V} {src ds : List D} {Hs H : Hp} {a : Addr} (s : Same Hs H) (ha : Hs a = none) (h : H a = some (.lst xs)) (rx : RpAll K Hs xs src) (r : RpAll K Hs ws ds) :
    Sat ⟨K, mg, H, Hs, [0], fun _ => a⟩ Hs (fun b => if b = a then none else H b) H (L2.start N (.ref a :: ws)) (en1 N.length src ds) := by
  have key : ∀ (i : Nat) (t : Sl), (en1 N.length src ds)[i]? = some t → (i = 0 ∧ t = .ow src) ∨ (i ≠ 0 ∧ (t = .no ∨ ∃ v d, (V.ref a :: ws)[i]? = some v ∧ t = .sh d ∧ Rp K Hs v d)) := fun i t h => by
    unfold en1 at h
    cases i with
    | zero =>
      simp at h
      exact .inl ⟨rfl, h.symm⟩
    | succ i =>
      simp only [List.getElem?_cons_succ] at h
      refine .inr ⟨by omega, ?_⟩
      by_cases hi : i < ds.length
      · rw [List.getElem?_append_left (by simpa using hi), List.getElem?_map] at h
        obtain ⟨d, e1, e2⟩ := Option.map_eq_some_iff.mp h
        obtain ⟨v, hv, rv⟩ := dpa_get r e1
        exact .inr ⟨v, d, by simpa using hv, e2.symm, rv⟩
      · rw [List.getElem?_append_right (by simpa using Nat.le_of_not_lt hi), List.getElem?_replicate] at h
        split at h
        · cases h; exact .inl rfl
        · cases h
  refine ⟨⟨Same.refl _, s, fun b o e => ?_, fun a o e => .inl e, fun a o e => ⟨o, e⟩, fun b o o' e _ => ?_⟩, ?_, fun i t h => ?_, fun i j t u a ne h1 h2 f1 f2 => ?_, fun i hi => ?_⟩
  · split at e
    · cases e
    · exact e
  · split at e
    · cases e
    · exact ⟨o, e⟩
  · rw [start_len]
    unfold en1
    rw [List.length_cons, List.length_append, List.length_map, List.length_replicate, List.length_cons, dpa_len r]
    omega
  · rcases key i t h with ⟨rfl, rfl⟩ | ⟨hi, rfl | ⟨v, d, hv, rfl, rv⟩⟩
    · exact ⟨a, xs, start_at (by rfl), by assumption, rx, ha, if_pos rfl, .inl ⟨by simp, rfl⟩⟩
    · trivial
    · exact ⟨v, start_at hv, rv⟩
  · rcases key i t h1 with ⟨rfl, rfl⟩ | ⟨hi, rfl | ⟨v, d, hv, rfl, rv⟩⟩
    · rcases key j u h2 with ⟨rfl, rfl⟩ | ⟨hj, rfl | ⟨v, d, hv, rfl, rv⟩⟩
      · exact ne rfl
      · exact foot_no f2
      · exact foot_sh f2
    · exact foot_no f1
    · exact foot_sh f1
  · have e : i = 0 := by simpa using hi
    subst e
    exact ⟨src, rfl⟩
variable {x qual : Str} {st : Stmt} {f : Addr} {fd : FuncData} {N ps : List Str} {k : Nat}
theorem fn_P (F : Fun K x qual st f fd) (S : FnScope N ps (defScope st)) {Fb : En → Re Fl}
    (hb : ∀ (cdv : Value) (A : Around) (outer : List Env) (s : Shared) (H : Hp) (E : XK) (Hin Hb : Hp) (ma : Nat → Addr), RoomG k (A.deeper (PyProof.Rows.envOfC qual (defScope st) s.heap.objs.size f cdv)) →
      PSs (cxOf (L2.CX P w) P w K mg base N qual (defScope st) f cdv A outer s H E) (defBody st) (tS ⟨K, mg, Hin, Hb, [], ma⟩ E Fb)) :
    FnOkG P w K mg base (L2.CX P w) (k + 1) f fd ps (spP K mg (dfP ps.length N.length Fb)) := by
  refine fun_okG F S (fun vs H Q E ⟨_, ds, _, r, h⟩ => by
    unfold dfP at h
    split at h
    · rename_i hl; rw [dpa_len r]; exact hl
    · exact h.elim) (fun cdv A outer s H vs Q E hr ⟨Hs, ds, hs, r, h⟩ => ⟨_, hb cdv A outer s H E H Hs (fun _ => 0) hr, Hs, H, en0 N.length ds, sat0 hs r, ?_⟩)
  unfold dfP at h
  split at h
  case isFalse => exact h.elim
  cases hz : Fb (en0 N.length ds) with
  | bad => rw [hz] at h; exact h
  | er e => rw [hz] at h; exact fun Hs' H' s' F' => h Hs' H' s' F'.sh F'.gm F'.nw
  | ok fl =>
    rw [hz] at h
    cases fl with
    | nx δ => exact fun σ' Hs' H' s' S' => h _ Hs' H' s' S'.sh S'.gm S'.nw .non
    | rt d δ => exact fun v σ' Hs' H' s' S' rv => h v Hs' H' s' S'.sh S'.gm S'.nw rv
    | bk δ => exact h.elim
    | ct δ => exact h.elim
    | rf ds δ => exact h.elim
theorem fin_at {Hs Hs' H H' : Hp} {a : Addr} {σ : St} {δ : En} {d : D} {z : D × List D} (S : Sat ⟨K, mg, H, Hs, [0], fun _ => a⟩ Hs' (fun b => if b = a then none else H b) H' σ δ) (h : fin1 d δ = .ok z) :
    z.1 = d ∧ ∃ xs, H' a = some (.lst xs) ∧ RpAll K Hs' xs z.2 ∧ Hs' a = none := by
  unfold fin1 at h
  split at h
  · rename_i s e
    cases h
    obtain ⟨r, xs, e1, h1, r1, w1, _, w2⟩ := S.sl 0 _ e
    rcases w2 with ⟨_, rfl⟩ | ⟨z, _⟩
    · exact ⟨rfl, xs, h1, r1, w1⟩
    · exact absurd (show 0 ∈ [0] by simp) z
  · cases h
theorem fin_ok {d : D} {δ : En} : fin1 d δ = .bad ∨ ∃ s, fin1 d δ = .ok (d, s) := by
  unfold fin1
  split
  · exact .inr ⟨_, rfl⟩
  · exact .inl rfl
theorem keep_G {H H' : Hp} {a : Addr} (h : Same (fun b => if b = a then none else H b) H') : ∀ b o, b ≠ a → H b = some o → H' b = some o := fun b o n e => h b o (by
  show (if b = a then none else H b) = some o
  rw [if_neg n]; exact e)
theorem fn_M (F : Fun K x qual st f fd) {p0 : Str} (S : FnScope N (p0 :: ps) (defScope st)) {Fb : En → Re Fl}
    (hb : ∀ (cdv : Value) (A : Around) (outer : List Env) (s : Shared) (H : Hp) (E : XK) (Hin Hb : Hp) (ma : Nat → Addr), RoomG k (A.deeper (PyProof.Rows.envOfC qual (defScope st) s.heap.objs.size f cdv)) →
      PSs (cxOf (L2.CX P w) P w K mg base N qual (defScope st) f cdv A outer s H E) (defBody st) (tS ⟨K, mg, Hin, Hb, [0], ma⟩ E Fb)) :
    FnOkG P w K mg base (L2.CX P w) (k + 1) f fd (p0 :: ps) (spM K mg (dfM ps.length N.length Fb)) := by
  refine fun_okG F S (fun vs H Q E ⟨_, _, _, _, ws, ds, e, _, _, _, _, r, h⟩ => by
    subst e
    unfold dfM at h
    split at h
    · rename_i hl; rw [List.length_cons, List.length_cons, dpa_len r, hl]
    · exact h.elim) (fun cdv A outer s H vs Q E hr ⟨Hs, a, xs, src, ws, ds, e, hs, ha, hx, rx, r, h⟩ => ?_)
  subst e
  refine ⟨_, hb cdv A outer s H E H Hs (fun _ => a) hr, Hs, _, en1 N.length src ds, sat1 hs ha hx rx r, ?_⟩
  unfold dfM at h
  split at h
  case isFalse => exact h.elim
  have ok : ∀ {d : D} {δ : En} {v : V} {σ' : St} {Hs' H' : Hp}, PoM K mg a Hs H Q E (fin1 d δ) → Same Hs Hs' → Sat ⟨K, mg, H, Hs, [0], fun _ => a⟩ Hs' (fun b => if b = a then none else H b) H' σ' δ → Rp K Hs' v d → Q v H' := fun {d δ v σ' Hs' H'} h s' S' rv => by
    rcases fin_ok (d := d) (δ := δ) with e | ⟨t, e⟩
    · rw [e] at h; exact h.elim
    · obtain ⟨_, ys, q1, q2, q3⟩ := fin_at S' e
      rw [e] at h
      exact h v ys Hs' H' s' S'.sh (keep_G S'.gm) S'.nw q3 q1 q2 rv
  cases hz : Fb (en1 N.length src ds) with
  | bad => rw [hz] at h; exact h
  | er e =>
    rw [hz] at h
    exact fun Hs' H' s' F' => h Hs' H' s' F'.sh (keep_G F'.gm) F'.nw (F'.hin a _ hx)
  | ok fl =>
    rw [hz] at h
    cases fl with
    | nx δ => exact fun σ' Hs' H' s' S' => ok h s' S' .non
    | rt d δ => exact fun v σ' Hs' H' s' S' rv => ok h s' S' rv
    | bk δ => exact h.elim
    | ct δ => exact h.elim
    | rf ds δ => exact h.elim
/-- a def as its callers see it -/
structure Dn (P : Program) (w : World) (K : PySem.W.Frag) (mg : Str → Option Value) (base : Heap) (k : Nat) (x : Str) (ps : List Str) (sp : Sp) : Prop where
  ex : ∃ f fd, FnOkG P w K mg base (L2.CX P w) k f fd ps sp ∧ mg x = some (.ref f) ∧ PySem.W.keepIn K (.ref f) = true ∧ Binds K fd ps []
end
/-! ### calls -/
section
variable {X : Cx} {c : DC} {E : XK} {e : Expr} {es : List Expr} {fr : En → Re (List D × En)} {k : Nat} {x : Str} {ps : List Str} {n : Nat} {p pos : Pos} {Hs Hs' G H H' : Hp} {σ : St} {δ : En}
def eCr {α : Type} (F : List D → Re α) (fr : En → Re (List D × En)) : En → Re (α × En) := fun δ => (fr δ).bd fun p => (F p.1).bd fun d => .ok (d, p.2)
def pCr {α : Type} (F : List D → Re α) (fr : En → Re (List D)) : En → Re α := fun δ => (fr δ).bd fun p => F p
theorem eCr_pu {α : Type} (F : List D → Re α) (fr : En → Re (List D)) : eCr F (Pu fr) = Pu (pCr F fr) := by
  funext δ; unfold eCr Pu pCr
  cases fr δ with
  | ok x =>
    simp only [Re.bd_ok]
  | _ => rfl
theorem Sat.nw_own (S : Sat c Hs G H σ δ) (nw : Nw H Hs Hs') {i : Nat} {s : Sl} {b : Addr} (hj : δ[i]? = some s) (f : Foot H σ[i]? s b) : Hs' b = none := by
  obtain ⟨w, u, hu⟩ := foot_own (S.sl i s hj) f
  cases q : Hs' b with
  | none => rfl
  | some o =>
    rcases nw b o q with z | z
    · rw [w.1] at z; cases z
    · rw [hu] at z; cases z
/-- behind a call that kept everything -/
theorem Frm.grown (S : Frm c Hs G H) (s : Same Hs Hs') (sh : Same Hs' H') (sm : Same H H') (nw : Nw H Hs Hs') : Frm c Hs' G H' :=
  ⟨S.bs.trans s, sh, S.gm.trans sm, fun a o e => by
    rcases nw a o e with z | z
    · exact S.nw a o z
    · exact .inr (Sat.fresh_in S z), fun a o e => by
    obtain ⟨o', e'⟩ := S.hin a o e
    exact ⟨o', sm a o' e'⟩, fun a o o' e e' => by
    rcases nw a o' e' with z | z
    · exact S.gs a o o' e z
    · rw [S.gm a o e] at z; cases z⟩
theorem Sat.grown (S : Sat c Hs G H σ δ) (s : Same Hs Hs') (sh : Same Hs' H') (sm : Same H H') (nw : Nw H Hs Hs') : Sat c Hs' G H' σ δ :=
  S.keep (S.toFrm.grown s sh sm nw) s (fun _ _ b o _ _ e => sm b o e) (fun j t b hj f => S.nw_own nw hj f) fun j t b hj f => (foot_own (S.sl j t hj) f).1.2.1
theorem xok_of {e : Er} (h : XOk c E Hs H e) : XOkK c.K c.mg E Hs H e := h
theorem v_cr {F : List D → Re D} (S : Sat c Hs G H σ δ) {vs : List V} {ds : List D} (r : RpAll c.K Hs vs ds) {Q : VK} (h : PoG c E Hs G (fun d δ' Hs' H' => ∀ v, Sat c Hs' G H' σ δ' → Rp c.K Hs' v d → Q v H') ((F ds).bd fun d => .ok (d, δ))) : spP c.K c.mg F vs H Q E := by
  refine ⟨Hs, ds, S.sh, r, ?_⟩
  cases hz : F ds with
  | bad => rw [hz] at h; exact h
  | er e => rw [hz] at h; exact fun Hs' H' s sh sm nw => h Hs' H' s (S.toFrm.grown s sh sm nw)
  | ok d => rw [hz] at h; exact fun v Hs' H' s sh sm nw rv => h Hs' H' s v (S.grown s sh sm nw) rv
theorem v_crF {F : List D → Re (List D)} (S : Sat c Hs G H σ δ) {vs : List V} {ds : List D} (r : RpAll c.K Hs vs ds) {Q : VK} (h : PoG c E Hs G (fun ds δ' Hs' H' => ∀ p xs, Sat c Hs' G H' σ δ' → Loose c Hs' G H' σ δ' p → H' p = some (.lst xs) → RpAll c.K Hs' xs ds → Q (.ref p) H') ((F ds).bd fun d => .ok (d, δ))) : spPF c.K c.mg F vs H Q E := by
  refine ⟨Hs, ds, S.sh, r, ?_⟩
  cases hz : F ds with
  | bad => rw [hz] at h; exact h
  | er e => rw [hz] at h; exact fun Hs' H' s sh sm nw => h Hs' H' s (S.toFrm.grown s sh sm nw)
  | ok d =>
    rw [hz] at h
    exact fun p xs Hs' H' s sh sm nw hp hp2 hx rx => h Hs' H' s p xs (S.grown s sh sm nw) ⟨hp, Sat.fresh_G S.toFrm hp2, Sat.fresh_in S.toFrm hp2, fun j t hj f => by
      have f' := foot_keep (H' := H') (S.sl j t hj) (fun b u _ e => sm b u e) f
      obtain ⟨_, u, e⟩ := foot_own (S.sl j t hj) f'
      rw [hp2] at e; cases e⟩ hx rx
def noer {α β : Type} (F : α → Re β) : α → Re β := fun a => match F a with
  | .er _ => .bad
  | r => r
theorem spP_noer {K : PySem.W.Frag} {mg : Str → Option Value} {F : List D → Re D} {vs : List V} {H : Hp} {Q : VK} {E : XK} (E' : XK) (h : spP K mg (noer F) vs H Q E) : spP K mg F vs H Q E' := by
  obtain ⟨Hs, ds, s, r, q⟩ := h
  refine ⟨Hs, ds, s, r, ?_⟩
  unfold noer at q
  cases hz : F ds with
  | bad => rw [hz] at q; exact q
  | er e => rw [hz] at q; exact q.elim
  | ok d => rw [hz] at q; exact q
theorem spPF_noer {K : PySem.W.Frag} {mg : Str → Option Value} {F : List D → Re (List D)} {vs : List V} {H : Hp} {Q : VK} {E : XK} (E' : XK) (h : spPF K mg (noer F) vs H Q E) : spPF K mg F vs H Q E' := by
  obtain ⟨Hs, ds, s, r, q⟩ := h
  refine ⟨Hs, ds, s, r, ?_⟩
  unfold noer at q
  cases hz : F ds with
  | bad => rw [hz] at q; exact q
  | er e => rw [hz] at q; exact q.elim
  | ok d => rw [hz] at q; exact q
theorem de_cr {F : List D → Re D} (hD : Dn X.prog X.w X.K X.mg X.base k x ps (spP X.K X.mg F)) (hr : RoomG k X.A) (hg : Gl X x) (hx : Passes (L2.CX X.prog X.w) X E) (hK : c.K = X.K) (hM : c.mg = X.mg)
    (ha : PA X (e :: es) (tA c E fr)) (hdb : (x == ("__debug__" : Str)) = false := by decide) (he : starEach (e :: es) X.env = (false, eval e X.env) :: starEach es X.env := by rfl) (hpl : (backTo pos (starEach es X.env)).any (·.1) = false := by rfl) :
    PE X (.Call (.Name x p) (e :: es) [] pos) (tD c E (eCr F fr)) := by
  obtain ⟨f, fd, Fo, hm, hk, hb⟩ := hD.ex
  refine PE.imp (pe_callG Fo hr hg hm hk hb .nil hx ha hdb he hpl) fun σ H Q ⟨Hs, G, δ, S, q⟩ => ⟨Hs, G, δ, S, PoG.seq q fun ds δ1 Hs1 H1 s1 q1 vs S1 r1 => ?_⟩
  have := v_cr (F := F) S1 r1 q1
  show spP X.K X.mg F (vs ++ []) H1 Q E
  rw [List.append_nil, ← hK, ← hM]
  exact this
theorem de_crF {F : List D → Re (List D)} (hD : Dn X.prog X.w X.K X.mg X.base k x ps (spPF X.K X.mg F)) (hr : RoomG k X.A) (hg : Gl X x) (hx : Passes (L2.CX X.prog X.w) X E) (hK : c.K = X.K) (hM : c.mg = X.mg)
    (ha : PA X (e :: es) (tA c E fr)) (hdb : (x == ("__debug__" : Str)) = false := by decide) (he : starEach (e :: es) X.env = (false, eval e X.env) :: starEach es X.env := by rfl) (hpl : (backTo pos (starEach es X.env)).any (·.1) = false := by rfl) :
    PE X (.Call (.Name x p) (e :: es) [] pos) (tF c E (eCr F fr)) := by
  obtain ⟨f, fd, Fo, hm, hk, hb⟩ := hD.ex
  refine PE.imp (pe_callG Fo hr hg hm hk hb .nil hx ha hdb he hpl) fun σ H Q ⟨Hs, G, δ, S, q⟩ => ⟨Hs, G, δ, S, PoG.seq q fun ds δ1 Hs1 H1 s1 q1 vs S1 r1 => ?_⟩
  have := v_crF (F := F) S1 r1 q1
  show spPF X.K X.mg F (vs ++ []) H1 Q E
  rw [List.append_nil, ← hK, ← hM]
  exact this
/-- a callee that may raise, where it does not -/
theorem passN {X : Cx} : Passes (L2.CX X.prog X.w) X L2.E0 := L2.passL
theorem de_cr0 {F : List D → Re D} (hD : Dn X.prog X.w X.K X.mg X.base k x ps (spP X.K X.mg F)) (hr : RoomG k X.A) (hg : Gl X x) (hK : c.K = X.K) (hM : c.mg = X.mg)
    (ha : PA X (e :: es) (tA c E fr)) (hdb : (x == ("__debug__" : Str)) = false := by decide) (he : starEach (e :: es) X.env = (false, eval e X.env) :: starEach es X.env := by rfl) (hpl : (backTo pos (starEach es X.env)).any (·.1) = false := by rfl) :
    PE X (.Call (.Name x p) (e :: es) [] pos) (tD c E (eCr (noer F) fr)) := by
  obtain ⟨f, fd, Fo, hm, hk, hb⟩ := hD.ex
  refine PE.imp (pe_callG Fo hr hg hm hk hb .nil passN ha hdb he hpl) fun σ H Q ⟨Hs, G, δ, S, q⟩ => ⟨Hs, G, δ, S, PoG.seq q fun ds δ1 Hs1 H1 s1 q1 vs S1 r1 => ?_⟩
  have := v_cr (F := noer F) S1 r1 q1
  show spP X.K X.mg F (vs ++ []) H1 Q _
  rw [List.append_nil, ← hK, ← hM]
  exact spP_noer _ this
theorem de_cr0F {F : List D → Re (List D)} (hD : Dn X.prog X.w X.K X.mg X.base k x ps (spPF X.K X.mg F)) (hr : RoomG k X.A) (hg : Gl X x) (hK : c.K = X.K) (hM : c.mg = X.mg)
    (ha : PA X (e :: es) (tA c E fr)) (hdb : (x == ("__debug__" : Str)) = false := by decide) (he : starEach (e :: es) X.env = (false, eval e X.env) :: starEach es X.env := by rfl) (hpl : (backTo pos (starEach es X.env)).any (·.1) = false := by rfl) :
    PE X (.Call (.Name x p) (e :: es) [] pos) (tF c E (eCr (noer F) fr)) := by
  obtain ⟨f, fd, Fo, hm, hk, hb⟩ := hD.ex
  refine PE.imp (pe_callG Fo hr hg hm hk hb .nil passN ha hdb he hpl) fun σ H Q ⟨Hs, G, δ, S, q⟩ => ⟨Hs, G, δ, S, PoG.seq q fun ds δ1 Hs1 H1 s1 q1 vs S1 r1 => ?_⟩
  have := v_crF (F := noer F) S1 r1 q1
  show spPF X.K X.mg F (vs ++ []) H1 Q _
  rw [List.append_nil, ← hK, ← hM]
  exact spPF_noer _ this
/-! calls that change the list of a name -/
def eCm (i : Nat) (F : List D → List D → Re (D × List D)) (fr : En → Re (List D × En)) : En → Re (D × En) := fun δ => match δ[i]? with
  | some (.ow _) => (fr δ).bd fun p => match p.2[i]? with
    | some (.ow src) => (F src p.1).bd fun q => .ok (q.1, p.2.set i (.ow q.2))
    | _ => .bad
  | _ => .bad
/-- the frame behind such a call -/
theorem Sat.after {a : Addr} {i : Nat} {src ys : List D} {zs : List V} (S : Sat c Hs G H σ δ) (hi : δ[i]? = some (.ow src)) (ha : σ[i]? = some (some (.ref a))) (s : Same Hs Hs') (sh : Same Hs' H') (sm : ∀ b o, b ≠ a → H b = some o → H' b = some o) (nw : Nw H Hs Hs') (hs : Hs' a = none) (h' : H' a = some (.lst zs)) (r : RpAll c.K Hs' zs ys) :
    Sat c Hs' G H' σ (δ.set i (.ow ys)) := by
  have hlt : i < δ.length := (List.getElem?_eq_some_iff.mp hi).1
  have fa : Foot H σ[i]? (.ow src) a := by rw [ha]; rfl
  obtain ⟨w, u, hu⟩ := foot_own (S.sl i _ hi) fa
  have ne : ∀ (j : Nat) (t : Sl) (b : Addr), j ≠ i → δ[j]? = some t → Foot H σ[j]? t b → b ≠ a := fun j t b hji hj f => by
    rintro rfl
    exact S.sp j i t _ b hji hj hi f fa
  refine ⟨⟨S.bs.trans s, sh, fun b o e => sm b o (by rintro rfl; rw [w.2.1] at e; cases e) (S.gm b o e), fun b o e => ?_, fun b o e => ?_, fun b o o' e e' => ?_⟩, by simp [S.ln], fun j t hj => ?_, fun j l t t' b hne hj hl f1 f2 => ?_, fun j hj => ?_⟩
  · rcases nw b o e with z | z
    · exact S.nw b o z
    · exact .inr (Sat.fresh_in S.toFrm z)
  · by_cases hb : b = a
    · subst hb; exact ⟨_, h'⟩
    · obtain ⟨o', e'⟩ := S.hin b o e
      exact ⟨o', sm b o' hb e'⟩
  · rcases nw b o' e' with z | z
    · exact S.gs b o o' e z
    · rw [S.gm b o e] at z; cases z
  · by_cases hji : j = i
    · subst hji
      rw [List.getElem?_set_self hlt] at hj
      cases hj
      exact ⟨a, zs, ha, h', r, hs, w.2.1, w.2.2⟩
    · rw [List.getElem?_set_ne (Ne.symm hji)] at hj
      exact slok_keep (S.sl j t hj) s (fun b o f e => sm b o (ne j t b hji hj f) e) (fun b f => S.nw_own nw hj f) fun b f => (foot_own (S.sl j t hj) f).1.2.1
  · have back : ∀ (j : Nat) (t : Sl), j ≠ i → δ[j]? = some t → Foot H' σ[j]? t b → Foot H σ[j]? t b := fun j t hji hj f => foot_keep (S.sl j t hj) (fun b o f e => sm b o (ne j t b hji hj f) e) f
    by_cases hji : j = i
    · subst hji
      rw [List.getElem?_set_self hlt] at hj
      cases hj
      rw [List.getElem?_set_ne hne] at hl
      have g2 := back l t' (Ne.symm hne) hl f2
      rw [ha] at f1
      have e : b = a := f1
      subst e
      exact ne l t' b (Ne.symm hne) hl g2 rfl
    · rw [List.getElem?_set_ne (Ne.symm hji)] at hj
      have g1 := back j t hji hj f1
      by_cases hli : l = i
      · subst hli
        rw [List.getElem?_set_self hlt] at hl
        cases hl
        rw [ha] at f2
        have e : b = a := f2
        subst e
        exact ne j t b hji hj g1 rfl
      · rw [List.getElem?_set_ne (Ne.symm hli)] at hl
        exact S.sp j l t t' b hne hj hl g1 (back l t' hli hl f2)
  · by_cases hji : j = i
    · subst hji
      exact ⟨ys, List.getElem?_set_self hlt⟩
    · obtain ⟨es, e⟩ := S.mo j hj
      exact ⟨es, by rw [List.getElem?_set_ne (Ne.symm hji)]; exact e⟩
theorem Frm.after {a : Addr} {i : Nat} {src : List D} (S : Sat c Hs G H σ δ) (hi : δ[i]? = some (.ow src)) (ha : σ[i]? = some (some (.ref a))) (s : Same Hs Hs') (sh : Same Hs' H') (sm : ∀ b o, b ≠ a → H b = some o → H' b = some o) (nw : Nw H Hs Hs') (h' : ∃ o, H' a = some o) : Frm c Hs' G H' := by
  have fa : Foot H σ[i]? (.ow src) a := by rw [ha]; rfl
  obtain ⟨w, u, hu⟩ := foot_own (S.sl i _ hi) fa
  refine ⟨S.bs.trans s, sh, fun b o e => sm b o (by rintro rfl; rw [w.2.1] at e; cases e) (S.gm b o e), fun b o e => ?_, fun b o e => ?_, fun b o o' e e' => ?_⟩
  · rcases nw b o e with z | z
    · exact S.nw b o z
    · exact .inr (Sat.fresh_in S.toFrm z)
  · by_cases hb : b = a
    · subst hb; exact h'
    · obtain ⟨o', e'⟩ := S.hin b o e
      exact ⟨o', sm b o' hb e'⟩
  · rcases nw b o' e' with z | z
    · exact S.gs b o o' e z
    · rw [S.gm b o e] at z; cases z
theorem v_cm {i : Nat} {F : List D → List D → Re (D × List D)} {dV : TE} {Q : VK} (h : tD c E (eCm i F fr) σ H Q) : tCall (spM c.K c.mg F) [] E (tCons (tVar i) (tA c E fr)) σ H Q := by
  obtain ⟨Hs, G, δ, S, q⟩ := h
  unfold eCm at q
  cases hi : δ[i]? with
  | none => rw [hi] at q; exact q.elim
  | some s => cases s with
    | ow ds0 =>
      rw [hi] at q
      simp only at q
      obtain ⟨a, xs, e1, h1, _, _⟩ := S.sl i _ hi
      refine ⟨.ref a, e1, Hs, G, δ, S, PoG.seq q fun es δ1 Hs1 H1 s1 q1 as S1 r1 => ?_⟩
      simp only at q1
      cases hi1 : δ1[i]? with
      | none => rw [hi1] at q1; exact q1.elim
      | some s => cases s with
        | ow src =>
          rw [hi1] at q1
          simp only at q1
          obtain ⟨a', ys, e2, h2, r2, w2⟩ := S1.sl i _ hi1
          rw [e1] at e2
          cases e2
          show spM c.K c.mg F ((V.ref a :: as) ++ []) H1 Q E
          rw [List.append_nil]
          refine ⟨Hs1, a, ys, src, as, es, rfl, S1.sh, w2.1, h2, r2, r1, ?_⟩
          cases hz : F src es with
          | bad => rw [hz] at q1; exact q1
          | er e => rw [hz] at q1; exact fun Hs' H' s sh sm nw he => q1 Hs' H' s (Frm.after S1 hi1 e1 s sh sm nw he)
          | ok z =>
            rw [hz] at q1
            obtain ⟨d, src'⟩ := z
            exact fun v zs Hs' H' s sh sm nw hs h' rz rv => q1 Hs' H' s v (S1.after hi1 e1 s sh sm nw hs h' rz) rv
        | _ => rw [hi1] at q1; exact q1.elim
    | _ => rw [hi] at q; exact q.elim
def noer2 {α β γ : Type} (F : α → β → Re γ) : α → β → Re γ := fun a b => match F a b with
  | .er _ => .bad
  | r => r
theorem spM_noer {K : PySem.W.Frag} {mg : Str → Option Value} {F : List D → List D → Re (D × List D)} {vs : List V} {H : Hp} {Q : VK} {E : XK} (E' : XK) (h : spM K mg (noer2 F) vs H Q E) : spM K mg F vs H Q E' := by
  obtain ⟨Hs, a, xs, src, ws, ds, e, s, h1, h2, r, r2, q⟩ := h
  refine ⟨Hs, a, xs, src, ws, ds, e, s, h1, h2, r, r2, ?_⟩
  unfold noer2 at q
  cases hz : F src ds with
  | bad => rw [hz] at q; exact q
  | er e => rw [hz] at q; exact q.elim
  | ok d => rw [hz] at q; exact q
variable {i : Nat} {y : Str} {yp : Pos}
theorem de_cm {F : List D → List D → Re (D × List D)} (hD : Dn X.prog X.w X.K X.mg X.base k x ps (spM X.K X.mg F)) (hr : RoomG k X.A) (hg : Gl X x) (hx : Passes (L2.CX X.prog X.w) X E) (hK : c.K = X.K) (hM : c.mg = X.mg) (ho : PE X (.Name y yp) (tVar i))
    (ha : PA X es (tA c E fr)) (hdb : (x == ("__debug__" : Str)) = false := by decide) (he : starEach (.Name y yp :: es) X.env = (false, eval (.Name y yp) X.env) :: starEach es X.env := by rfl) (hpl : (backTo pos (starEach es X.env)).any (·.1) = false := by rfl) :
    PE X (.Call (.Name x p) (.Name y yp :: es) [] pos) (tD c E (eCm i F fr)) := by
  obtain ⟨f, fd, Fo, hm, hk, hb⟩ := hD.ex
  refine PE.imp (pe_callG Fo hr hg hm hk hb .nil hx (pa_cons ho ha he) hdb he hpl) fun σ H Q h => ?_
  rw [← hK, ← hM]
  exact v_cm (dV := tVar 0) h
theorem de_cm0 {F : List D → List D → Re (D × List D)} (hD : Dn X.prog X.w X.K X.mg X.base k x ps (spM X.K X.mg F)) (hr : RoomG k X.A) (hg : Gl X x) (hK : c.K = X.K) (hM : c.mg = X.mg) (ho : PE X (.Name y yp) (tVar i))
    (ha : PA X es (tA c E fr)) (hdb : (x == ("__debug__" : Str)) = false := by decide) (he : starEach (.Name y yp :: es) X.env = (false, eval (.Name y yp) X.env) :: starEach es X.env := by rfl) (hpl : (backTo pos (starEach es X.env)).any (·.1) = false := by rfl) :
    PE X (.Call (.Name x p) (.Name y yp :: es) [] pos) (tD c E (eCm i (noer2 F) fr)) := by
  obtain ⟨f, fd, Fo, hm, hk, hb⟩ := hD.ex
  refine PE.imp (pe_callG Fo hr hg hm hk hb .nil passN (pa_cons ho ha he) hdb he hpl) fun σ H Q h => ?_
  have q := v_cm (dV := tVar 0) h
  have mono : ∀ {t : TA} {R R' : List V → Hp → Prop}, (∀ vs H, R vs H → R' vs H) → tCons (tVar i) (tA c E fr) σ H R → tCons (tVar i) (tA c E fr) σ H R' := fun {t R R'} w ⟨v, e, Hs, G, δ, S, q⟩ =>
    ⟨v, e, Hs, G, δ, S, q.imp fun a δ' Hs' H' z vs S' r => w _ _ (z vs S' r)⟩
  refine mono (t := tNil) (fun vs H1 z => ?_) q
  rw [← hK, ← hM]
  exact spM_noer _ z
end
end DL

/-! DL7: sorted over data -/
namespace DL
section
open PySem PySem.W PySem.Calls PyProof.Rows
variable {prog : Program} {w : World} {A : Around} {E : Value → Shared → Prop} {s : Shared}
/-- what stands in a tuple, gathered -/
theorem gather_tup {l : Addr} {o : Obj} {vs : List Value} {n : Nat} {Q : List Value → Shared → Prop} (ho : s.heap.get? l = some o) (hc : o.cls = .type "tuple") (hd : o.data = .seq vs.toArray n)
    (h : Q vs { s with heap := (s.heap.push (seqObj "list" #[] 0)).update s.heap.objs.size (Obj.mapSeq (· ++ vs.toArray)) }) (hL : vs.length ≤ sizeLine) : wpAny (model prog w) A (collect (.ref l)) Q E s := by
  have hp : ∀ t, (s.heap.push (seqObj "list" #[] 0)).get? s.heap.objs.size = some t ↔ t = seqObj "list" #[] 0 := fun t => by
    rw [Heap.get?_push_size _ rfl]; constructor <;> intro z <;> first | exact (Option.some.inj z).symm | rw [z]
  unfold collect
  apply wpAny_bind; apply wpAny_runValue; apply codeAny_builtin entry_proto_collect'
  show wpAny _ _ (do again (.builtin "list.__iadd__" ⟨[← newList [], .ref l], []⟩)) _ _ s
  refine wpAny_bind (m := newList []) (wpAny_newList ?_ (by simp)); apply wpAny_pure
  refine And.intro (Code.quiet_builtin _ (by decide +kernel)) ?_; apply codeAny_builtin entry_list_iadd'
  show wpAny _ _ (Builtin.List.listExtendWith (.ref s.heap.objs.size) (.ref l) (.ref s.heap.objs.size)) _ _ { s with heap := s.heap.push (seqObj "list" #[] 0) }
  have ho' : (s.heap.push (seqObj "list" #[] 0)).get? l = some o := Heap.get?_push_of_some _ ho
  have tt : (Value.type "tuple" == Value.type "tuple") = true := rfl
  unfold Builtin.List.listExtendWith
  refine wpAny_bind (wpAny_typeOf (T := "tuple") ⟨o, ho', hc⟩ ?_)
  rw [if_pos (by simp)]
  apply wpAny_bind; apply listItems_at ho' hd
  apply wpAny_bind; apply listItems_at (xs := #[]) (n := 0) ((hp _).mpr rfl) rfl
  rw [if_neg (by simp)]
  refine wpAny_bind (listUpdate_at (xs := #[]) (n := 0) (f := (· ++ vs.toArray)) ((hp _).mpr rfl) rfl ?_ (Nat.zero_le _) (by rw [Array.empty_append, List.size_toArray]; omega))
  apply wpAny_pure
  show wpAny (model prog w) A (load s.heap.objs.size >>= fun o => match o.data with | .seq xs _ => pure xs.toList | _ => unsupported "internal:collect") Q E _
  apply wpAny_bind; apply wpAny_load (get?_update_seq ((hp _).mpr rfl) _)
  show wpAny _ _ (pure ((#[] : Array Value) ++ vs.toArray).toList) Q E _
  rw [show ((#[] : Array Value) ++ vs.toArray).toList = vs by simp]
  exact wpAny_pure h
theorem sorted_tupD {β : Type} {bs : List β} {enc : β → PyData} {R : Value → β → Prop} {l : Addr} {o : Obj} {n : Nat} {vs : List Value} {Q : Value → Shared → Prop} (ho : s.heap.get? l = some o) (hc : o.cls = .type "tuple") (hd : o.data = .seq vs.toArray n) (e : EachIs R vs bs)
    (er : EachIs (fun v b => ∃ as, Reads s.heap v (enc b) as) vs bs) (hal : AllAlike (bs.map enc)) (hk : Sortable (bs.map enc)) (hL : bs.length ≤ sizeLine) (hu : ∀ b, b ∈ bs → A.units + 2 + (enc b).depth < cLine)
    (h : ∀ out, out.length = bs.length → EachIs R out (bs.mergeSort (dataLe false enc)) → Q (.ref (s.heap.objs.size + 1)) { s with heap := sortedAll s.heap vs (List.toArray out) }) :
    wpAny (model prog w) A (call (.builtin "sorted") [.ref l]) Q E s := by
  have hL' : vs.length ≤ sizeLine := by rw [e.length]; exact hL
  have keep : ∀ b u, s.heap.get? b = some u → (sortingHeap (copyHeap s.heap vs) (s.heap.objs.size + 1) vs).get? b = some u := fun _ _ q => sorting_copy_old q
  have er2 : EachIs (fun v b => ∃ as, Reads (sortingHeap (copyHeap s.heap vs) (s.heap.objs.size + 1) vs) v (enc b) as) vs bs := er.mono fun _ _ ⟨as, r⟩ => ⟨as, PyProof.Rows.Reads.keeps keep r⟩
  have S := SortsAt.data (prog := prog) (w := w) (A := A.in1.in1) (s := { s with heap := sortingHeap (copyHeap s.heap vs) (s.heap.objs.size + 1) vs }) (each_map (R := fun v d => ∃ as, Reads (sortingHeap (copyHeap s.heap vs) (s.heap.objs.size + 1) vs) v d as) enc er2) hal hk (bound_map hu)
  have fin := h _ (by rw [sortVals_length false rfl]; exact e.length) (sortVals_data false e er2 hal)
  have sz : ((s.heap.push (seqObj "list" #[] 0)).update s.heap.objs.size (Obj.mapSeq (· ++ vs.toArray))).objs.size = s.heap.objs.size + 1 := by rw [Heap.size_update, size_push']
  apply call_function_entry_kw kind_sorted plain_sorted entry_sorted (args_sorted1 _)
  unfold Builtin.«sorted»
  refine wpAny_bind (m := checkCount "sorted" 1 1 _) (wpAny_pure ?_); apply wpAny_bind
  apply gather_tup ho hc hd (hL := hL')
  refine wpAny_bind (m := newList _) (wpAny_newList ?_ hL')
  show wpAny _ _ _ _ _ { s with heap := copyHeap s.heap vs }
  rw [sz]
  apply wpAny_bind; apply wpAny_holding
  refine wpAny_call_entry_kw (T := "list") slot_list_sort ⟨_, copyHeap_at s.heap vs, rfl⟩ entry_list_sort ?b1 (args_list_sort _)
  case b1 =>
    refine list_sort_vals (A := A.in1.in1) (s := { s with heap := copyHeap s.heap vs }) (copyHeap_at s.heap vs) S hL' ?_
    exact ⟨_, rfl, wpAny_pure ⟨_, rfl, fin⟩⟩
end
open PySem L2
def alk (ds : List D) : Bool := ds.all fun d => ds.all fun e => PySem.W.alike d e
def srtb (ds : List D) : Bool := (ds.all fun d => match d with | .tuple (_ :: _) => true | _ => false) || (ds.all fun d => match d with | .none => false | .tuple _ => false | _ => true)
def srtOk (ds : List D) : Bool := alk ds && srtb ds && decide (ds.length ≤ 1000000) && ds.all fun d => decide (d.depth ≤ 64)
def srt (ds : List D) : List D := ds.mergeSort (PySem.W.dataLe false id)
def gSort : List D → Option (List D)
  | [.list ds] => if srtOk ds then some (srt ds) else none
  | [.tuple ds] => if srtOk ds then some (srt ds) else none
  | _ => none
theorem srtOk_spec {ds : List D} (h : srtOk ds = true) : PySem.W.AllAlike (ds.map id) ∧ PySem.W.Sortable (ds.map id) ∧ ds.length ≤ 1000000 ∧ ∀ d ∈ ds, d.depth ≤ 64 := by
  unfold srtOk at h
  simp only [Bool.and_eq_true, decide_eq_true_eq, List.all_eq_true] at h
  obtain ⟨⟨⟨h1, h2⟩, h3⟩, h4⟩ := h
  rw [List.map_id]
  refine ⟨fun d hd d' hd' => ?_, ?_, h3, h4⟩
  · unfold alk at h1
    simp only [List.all_eq_true] at h1
    exact h1 d hd d' hd'
  · unfold srtb at h2
    rw [Bool.or_eq_true, List.all_eq_true, List.all_eq_true] at h2
    rcases h2 with h2 | h2
    · refine .inl fun d hd => ?_
      have q := h2 d hd
      split at q
      · exact ⟨_, _, rfl⟩
      · cases q
    · refine .inr fun d hd => ?_
      have q := h2 d hd
      refine ⟨fun z => ?_, fun xs z => ?_⟩
      · subst z; cases q
      · subst z; cases q
theorem gSort_inv {as r : List D} (h : gSort as = some r) : ∃ ds, (as = [.list ds] ∨ as = [.tuple ds]) ∧ srtOk ds = true ∧ r = srt ds := by
  unfold gSort at h
  split at h
  · split at h
    · rename_i e; cases h; exact ⟨_, .inl rfl, e, rfl⟩
    · cases h
  · split at h
    · rename_i e; cases h; exact ⟨_, .inr rfl, e, rfl⟩
    · cases h
  · cases h
section
variable {X : Cx} {c : DC}
/-- the values' order: each value with what it stands for -/
def rSortD (K : PySem.W.Frag) : List V → Hp → VK → Prop := fun vs H Q => ∃ (a : Addr) (xs : List V) (ds : List D), vs = [.ref a] ∧ (SqL K H a xs ∨ SqT K H a xs) ∧ RpAll K H xs ds ∧ srtOk ds = true ∧
  ∃ (R : V → D → Prop), (∀ (i : Nat) (x : V) (d : D), xs[i]? = some x → ds[i]? = some d → R x d) ∧ ∀ (ys : List V) (p : Addr), ys.length = ds.length → (∀ (i : Nat) (y : V) (d : D), ys[i]? = some y → (srt ds)[i]? = some d → R y d) → H p = none → Q (.ref p) (upd H p (.lst ys))
theorem each_of {R : Value → D → Prop} : ∀ {us : List Value} {ds : List D}, us.length = ds.length → (∀ (i : Nat) (u : Value) (d : D), us[i]? = some u → ds[i]? = some d → R u d) → PySem.W.EachIs R us ds
  | [], [], _, _ => .nil
  | [], _ :: _, h, _ => by simp at h
  | _ :: _, [], h, _ => by simp at h
  | u :: us, d :: ds, hl, h => .cons (h 0 u d rfl rfl) (each_of (by simpa using hl) fun i u d e1 e2 => h (i + 1) u d (by simpa using e1) (by simpa using e2))
theorem each_at {R : Value → D → Prop} : ∀ {us : List Value} {ds : List D}, PySem.W.EachIs R us ds → ∀ (i : Nat) (u : Value) (d : D), us[i]? = some u → ds[i]? = some d → R u d
  | _, _, .nil, i, u, d, e1, _ => by simp at e1
  | _, _, .cons h t, 0, u, d, e1, e2 => by
    simp at e1 e2; subst e1 e2; exact h
  | _, _, .cons h t, i + 1, u, d, e1, e2 => each_at t i u d (by simpa using e1) (by simpa using e2)
theorem vals_choose {R : V → D → Prop} : ∀ {us : List Value} {ds : List D}, PySem.W.EachIs (fun u d => ∃ v, RelV v u ∧ R v d) us ds → ∃ ys, Vals ys us ∧ ys.length = ds.length ∧ ∀ (i : Nat) (y : V) (d : D), ys[i]? = some y → ds[i]? = some d → R y d
  | _, _, .nil => ⟨[], .nil, rfl, fun i y d e _ => by simp at e⟩
  | _, _, .cons ⟨v, h1, h2⟩ t => by
    obtain ⟨ys, q1, q2, q3⟩ := vals_choose t
    refine ⟨v :: ys, .cons h1 q1, by simp [q2], fun i y d e1 e2 => ?_⟩
    cases i with
    | zero => simp at e1 e2; subst e1 e2; exact h2
    | succ i => exact q3 i y d (by simpa using e1) (by simpa using e2)
theorem srt_len (ds : List D) : (srt ds).length = ds.length := List.length_mergeSort ds
theorem cr_sortD (hu : X.A.units + 66 < cLine) : CallR X (.builtin "sorted") (rSortD X.K) := by
  intro pins s σ H vs us Q I rv h
  obtain ⟨a, xs, ds, rfl, hq, ra, ok, R, hR, q⟩ := h
  obtain ⟨o1, o2, o3, o4⟩ := srtOk_spec ok
  obtain ⟨u, rfl, ru⟩ := rv.one
  cases ru
  have bound : ∀ b, b ∈ ds → X.A.units + 2 + (id b : D).depth < cLine := fun b hb => by
    have := o4 b hb
    show X.A.units + 2 + b.depth < cLine
    omega
  have fin : ∀ (its : List Value), ∀ out : List Value, out.length = ds.length → PySem.W.EachIs (fun u d => ∃ v, RelV v u ∧ R v d) out (ds.mergeSort (PySem.W.dataLe false id)) →
      EP X pins σ Q (.ref (s.heap.objs.size + 1)) { s with heap := PyProof.Rows.sortedAll s.heap its (List.toArray out) } := fun its out hlen he => by
    obtain ⟨ys, y1, y2, y3⟩ := vals_choose he
    obtain ⟨ep, hat⟩ := PyProof.Rows.sortedAll_at s.heap its out.toArray
    have y2' : ys.length = ds.length := y2.trans (srt_len ds)
    refine ⟨.ref _, upd H (s.heap.objs.size + 1) (.lst ys), I.laid (t' := s.toks) (fun b u e => PyProof.Rows.sortedAll_old e) (Nat.le_succ _) ?_, rfl, q ys _ y2' (fun i y d e1 e2 => y3 i y d e1 e2) (I.hok.fresh (Nat.le_succ _))⟩
    exact ⟨by rw [y2']; exact million o3, out, ep, y1, hat⟩
  have hlx : xs.length = ds.length := dpa_len ra
  have each : ∀ its : List Value, Vals xs its → PySem.W.EachIs (fun u d => ∃ v, RelV v u ∧ R v d) its ds ∧ PySem.W.EachIs (fun u d => ∃ as, Reads s.heap u (id d) as) its ds := fun its hv => by
    constructor
    · refine each_of (by rw [← hv.length, hlx]) fun i u d e1 e2 => ?_
      have hi : i < xs.length := by
        have := (List.getElem?_eq_some_iff.mp e2).1
        omega
      obtain ⟨u', hu', ru'⟩ := hv.get (List.getElem?_eq_getElem hi)
      rw [e1] at hu'
      cases hu'
      exact ⟨xs[i], ru', hR i _ d (List.getElem?_eq_getElem hi) e2⟩
    · refine each_of (by rw [← hv.length, hlx]) fun i u d e1 e2 => ?_
      obtain ⟨v, hvx, rd⟩ := dpa_get ra e2
      obtain ⟨u', hu', ru'⟩ := hv.get hvx
      rw [e1] at hu'
      cases hu'
      exact Dp.reads I d v u rd.dp ru'
  rcases hq with hq | hq
  · obtain ⟨its, hv, ⟨ob, nn, ho, hc, hdn, hdt⟩, hz⟩ := I.list hq
    refine PySem.W.sorted_data (bs := ds) (enc := id) (R := fun u d => ∃ v, RelV v u ∧ R v d) ⟨ob, ho, hc, nn, hdt⟩ (each its hv).1 (each its hv).2 o1 o2 (million o3) bound fun out h1 h2 => ?_
    exact fin its out h1 h2
  · obtain ⟨its, hv, ⟨ob, ho, hc, nn, hdt⟩, hz⟩ := I.tuple hq
    refine sorted_tupD (bs := ds) (enc := id) (R := fun u d => ∃ v, RelV v u ∧ R v d) ho hc hdt (each its hv).1 (each its hv).2 o1 o2 (million o3) bound fun out h1 h2 => ?_
    exact fin its out h1 h2
theorem rpa_of {K : PySem.W.Frag} {H : Hp} : ∀ {ds : List D} {ys : List V}, ys.length = ds.length → (∀ (i : Nat) (y : V) (d : D), ys[i]? = some y → ds[i]? = some d → Rp K H y d) → RpAll K H ys ds
  | [], [], _, _ => .nil
  | [], _ :: _, h, _ => by simp at h
  | _ :: _, [], h, _ => by simp at h
  | d :: ds, y :: ys, hl, h => .cons (h 0 y d rfl rfl) (rpa_of (by simpa using hl) fun i y d e1 e2 => h (i + 1) y d (by simpa using e1) (by simpa using e2))
theorem vSort : VCallF c (rSortD c.K) gSort := fun Hs G H σ δ vs as d S r e Q q => by
  obtain ⟨ds, he, ok, rfl⟩ := gSort_inv e
  have fin : ∀ (a : Addr) (xs : List V), vs = [.ref a] → (SqL c.K H a xs ∨ SqT c.K H a xs) → RpAll c.K Hs xs ds → rSortD c.K vs H Q := fun a xs ev hq ra => by
    refine ⟨a, xs, ds, ev, hq, dpa_mono S.sh ra, ok, fun v d => Rp c.K Hs v d, fun i x d e1 e2 => ?_, fun ys p hl hy hp => ?_⟩
    · obtain ⟨x', h1, h2⟩ := dpa_get ra e2
      rw [e1] at h1
      cases h1
      exact h2
    · exact q p ys Hs _ (Same.refl _) (S.loose hp) (S.loose_of hp) upd_same (rpa_of (by rw [srt_len]; exact hl) hy)
  rcases he with rfl | rfl
  · obtain ⟨v, rfl, rv⟩ := rpa1 r
    cases rv with
    | @lst a xs _ h1 r1 => exact fin a xs rfl (.inl (same_l S.sh h1)) r1
  · obtain ⟨v, rfl, rv⟩ := rpa1 r
    cases rv with
    | @tup a xs _ h1 r1 => exact fin a xs rfl (.inr (same_t S.sh h1)) r1
end
end DL

/-! DL8: reading owned lists; the rules in short, as a program prints them -/
namespace DL
open PySem L2
section
variable {X : Cx} {c : DC} {E : XK} {e a b : Expr} {es : List Expr} {pos : Pos} {α : Type}

/-! ### from the general form to the form without effects -/
theorem uOp {g : D → D → Option D} {fa fb : En → Re D} (h : PE X e (tD c E (eOp g (Pu fa) (Pu fb)))) : PE X e (tD c E (Pu (pOp g fa fb))) := eOp_pu g fa fb ▸ h
theorem uOpF {g : D → D → Option (List D)} {fa fb : En → Re D} (h : PE X e (tF c E (eOp g (Pu fa) (Pu fb)))) : PE X e (tF c E (Pu (pOp g fa fb))) := eOp_pu g fa fb ▸ h
theorem uUn {g : D → Option D} {fa : En → Re D} (h : PE X e (tD c E (eUn g (Pu fa)))) : PE X e (tD c E (Pu (pUn g fa))) := eUn_pu g fa ▸ h
theorem uTe {f : En → Re D} (h : PT X e (tT c E (eTe (Pu f)))) : PT X e (tT c E (Pu (pTe f))) := eTe_pu f ▸ h
theorem uNot {f : En → Re Bool} (h : PT X e (tT c E (eNot (Pu f)))) : PT X e (tT c E (Pu (pNot f))) := eNot_pu f ▸ h
theorem uAnd {f g : En → Re Bool} (h : PW X e (tT c E (eAnd (Pu f) (Pu g)))) : PW X e (tT c E (Pu (pAnd f g))) := eAnd_pu f g ▸ h
theorem uOr {f g : En → Re Bool} (h : PW X e (tT c E (eOr (Pu f) (Pu g)))) : PW X e (tT c E (Pu (pOr f g))) := eOr_pu f g ▸ h
theorem uVl {f : En → Re D} (h : PE X e (tD c E (eBo (eTe (Pu f))))) : PE X e (tD c E (Pu (pBo (pTe f)))) := by rw [← eBo_pu, ← eTe_pu]; exact h
theorem uVn {f : En → Re D} (h : PE X e (tD c E (eBo (eNot (eTe (Pu f)))))) : PE X e (tD c E (Pu (pBo (pNot (pTe f))))) := by rw [← eBo_pu, ← eNot_pu, ← eTe_pu]; exact h
theorem uVa {f : En → Re D} {g : En → Re Bool} (h : PE X e (tD c E (eBo (eAnd (eTe (Pu f)) (Pu g))))) : PE X e (tD c E (Pu (pBo (pAnd (pTe f) g)))) := by rw [← eBo_pu, ← eAnd_pu, ← eTe_pu]; exact h
theorem uVo {f : En → Re D} {g : En → Re Bool} (h : PE X e (tD c E (eBo (eOr (eTe (Pu f)) (Pu g))))) : PE X e (tD c E (Pu (pBo (pOr (pTe f) g)))) := by rw [← eBo_pu, ← eOr_pu, ← eTe_pu]; exact h
/-- back: what a chain's tail is asked as -/
theorem bBo {f : En → Re Bool} (h : PE X e (tD c E (Pu (pBo f)))) : PE X e (tD c E (eBo (Pu f))) := by rw [eBo_pu]; exact h
theorem uIf {t : En → Re Bool} {fa fb : En → Re D} (h : PE X e (tD c E (eIf (Pu t) (Pu fa) (Pu fb)))) : PE X e (tD c E (Pu (pIf t fa fb))) := eIf_pu t fa fb ▸ h
theorem uCh {g g' : D → D → Option D} {fa fb fc : En → Re D} (h : PE X e (tD c E (eCh g g' (Pu fa) (Pu fb) (Pu fc)))) : PE X e (tD c E (Pu (pCh g g' fa fb fc))) := eCh_pu g g' fa fb fc ▸ h
theorem uTh {g g' : D → D → Option D} {fa fb fc : En → Re D} (h : PT X e (tT c E (eTe (eCh g g' (Pu fa) (Pu fb) (Pu fc))))) : PT X e (tT c E (Pu (pTe (pCh g g' fa fb fc)))) := by rw [← eTe_pu, ← eCh_pu]; exact h
theorem uTo {g : D → D → Option D} {fa fb : En → Re D} (h : PT X e (tT c E (eTe (eOp g (Pu fa) (Pu fb))))) : PT X e (tT c E (Pu (pTe (pOp g fa fb)))) := by rw [← eTe_pu, ← eOp_pu]; exact h
theorem uCons {fa : En → Re D} {fr : En → Re (List D)} (h : PA X es (tA c E (eCons (Pu fa) (Pu fr)))) : PA X es (tA c E (Pu (pCons fa fr))) := eCons_pu fa fr ▸ h
theorem uTup {fr : En → Re (List D)} (h : PE X e (tD c E (eTup (Pu fr)))) : PE X e (tD c E (Pu (pTup fr))) := eTup_pu fr ▸ h
theorem uLst {fr : En → Re (List D)} (h : PE X e (tF c E (eLst (Pu fr)))) : PE X e (tF c E (Pu (pLst fr))) := eLst_pu fr ▸ h
theorem uCa {g : List D → Option D} {fr : En → Re (List D)} (h : PE X e (tD c E (eCa g (Pu fr)))) : PE X e (tD c E (Pu (pCa g fr))) := eCa_pu g fr ▸ h
theorem uCaF {g : List D → Option (List D)} {fr : En → Re (List D)} (h : PE X e (tF c E (eCa g (Pu fr)))) : PE X e (tF c E (Pu (pCa g fr))) := eCa_pu g fr ▸ h
theorem uCr {F : List D → Re D} {fr : En → Re (List D)} (h : PE X e (tD c E (eCr F (Pu fr)))) : PE X e (tD c E (Pu (pCr F fr))) := eCr_pu F fr ▸ h
theorem uCrF {F : List D → Re (List D)} {fr : En → Re (List D)} (h : PE X e (tF c E (eCr F (Pu fr)))) : PE X e (tF c E (Pu (pCr F fr))) := eCr_pu F fr ▸ h
theorem uIsi {T : String} {fa : En → Re D} (h : PE X e (tD c E (eIsi T (Pu fa)))) : PE X e (tD c E (Pu (pIsi T fa))) := eIsi_pu T fa ▸ h
theorem uSo {o : Option Expr} {f : En → Re D} (h : PO X o (tO c E (eSoP (Pu f)))) : PO X o (tO c E (Pu (pSoP f))) := eSoP_pu f ▸ h
theorem uSl {g : D → Option Int → Option Int → Option D} {fa : En → Re D} {fl fh : En → Re (Option Int)} (h : PE X e (tD c E (eSl g (Pu fa) (Pu fl) (Pu fh)))) : PE X e (tD c E (Pu (pSl g fa fl fh))) := eSl_pu g fa fl fh ▸ h
theorem uSlF {g : D → Option Int → Option Int → Option (List D)} {fa : En → Re D} {fl fh : En → Re (Option Int)} (h : PE X e (tF c E (eSl g (Pu fa) (Pu fl) (Pu fh)))) : PE X e (tF c E (Pu (pSl g fa fl fh))) := eSl_pu g fa fl fh ▸ h
def pFz (f : En → Re (List D)) : En → Re D := fun δ => (f δ).bd fun ds => .ok (.list ds)
theorem uFz {f : En → Re (List D)} (h : PE X e (tF c E (Pu f))) : PE X e (tD c E (Pu (pFz f))) := by
  have := de_frz h
  rw [fz_pu] at this
  exact this
variable {tg : Expr}
theorem uLi {f : En → Re D} (h : PI X tg e (tI c E (eLi (Pu f)))) : PI X tg e (tI c E (Pu (pLi f))) := eLi_pu f ▸ h
theorem uTi {f : En → Re D} (h : PI X tg e (tI c E (eTi (Pu f)))) : PI X tg e (tI c E (Pu (pTi f))) := eTi_pu f ▸ h
theorem uSi {f : En → Re D} (h : PI X tg e (tI c E (eSi (Pu f)))) : PI X tg e (tI c E (Pu (pSi f))) := eSi_pu f ▸ h
theorem uCi {g : List D → Option (List D)} {fr : En → Re (List D)} (h : PI X tg e (tI c E (eCa g (Pu fr)))) : PI X tg e (tI c E (Pu (pCa g fr))) := eCa_pu g fr ▸ h
theorem uLc {fi : En → Re (List D)} {vs : List Nat} {g : D → En → Option En} {t : En → Re Bool} {f : En → Re D} (hg : GOk vs g) (h : PE X e (tF c E (eLc (Pu fi) vs g (Pu t) (Pu f)))) : PE X e (tF c E (Pu (pLc fi vs g t f))) := eLc_pu hg ▸ h
/-- a for's iterator made of a loose list -/
theorem di_fr {fr : En → Re (List D × En)} (hK : c.K = X.K) (h : PE X e (tF c E fr)) : PI X tg e (tI c E fr) := by
  have q := di_list (tg := tg) hK (de_frz h)
  have z : eLi (fz fr) = fr := by
    funext δ
    unfold eLi fz
    cases fr δ <;> rfl
  rw [z] at q
  exact q

/-! ### the rules in short -/
variable {fa fb fc : En → Re (D × En)} {fr : En → Re (List D × En)} {f g : En → Re (Bool × En)} {k : Nat}
theorem e_add (ha : PE X a (tD c E fa)) (hb : PE X b (tD c E fb)) (hK : c.K = X.K := by rfl) : PE X (.BinOp a .Add b pos) (tD c E (eOp gAdd fa fb)) := de_bin op_addA (hK ▸ vAdd) ha hb
theorem e_cat (ha : PE X a (tD c E fa)) (hb : PE X b (tD c E fb)) (hK : c.K = X.K := by rfl) : PE X (.BinOp a .Add b pos) (tF c E (eOp gCat fa fb)) := de_binF op_catS (hK ▸ vCat) ha hb
theorem e_sub (ha : PE X a (tD c E fa)) (hb : PE X b (tD c E fb)) : PE X (.BinOp a .Sub b pos) (tD c E (eOp gSub fa fb)) := de_bin op_sub vSub ha hb
theorem e_mul (ha : PE X a (tD c E fa)) (hb : PE X b (tD c E fb)) : PE X (.BinOp a .Mult b pos) (tD c E (eOp gMul fa fb)) := de_bin op_mulW vMul ha hb
theorem e_mod (ha : PE X a (tD c E fa)) (hb : PE X b (tD c E fb)) : PE X (.BinOp a .Mod b pos) (tD c E (eOp gMod fa fb)) := de_bin op_mod vMod ha hb
theorem e_div (ha : PE X a (tD c E fa)) (hb : PE X b (tD c E fb)) : PE X (.BinOp a .FloorDiv b pos) (tD c E (eOp gDiv fa fb)) := de_bin op_fdivW vDiv ha hb
theorem e_pow (ha : PE X a (tD c E fa)) (hb : PE X b (tD c E fb)) : PE X (.BinOp a .Pow b pos) (tD c E (eOp gPow fa fb)) := de_bin op_powW vPow ha hb
theorem e_ix (ha : PE X a (tD c E fa)) (hb : PE X b (tD c E fb)) (hK : c.K = X.K := by rfl) (hs : PlainIx b := by exact fun _ _ => rfl) : PE X (.Subscript a b pos) (tD c E (eOp gIx fa fb)) := de_ix ha hb hK hs
theorem room65 {A : Around} (hr : RoomG k A) : A.units + 66 < cLine := by have := hr.un; omega
theorem e_lt (hr : RoomG k X.A) (ha : PE X a (tD c E fa)) (hb : PE X b (tD c E fb)) (hK : c.K = X.K := by rfl) : PE X (.Compare a [.Lt] [b] pos) (tD c E (eOp gLt fa fb)) := de_cmp (op_ltA hr.units0) (hK ▸ vLt) ha hb (nobehind b (by decide) (by decide))
theorem e_le (ha : PE X a (tD c E fa)) (hb : PE X b (tD c E fb)) : PE X (.Compare a [.LtE] [b] pos) (tD c E (eOp gLe fa fb)) := de_cmp op_le vLe ha hb (nobehind b (by decide) (by decide))
theorem e_gt (ha : PE X a (tD c E fa)) (hb : PE X b (tD c E fb)) : PE X (.Compare a [.Gt] [b] pos) (tD c E (eOp gGt fa fb)) := de_cmp op_gt vGt ha hb (nobehind b (by decide) (by decide))
theorem e_ge (ha : PE X a (tD c E fa)) (hb : PE X b (tD c E fb)) : PE X (.Compare a [.GtE] [b] pos) (tD c E (eOp gGe fa fb)) := de_cmp op_ge vGe ha hb (nobehind b (by decide) (by decide))
theorem e_eq (hr : RoomG k X.A) (ha : PE X a (tD c E fa)) (hb : PE X b (tD c E fb)) (hK : c.K = X.K := by rfl) : PE X (.Compare a [.Eq] [b] pos) (tD c E (eOp gEq fa fb)) := de_cmp (op_eqA hr.units) (hK ▸ vEq) ha hb (nobehind b (by decide) (by decide))
theorem e_ne (hr : RoomG k X.A) (ha : PE X a (tD c E fa)) (hb : PE X b (tD c E fb)) (hK : c.K = X.K := by rfl) : PE X (.Compare a [.NotEq] [b] pos) (tD c E (eOp gNe fa fb)) := de_cmp (op_neA hr.units) (hK ▸ vNe) ha hb (nobehind b (by decide) (by decide))
theorem e_is (ha : PE X a (tD c E fa)) (hb : PE X b (tD c E fb)) : PE X (.Compare a [.Is] [b] pos) (tD c E (eOp gIs fa fb)) := de_cmp op_isA vIs ha hb (nobehind b (by decide) (by decide))
theorem e_isn (ha : PE X a (tD c E fa)) (hb : PE X b (tD c E fb)) : PE X (.Compare a [.IsNot] [b] pos) (tD c E (eOp gIsN fa fb)) := de_cmp op_isNA vIsN ha hb (nobehind b (by decide) (by decide))
theorem e_in (hr : RoomG k X.A) (ha : PE X a (tD c E fa)) (hb : PE X b (tD c E fb)) (hK : c.K = X.K := by rfl) (hm : behindInMarks .In b = false := by rfl) : PE X (.Compare a [.In] [b] pos) (tD c E (eOp gIn fa fb)) := de_cmp (op_inA (by have := room65 hr; omega)) (hK ▸ vIn) ha hb hm
theorem e_nin (hr : RoomG k X.A) (ha : PE X a (tD c E fa)) (hb : PE X b (tD c E fb)) (hK : c.K = X.K := by rfl) (hm : behindInMarks .NotIn b = false := by rfl) : PE X (.Compare a [.NotIn] [b] pos) (tD c E (eOp gNotIn fa fb)) := de_cmp (op_notInA (by have := room65 hr; omega)) (hK ▸ vNotIn) ha hb hm
theorem t_lt (hr : RoomG k X.A) (ha : PE X a (tD c E fa)) (hb : PE X b (tD c E fb)) (hK : c.K = X.K := by rfl) : PT X (.Compare a [.Lt] [b] pos) (tT c E (eTe (eOp gLt fa fb))) := de_tcmp (op_ltA hr.units0) (hK ▸ vLt) ha hb (nobehind b (by decide) (by decide))
theorem t_le (ha : PE X a (tD c E fa)) (hb : PE X b (tD c E fb)) : PT X (.Compare a [.LtE] [b] pos) (tT c E (eTe (eOp gLe fa fb))) := de_tcmp op_le vLe ha hb (nobehind b (by decide) (by decide))
theorem t_gt (ha : PE X a (tD c E fa)) (hb : PE X b (tD c E fb)) : PT X (.Compare a [.Gt] [b] pos) (tT c E (eTe (eOp gGt fa fb))) := de_tcmp op_gt vGt ha hb (nobehind b (by decide) (by decide))
theorem t_ge (ha : PE X a (tD c E fa)) (hb : PE X b (tD c E fb)) : PT X (.Compare a [.GtE] [b] pos) (tT c E (eTe (eOp gGe fa fb))) := de_tcmp op_ge vGe ha hb (nobehind b (by decide) (by decide))
theorem t_eq (hr : RoomG k X.A) (ha : PE X a (tD c E fa)) (hb : PE X b (tD c E fb)) (hK : c.K = X.K := by rfl) : PT X (.Compare a [.Eq] [b] pos) (tT c E (eTe (eOp gEq fa fb))) := de_tcmp (op_eqA hr.units) (hK ▸ vEq) ha hb (nobehind b (by decide) (by decide))
theorem t_ne (hr : RoomG k X.A) (ha : PE X a (tD c E fa)) (hb : PE X b (tD c E fb)) (hK : c.K = X.K := by rfl) : PT X (.Compare a [.NotEq] [b] pos) (tT c E (eTe (eOp gNe fa fb))) := de_tcmp (op_neA hr.units) (hK ▸ vNe) ha hb (nobehind b (by decide) (by decide))
theorem t_is (ha : PE X a (tD c E fa)) (hb : PE X b (tD c E fb)) : PT X (.Compare a [.Is] [b] pos) (tT c E (eTe (eOp gIs fa fb))) := de_tcmp op_isA vIs ha hb (nobehind b (by decide) (by decide))
theorem t_isn (ha : PE X a (tD c E fa)) (hb : PE X b (tD c E fb)) : PT X (.Compare a [.IsNot] [b] pos) (tT c E (eTe (eOp gIsN fa fb))) := de_tcmp op_isNA vIsN ha hb (nobehind b (by decide) (by decide))
theorem t_in (hr : RoomG k X.A) (ha : PE X a (tD c E fa)) (hb : PE X b (tD c E fb)) (hK : c.K = X.K := by rfl) (hm : behindInMarks .In b = false := by rfl) : PT X (.Compare a [.In] [b] pos) (tT c E (eTe (eOp gIn fa fb))) := de_tcmp (op_inA (by have := room65 hr; omega)) (hK ▸ vIn) ha hb hm
theorem t_nin (hr : RoomG k X.A) (ha : PE X a (tD c E fa)) (hb : PE X b (tD c E fb)) (hK : c.K = X.K := by rfl) (hm : behindInMarks .NotIn b = false := by rfl) : PT X (.Compare a [.NotIn] [b] pos) (tT c E (eTe (eOp gNotIn fa fb))) := de_tcmp (op_notInA (by have := room65 hr; omega)) (hK ▸ vNotIn) ha hb hm
/-- a <= b <= c -/
theorem e_lele {d : Expr} (ha : PE X a (tD c E fa)) (hb : PE X b (tD c E fb)) (hc : PE X d (tD c E fc)) (hm : lastMarks [.LtE, .LtE] [b, d] = false := by with_unfolding_all rfl) : PE X (.Compare a [.LtE, .LtE] [b, d] pos) (tD c E (eCh gLe gLe fa fb fc)) := de_chain op_le vLe op_le vLe ha hb hc hm
theorem t_lele {d : Expr} (ha : PE X a (tD c E fa)) (hb : PE X b (tD c E fb)) (hc : PE X d (tD c E fc)) (hm : lastMarks [.LtE, .LtE] [b, d] = false := by with_unfolding_all rfl) : PT X (.Compare a [.LtE, .LtE] [b, d] pos) (tT c E (eTe (eCh gLe gLe fa fb fc))) := de_tchain op_le vLe op_le vLe ha hb hc hm
theorem e_lelt (hr : RoomG k X.A) {d : Expr} (ha : PE X a (tD c E fa)) (hb : PE X b (tD c E fb)) (hc : PE X d (tD c E fc)) (hK : c.K = X.K := by rfl) (hm : lastMarks [.LtE, .Lt] [b, d] = false := by with_unfolding_all rfl) : PE X (.Compare a [.LtE, .Lt] [b, d] pos) (tD c E (eCh gLe gLt fa fb fc)) := de_chain op_le vLe (op_ltA hr.units0) (hK ▸ vLt) ha hb hc hm
theorem t_lelt (hr : RoomG k X.A) {d : Expr} (ha : PE X a (tD c E fa)) (hb : PE X b (tD c E fb)) (hc : PE X d (tD c E fc)) (hK : c.K = X.K := by rfl) (hm : lastMarks [.LtE, .Lt] [b, d] = false := by with_unfolding_all rfl) : PT X (.Compare a [.LtE, .Lt] [b, d] pos) (tT c E (eTe (eCh gLe gLt fa fb fc))) := de_tchain op_le vLe (op_ltA hr.units0) (hK ▸ vLt) ha hb hc hm
/-- the last of a chain of and, or -/
theorem e_vl {op : BoolOp} (h : PE X a (tD c E fa)) : PE X (.BoolOp op [a] pos) (tD c E (eBo (eTe fa))) := pe_one (de_vbo h)
/-! built-ins -/
variable {p : Pos}
theorem e_len (hm : X.mg "len" = none) (ha : PA X [e] (tA c E fr)) (hK : c.K = X.K := by rfl) (hg : Gl X "len" := by rfl) (he : starEach [e] X.env = (false, eval e X.env) :: starEach [] X.env := by rfl) : PE X (.Call (.Name "len" p) [e] [] pos) (tD c E (eCa gLen fr)) := de_callB call_len (hK ▸ vLen) hg hm PySem.boot_len ha (he := he)
theorem e_all (hm : X.mg "all" = none) (ha : PA X [e] (tA c E fr)) (hc : X.calm = true := by rfl) (hK : c.K = X.K := by rfl) (hg : Gl X "all" := by rfl) (he : starEach [e] X.env = (false, eval e X.env) :: starEach [] X.env := by rfl) : PE X (.Call (.Name "all" p) [e] [] pos) (tD c E (eCa gAll fr)) := de_callB (cr_all hc) (hK ▸ vAll) hg hm (by decide +kernel) ha (he := he)
theorem e_sum (hm : X.mg "sum" = none) (ha : PA X [e] (tA c E fr)) (hc : X.calm = true := by rfl) (hK : c.K = X.K := by rfl) (hg : Gl X "sum" := by rfl) (he : starEach [e] X.env = (false, eval e X.env) :: starEach [] X.env := by rfl) : PE X (.Call (.Name "sum" p) [e] [] pos) (tD c E (eCa gSum fr)) := de_callB (cr_sum hc) (hK ▸ vSum) hg hm (by decide +kernel) ha (he := he)
theorem e_abs (hm : X.mg "abs" = none) (ha : PA X [e] (tA c E fr)) (hg : Gl X "abs" := by rfl) (he : starEach [e] X.env = (false, eval e X.env) :: starEach [] X.env := by rfl) : PE X (.Call (.Name "abs" p) [e] [] pos) (tD c E (eCa gAbs fr)) := de_callB call_abs vAbs hg hm (by decide +kernel) ha (he := he)
theorem e_max (hm : X.mg "max" = none) (ha : PA X [a, b] (tA c E fr)) (hc : X.calm = true := by rfl) (hg : Gl X "max" := by rfl) (he : starEach [a, b] X.env = (false, eval a X.env) :: starEach [b] X.env := by rfl) (hpl : (backTo pos (starEach [b] X.env)).any (·.1) = false := by rfl) : PE X (.Call (.Name "max" p) [a, b] [] pos) (tD c E (eCa gMax fr)) := de_callB (call_max2 hc) vMax hg hm (by decide +kernel) ha (he := he) (hpl := hpl)
theorem e_min (hm : X.mg "min" = none) (ha : PA X [a, b] (tA c E fr)) (hc : X.calm = true := by rfl) (hg : Gl X "min" := by rfl) (he : starEach [a, b] X.env = (false, eval a X.env) :: starEach [b] X.env := by rfl) (hpl : (backTo pos (starEach [b] X.env)).any (·.1) = false := by rfl) : PE X (.Call (.Name "min" p) [a, b] [] pos) (tD c E (eCa gMin fr)) := de_callB (call_min2 hc) vMin hg hm (by decide +kernel) ha (he := he) (hpl := hpl)
theorem e_list (hm : X.mg "list" = none) (ha : PA X [e] (tA c E fr)) (hK : c.K = X.K := by rfl) (hg : Gl X "list" := by rfl) (he : starEach [e] X.env = (false, eval e X.env) :: starEach [] X.env := by rfl) : PE X (.Call (.Name "list" p) [e] [] pos) (tF c E (eCa gList fr)) := de_callTF call_list_of (hK ▸ vList) hg hm (by decide +kernel) ha (he := he)
theorem e_tuple (hm : X.mg "tuple" = none) (ha : PA X [e] (tA c E fr)) (hK : c.K = X.K := by rfl) (hg : Gl X "tuple" := by rfl) (he : starEach [e] X.env = (false, eval e X.env) :: starEach [] X.env := by rfl) : PE X (.Call (.Name "tuple" p) [e] [] pos) (tD c E (eCa gTuple fr)) := de_callT call_tuple_of (hK ▸ vTuple) hg hm (by decide +kernel) ha (he := he)
theorem e_sorted (hr : RoomG k X.A) (hm : X.mg "sorted" = none) (ha : PA X [e] (tA c E fr)) (hK : c.K = X.K := by rfl) (hg : Gl X "sorted" := by rfl) (he : starEach [e] X.env = (false, eval e X.env) :: starEach [] X.env := by rfl) : PE X (.Call (.Name "sorted" p) [e] [] pos) (tF c E (eCa gSort fr)) := de_callBF (cr_sortD (room65 hr)) (hK ▸ vSort) hg hm (by decide +kernel) ha (he := he)
/-- a module's constant -/
theorem e_glob {x : Str} {v : V} {d : D} {u : Value} (hg : Gl X x) (hm : X.mg x = some u) (r : RelV v u) (rd : ∀ Hs, Rp c.K Hs v d) (hd : (x == ("__debug__" : Str)) = false := by decide) : PE X (.Name x pos) (tD c E (Pu (pK d))) := dp_c (pe_glob hg hm r hd) rd
/-- list(range(..)) -/
theorem rgV_rp {K : PySem.W.Frag} {H : Hp} (i j : Int) : RpAll K H (rgV i j) (rgD i j) := by
  unfold rgV rgD
  generalize List.range (j - i).toNat = l
  induction l with
  | nil => exact .nil
  | cons x l ih => exact .cons (.int _) ih
def gLr1 : List D → Option (List D)
  | [.int j] => if 0 ≤ j ∧ j ≤ 16777216 then some (rgD 0 j) else none
  | _ => none
def gLr2 : List D → Option (List D)
  | [.int i, .int j] => if (0 ≤ i ∧ i ≤ 16777216) ∧ (0 ≤ j ∧ j ≤ 16777216) then some (rgD i j) else none
  | _ => none
theorem e_lrg1 {p2 p3 : Pos} (hm : X.mg "list" = none) (hm2 : X.mg "range" = none) (ha : PE X e (tD c E fa)) (hc : X.calm = true := by rfl) (hg : Gl X "list" := by rfl) (hg2 : Gl X "range" := by rfl) (na : starEach [e] X.env = (false, eval e X.env) :: starEach [] X.env := by rfl)
    (na2 : starEach [.Call (.Name "range" p2) [e] [] p3] X.env = (false, eval (.Call (.Name "range" p2) [e] [] p3) X.env) :: starEach [] X.env := by rfl) : PE X (.Call (.Name "list" p) [.Call (.Name "range" p2) [e] [] p3] [] pos) (tF c E (eCa gLr1 (eCons fa eNil))) :=
  PE.imp (pe_listRg hc hg hm (prg_1 hg2 hm2 ha na) na2) fun σ H Q ⟨Hs, G, δ, S, q⟩ => by
    have q' : PoG c E Hs G (fun ds δ' Hs' H' => ∀ p xs, Sat c Hs' G H' σ δ' → Loose c Hs' G H' σ δ' p → H' p = some (.lst xs) → RpAll c.K Hs' xs ds → Q (.ref p) H') ((fa δ).bd fun p => (opt (gLr1 [p.1])).bd fun d => .ok (d, p.2)) := by
      unfold eCa eCons eNil at q
      cases hz : fa δ with
      | bad => rw [hz] at q; exact q
      | er e => rw [hz] at q; exact q
      | ok p => rw [hz] at q; exact q
    refine ⟨Hs, G, δ, S, PoG.seq q' fun d δ1 Hs1 H1 s1 q1 v S1 r1 => ?_⟩
    obtain ⟨ds, hd, q2⟩ := PoG.last (k := fun d => (d, δ1)) q1
    cases r1 with
    | int j =>
      simp only [gLr1] at hd
      split at hd
      · rename_i hj
        cases hd
        exact ⟨j, rfl, RgOk.of_le (by omega) hj.2 (by omega) hj.1, fun l hl => q2 Hs1 _ (Same.refl _) l _ (S1.loose hl) (S1.loose_of hl) upd_same (rgV_rp 0 j)⟩
      · cases hd
    | _ => cases hd

/-! ### owned lists, read -/
def pIxB (i : Nat) (fi : En → Re D) : En → Re D := fun δ => match δ[i]? with
  | some (.ow ds) => (fi δ).bd fun q => match q with
    | .int k => opt (atI ds k)
    | _ => .bad
  | _ => .bad
theorem e_ixB {i : Nat} {x : Str} {xp : Pos} {fi : En → Re D} (hx : PE X (.Name x xp) (tVar i)) (hb : PE X b (tD c E (Pu fi))) (hK : c.K = X.K := by rfl) (hs : PlainIx b := by exact fun _ _ => rfl) : PE X (.Subscript (.Name x xp) b pos) (tD c E (Pu (pIxB i fi))) :=
  PE.imp (pe_ix ix_list hx hb hs) fun σ H Q ⟨Hs, G, δ, S, q⟩ => by
    unfold Pu pIxB at q
    cases hi : δ[i]? with
    | none => rw [hi] at q; exact q.elim
    | some s => cases s with
      | ow ds =>
        rw [hi] at q
        simp only at q
        obtain ⟨l, xs, e1, h1, r1, w1⟩ := S.sl i _ hi
        refine ⟨.ref l, e1, Hs, G, δ, S, ?_⟩
        unfold Pu
        cases hz : fi δ with
        | bad => rw [hz] at q; exact q
        | er e => rw [hz] at q; exact q
        | ok d =>
          rw [hz] at q
          simp only [Re.bd_ok] at q
          refine PoG.of_ok fun Hs1 H1 s1 v S1 rv => ?_
          cases rv with
          | int k =>
            simp only at q
            cases ha : atI ds k with
            | none => rw [ha] at q; exact q.elim
            | some d =>
              rw [ha] at q
              obtain ⟨l', ys, e2, h2, r2, _⟩ := S1.sl i _ hi
              rw [e1] at e2
              cases e2
              obtain ⟨v, hv, rv⟩ := rpa_atI r2 ha
              exact ⟨l, ys, k, v, rfl, rfl, SqL.of h2, hv, q Hs1 H1 s1 v S1 rv⟩
          | _ => exact False.elim q
      | _ => rw [hi] at q; exact q.elim
def pLenB (i : Nat) : En → Re D := fun δ => match δ[i]? with
  | some (.ow ds) => .ok (.int ds.length)
  | _ => .bad
theorem e_lenB {i : Nat} {x : Str} {xp : Pos} (hm : X.mg "len" = none) (hx : PE X (.Name x xp) (tVar i)) (hg : Gl X "len" := by rfl) (he : starEach [.Name x xp] X.env = (false, eval (.Name x xp) X.env) :: starEach [] X.env := by rfl) : PE X (.Call (.Name "len" p) [.Name x xp] [] pos) (tD c E (Pu (pLenB i))) :=
  PE.imp (pe_callB call_len_seq hg hm PySem.boot_len (pa_cons hx pa_nil he) (he := he)) fun σ H Q ⟨Hs, G, δ, S, q⟩ => by
    unfold Pu pLenB at q
    cases hi : δ[i]? with
    | none => rw [hi] at q; exact q.elim
    | some s => cases s with
      | ow ds =>
        rw [hi] at q
        obtain ⟨l, xs, e1, h1, r1, w1⟩ := S.sl i _ hi
        exact ⟨.ref l, e1, l, xs, rfl, .inl (SqL.of h1), by rw [dpa_len r1]; exact q Hs H (Same.refl _) _ S (.int _)⟩
      | _ => rw [hi] at q; exact q.elim
/-- x in y, y an owned list -/
def eInB (neg : Bool) (fa : En → Re (D × En)) (i : Nat) : En → Re (D × En) := fun δ => (fa δ).bd fun p => match p.2[i]? with
  | some (.ow ds) => (opt (inD p.1 (.list ds))).bd fun b => .ok (.bool (if neg then !b else b), p.2)
  | _ => .bad
def pInB (neg : Bool) (fa : En → Re D) (i : Nat) : En → Re D := fun δ => (fa δ).bd fun p => match δ[i]? with
  | some (.ow ds) => (opt (inD p (.list ds))).bd fun b => .ok (.bool (if neg then !b else b))
  | _ => .bad
theorem eInB_pu (neg : Bool) (fa : En → Re D) (i : Nat) : eInB neg (Pu fa) i = Pu (pInB neg fa i) := by
  funext δ
  unfold eInB Pu pInB
  cases fa δ with
  | ok x =>
    simp only [Re.bd_ok]
    cases δ[i]? with
    | none => rfl
    | some s => cases s with
      | ow ds =>
        simp only
        cases inD x (.list ds) <;> rfl
      | _ => rfl
  | _ => rfl
theorem v_inB {neg : Bool} {i : Nat} {r : R2} {σ : St} {H : Hp} {Q : VK} (hr : ∀ (x y : V) (H : Hp) (d : D) (ds : List D) (b : Bool), Dp c.K H x d → Dp c.K H y (.list ds) → inD d (.list ds) = some b → ∀ Q : VK, Q (.bl (if neg then !b else b)) H → r x y H Q) (h : tD c E (eInB neg fa i) σ H Q) : tOp r (tD c E fa) (tVar i) σ H Q := by
  obtain ⟨Hs, G, δ, S, q⟩ := h
  refine ⟨Hs, G, δ, S, PoG.seq q fun d δ1 Hs1 H1 s1 q1 v S1 r1 => ?_⟩
  simp only at q1
  cases hi : δ1[i]? with
  | none => rw [hi] at q1; exact q1.elim
  | some s => cases s with
    | ow ds =>
      rw [hi] at q1
      simp only at q1
      obtain ⟨l, xs, e1, h1, r2, w1⟩ := S1.sl i _ hi
      refine ⟨.ref l, e1, ?_⟩
      cases hb : inD d (.list ds) with
      | none => rw [hb] at q1; exact q1.elim
      | some b =>
        rw [hb] at q1
        exact hr v (.ref l) H1 d ds b (dp_mono S1.sh r1).dp (.lst (SqL.of h1) (dpa_mono S1.sh r2).dpa) hb Q (q1 Hs1 H1 (Same.refl _) _ S1 (.bl _))
    | _ => rw [hi] at q1; exact q1.elim
theorem inB_t {K : PySem.W.Frag} : ∀ (x y : V) (H : Hp) (d : D) (ds : List D) (b : Bool), Dp K H x d → Dp K H y (.list ds) → inD d (.list ds) = some b → ∀ Q : VK, Q (.bl (if false then !b else b)) H → rInD K x y H Q := fun x y H d ds b h1 h2 h3 Q q => by
  simp only [inD] at h3
  split at h3
  · rename_i z
    cases h3
    rw [Bool.and_eq_true] at z
    exact ⟨d, ds, h1, h2, z.1, z.2, q⟩
  · cases h3
theorem inB_f {K : PySem.W.Frag} : ∀ (x y : V) (H : Hp) (d : D) (ds : List D) (b : Bool), Dp K H x d → Dp K H y (.list ds) → inD d (.list ds) = some b → ∀ Q : VK, Q (.bl (if true then !b else b)) H → rNotInD K x y H Q := fun x y H d ds b h1 h2 h3 Q q => by
  simp only [inD] at h3
  split at h3
  · rename_i z
    cases h3
    rw [Bool.and_eq_true] at z
    exact ⟨d, ds, h1, h2, z.1, z.2, q⟩
  · cases h3
variable {i : Nat} {x : Str} {xp : Pos}
theorem e_inB (hr : RoomG k X.A) (ha : PE X a (tD c E fa)) (hx : PE X (.Name x xp) (tVar i)) (hK : c.K = X.K := by rfl) (hm : behindInMarks .In (.Name x xp) = false := by rfl) : PE X (.Compare a [.In] [.Name x xp] pos) (tD c E (eInB false fa i)) := PE.imp (pe_cmpR (op_inD (by have := room65 hr; omega)) ha hx hm) fun σ H Q h => by rw [← hK]; exact v_inB inB_t h
theorem e_ninB (hr : RoomG k X.A) (ha : PE X a (tD c E fa)) (hx : PE X (.Name x xp) (tVar i)) (hK : c.K = X.K := by rfl) (hm : behindInMarks .NotIn (.Name x xp) = false := by rfl) : PE X (.Compare a [.NotIn] [.Name x xp] pos) (tD c E (eInB true fa i)) := PE.imp (pe_cmpR (op_notInD (by have := room65 hr; omega)) ha hx hm) fun σ H Q h => by rw [← hK]; exact v_inB inB_f h
theorem t_inB (hr : RoomG k X.A) (ha : PE X a (tD c E fa)) (hx : PE X (.Name x xp) (tVar i)) (hK : c.K = X.K := by rfl) (hm : behindInMarks .In (.Name x xp) = false := by rfl) : PT X (.Compare a [.In] [.Name x xp] pos) (tT c E (eTe (eInB false fa i))) := PT.imp (pt_cmpR (op_inD (by have := room65 hr; omega)) ha hx hm) fun σ H Q h => by
  have q := v_te h
  rw [← hK]
  exact v_inB (Q := fun x H' => ∃ k, x = .bl k ∧ Q k H') inB_t q
theorem t_ninB (hr : RoomG k X.A) (ha : PE X a (tD c E fa)) (hx : PE X (.Name x xp) (tVar i)) (hK : c.K = X.K := by rfl) (hm : behindInMarks .NotIn (.Name x xp) = false := by rfl) : PT X (.Compare a [.NotIn] [.Name x xp] pos) (tT c E (eTe (eInB true fa i))) := PT.imp (pt_cmpR (op_notInD (by have := room65 hr; omega)) ha hx hm) fun σ H Q h => by
  have q := v_te h
  rw [← hK]
  exact v_inB (Q := fun x H' => ∃ k, x = .bl k ∧ Q k H') inB_f q
theorem uInB {neg : Bool} {fa : En → Re D} {i : Nat} (h : PE X e (tD c E (eInB neg (Pu fa) i))) : PE X e (tD c E (Pu (pInB neg fa i))) := eInB_pu neg fa i ▸ h
theorem uTInB {neg : Bool} {fa : En → Re D} {i : Nat} (h : PT X e (tT c E (eTe (eInB neg (Pu fa) i)))) : PT X e (tT c E (Pu (pTe (pInB neg fa i)))) := by rw [← eTe_pu, ← eInB_pu]; exact h
/-- xs.extend([..]): the argument a new list -/
def eExt (i : Nat) (fr : En → Re (List D × En)) : En → Re (D × En) := fun δ => match δ[i]? with
  | some (.ow _) => (fr δ).bd fun p => match p.2[i]? with
    | some (.ow ds) => if ds.length + p.1.length ≤ 1000000 then .ok (.none, p.2.set i (.ow (ds ++ p.1))) else .bad
    | _ => .bad
  | _ => .bad
theorem e_ext {apos cpos : Pos} (ho : PE X (.Name x xp) (tVar i)) (ha : PE X e (tF c E fr))
    (hbase : attributeBase (.Name x xp) "extend" X.env (eval (.Name x xp) X.env) = eval (.Name x xp) X.env := by rfl)
    (hfew : ((backTo cpos (starEach [e] X.env)).all (fun x => !x.1) && (backToKw cpos (keywordEach [] X.env)).all (fun x => x.1.isSome)
      && decide ([e].length + ([] : List Keyword).length + (if ([] : List Keyword).isEmpty then 0 else 1) < 30)) = true := by rfl)
    (hline : (apos.endLine == cpos.line) = true := by rfl) (hs : starEach [e] X.env = (false, eval e X.env) :: starEach [] X.env := by rfl) (hplain : (backTo cpos (starEach [] X.env)).any (·.1) = false := by rfl) :
    PE X (.Call (.Attribute (.Name x xp) "extend" apos) [e] [] cpos) (tD c E (eExt i fr)) :=
  PE.imp (pe_bm PySem.F.plainAttrs_list PySem.F.slot_list_extend PySem.F.type_list_extend mt_extend ho (pa_cons ha pa_nil hs) hbase hfew hline hs hplain) fun σ H Q ⟨Hs, G, δ, S, q⟩ => by
    unfold eExt at q
    cases hi : δ[i]? with
    | none => rw [hi] at q; exact q.elim
    | some s => cases s with
      | ow ds0 =>
        rw [hi] at q
        simp only at q
        obtain ⟨l, xs, e1, h1, _, _⟩ := S.sl i _ hi
        refine ⟨.ref l, e1, .inl ⟨rfl, xs, SqL.of h1⟩, Hs, G, δ, S, PoG.seq q fun es δ1 Hs1 H1 s1 q1 z zs S1 L hz rz => ?_⟩
        simp only at q1
        cases hi1 : δ1[i]? with
        | none => rw [hi1] at q1; exact q1.elim
        | some s => cases s with
          | ow ds =>
            rw [hi1] at q1
            simp only at q1
            split at q1
            · rename_i hl
              obtain ⟨l', ys, e2, h2, r2, w2⟩ := S1.sl i _ hi1
              rw [e1] at e2
              cases e2
              exact ⟨l, z, ys, zs, rfl, rfl, h2, hz, by rw [dpa_len r2, dpa_len rz]; exact million hl, q1 Hs1 _ (Same.refl _) _ (S1.writeOw hi1 e1 (dpa_append r2 rz)) .non⟩
            · exact q1.elim
          | _ => rw [hi1] at q1; exact q1.elim
      | _ => rw [hi] at q; exact q.elim
end
end DL

/-! DL9: defs that hand back a new list -/
namespace DL
open PySem L2
def relS (scope sc : Scope) : Scope :=
  { scope with names := scope.names.map fun p => if (p.2 == .free && sc.kind == .function && sc.names.lookup p.1 == some .cell) then (p.1, .cell) else p }
theorem relE (scope : Scope) (cl : List (Str × Addr)) (C : Addr) (env : Env) : (compEnvC scope cl C env).scope = relS scope env.scope := rfl
theorem envE {qual : Str} {sc : Scope} {a f : Addr} {cd : Value} : (PyProof.Rows.envOfC qual sc a f cd).scope = sc := rfl
def dfPF (np n : Nat) (F : En → Re Fl) (ds : List D) : Re (List D) := if ds.length = np then (match F (en0 n ds) with
  | .bad => .bad
  | .er e => .er e
  | .ok (.rf d _) => .ok d
  | .ok _ => .bad) else .bad
def fin1F (d : List D) (δ : En) : Re (List D × List D) := match δ[(0 : Nat)]? with
  | some (.ow s) => .ok (d, s)
  | _ => .bad
def dfMF (np n : Nat) (F : En → Re Fl) (src ds : List D) : Re (List D × List D) := if ds.length = np then (match F (en1 n src ds) with
  | .bad => .bad
  | .er e => .er e
  | .ok (.rf d δ) => fin1F d δ
  | .ok _ => .bad) else .bad
section
variable {P : Program} {w : World} {K : PySem.W.Frag} {mg : Str → Option Value} {base : Heap}
variable {x qual : Str} {st : Stmt} {f : Addr} {fd : FuncData} {N ps : List Str} {k : Nat}
theorem fn_PF (F : Fun K x qual st f fd) (S : FnScope N ps (defScope st)) {Fb : En → Re Fl}
    (hb : ∀ (cdv : Value) (A : Around) (outer : List Env) (s : Shared) (H : Hp) (E : XK) (Hin Hb : Hp) (ma : Nat → Addr), RoomG k (A.deeper (PyProof.Rows.envOfC qual (defScope st) s.heap.objs.size f cdv)) →
      PSs (cxOf (L2.CX P w) P w K mg base N qual (defScope st) f cdv A outer s H E) (defBody st) (tS ⟨K, mg, Hin, Hb, [], ma⟩ E Fb)) :
    FnOkG P w K mg base (L2.CX P w) (k + 1) f fd ps (spPF K mg (dfPF ps.length N.length Fb)) := by
  refine fun_okG F S (fun vs H Q E ⟨_, ds, _, r, h⟩ => by
    unfold dfPF at h
    split at h
    · rename_i hl; rw [dpa_len r]; exact hl
    · exact h.elim) (fun cdv A outer s H vs Q E hr ⟨Hs, ds, hs, r, h⟩ => ⟨_, hb cdv A outer s H E H Hs (fun _ => 0) hr, Hs, H, en0 N.length ds, sat0 hs r, ?_⟩)
  unfold dfPF at h
  split at h
  case isFalse => exact h.elim
  cases hz : Fb (en0 N.length ds) with
  | bad => rw [hz] at h; exact h
  | er e => rw [hz] at h; exact fun Hs' H' s' F' => h Hs' H' s' F'.sh F'.gm F'.nw
  | ok fl =>
    rw [hz] at h
    cases fl with
    | rf d δ => exact fun p xs σ' Hs' H' s' S' hp hi hx rx => h p xs Hs' H' s' S'.sh S'.gm S'.nw hp hi hx rx
    | _ => exact h.elim
theorem finF_at {Hs Hs' H H' : Hp} {a : Addr} {σ : St} {δ : En} {d : List D} {z : List D × List D} (S : Sat ⟨K, mg, H, Hs, [0], fun _ => a⟩ Hs' (fun b => if b = a then none else H b) H' σ δ) (h : fin1F d δ = .ok z) :
    z.1 = d ∧ ∃ xs, H' a = some (.lst xs) ∧ RpAll K Hs' xs z.2 ∧ Hs' a = none := by
  unfold fin1F at h
  split at h
  · rename_i s e
    cases h
    obtain ⟨r, xs, e1, h1, r1, w1, _, w2⟩ := S.sl 0 _ e
    rcases w2 with ⟨_, rfl⟩ | ⟨z, _⟩
    · exact ⟨rfl, xs, h1, r1, w1⟩
    · exact absurd (show 0 ∈ [0] by simp) z
  · cases h
theorem finF_ok {d : List D} {δ : En} : fin1F d δ = .bad ∨ ∃ s, fin1F d δ = .ok (d, s) := by
  unfold fin1F
  split
  · exact .inr ⟨_, rfl⟩
  · exact .inl rfl
theorem fn_MF (F : Fun K x qual st f fd) {p0 : Str} (S : FnScope N (p0 :: ps) (defScope st)) {Fb : En → Re Fl}
    (hb : ∀ (cdv : Value) (A : Around) (outer : List Env) (s : Shared) (H : Hp) (E : XK) (Hin Hb : Hp) (ma : Nat → Addr), RoomG k (A.deeper (PyProof.Rows.envOfC qual (defScope st) s.heap.objs.size f cdv)) →
      PSs (cxOf (L2.CX P w) P w K mg base N qual (defScope st) f cdv A outer s H E) (defBody st) (tS ⟨K, mg, Hin, Hb, [0], ma⟩ E Fb)) :
    FnOkG P w K mg base (L2.CX P w) (k + 1) f fd (p0 :: ps) (spMF K mg (dfMF ps.length N.length Fb)) := by
  refine fun_okG F S (fun vs H Q E ⟨_, _, _, _, ws, ds, e, _, _, _, _, r, h⟩ => by
    subst e
    unfold dfMF at h
    split at h
    · rename_i hl; rw [List.length_cons, List.length_cons, dpa_len r, hl]
    · exact h.elim) (fun cdv A outer s H vs Q E hr ⟨Hs, a, xs, src, ws, ds, e, hs, ha, hx, rx, r, h⟩ => ?_)
  subst e
  refine ⟨_, hb cdv A outer s H E H Hs (fun _ => a) hr, Hs, _, en1 N.length src ds, sat1 hs ha hx rx r, ?_⟩
  unfold dfMF at h
  split at h
  case isFalse => exact h.elim
  cases hz : Fb (en1 N.length src ds) with
  | bad => rw [hz] at h; exact h
  | er e =>
    rw [hz] at h
    exact fun Hs' H' s' F' => h Hs' H' s' F'.sh (keep_G F'.gm) F'.nw (F'.hin a _ hx)
  | ok fl =>
    rw [hz] at h
    cases fl with
    | rf d δ =>
      intro p ys σ' Hs' H' s' S' hp hi hx' rx'
      rcases finF_ok (d := d) (δ := δ) with e | ⟨t, e⟩
      · simp only [e] at h; exact h.elim
      · obtain ⟨_, zs, q1, q2, q3⟩ := finF_at S' e
        simp only [e] at h
        exact h p ys zs Hs' H' s' S'.sh (keep_G S'.gm) S'.nw q3 q1 q2 hp hi hx' rx'
    | _ => exact h.elim
end
section
variable {X : Cx} {c : DC} {E : XK} {e : Expr} {es : List Expr} {fr : En → Re (List D × En)} {k : Nat} {x : Str} {ps : List Str} {n : Nat} {p pos : Pos} {Hs Hs' G H H' : Hp} {σ : St} {δ : En}
def eCmF (i : Nat) (F : List D → List D → Re (List D × List D)) (fr : En → Re (List D × En)) : En → Re (List D × En) := fun δ => match δ[i]? with
  | some (.ow _) => (fr δ).bd fun p => match p.2[i]? with
    | some (.ow src) => (F src p.1).bd fun q => .ok (q.1, p.2.set i (.ow q.2))
    | _ => .bad
  | _ => .bad
theorem v_cmF {i : Nat} {F : List D → List D → Re (List D × List D)} {Q : VK} (h : tF c E (eCmF i F fr) σ H Q) : tCall (spMF c.K c.mg F) [] E (tCons (tVar i) (tA c E fr)) σ H Q := by
  obtain ⟨Hs, G, δ, S, q⟩ := h
  unfold eCmF at q
  cases hi : δ[i]? with
  | none => rw [hi] at q; exact q.elim
  | some s => cases s with
    | ow ds0 =>
      rw [hi] at q
      simp only at q
      obtain ⟨a, xs, e1, h1, _, _⟩ := S.sl i _ hi
      refine ⟨.ref a, e1, Hs, G, δ, S, PoG.seq q fun es δ1 Hs1 H1 s1 q1 as S1 r1 => ?_⟩
      simp only at q1
      cases hi1 : δ1[i]? with
      | none => rw [hi1] at q1; exact q1.elim
      | some s => cases s with
        | ow src =>
          rw [hi1] at q1
          simp only at q1
          obtain ⟨a', ys, e2, h2, r2, w2⟩ := S1.sl i _ hi1
          rw [e1] at e2
          cases e2
          show spMF c.K c.mg F ((V.ref a :: as) ++ []) H1 Q E
          rw [List.append_nil]
          refine ⟨Hs1, a, ys, src, as, es, rfl, S1.sh, w2.1, h2, r2, r1, ?_⟩
          cases hz : F src es with
          | bad => rw [hz] at q1; exact q1
          | er e => rw [hz] at q1; exact fun Hs' H' s sh sm nw he => q1 Hs' H' s (Frm.after S1 hi1 e1 s sh sm nw he)
          | ok z =>
            rw [hz] at q1
            obtain ⟨d, src'⟩ := z
            intro p2 ys2 zs Hs' H' s sh sm nw hs h' rz hp hp2 hx rx
            have S2 := S1.after hi1 e1 s sh sm nw hs h' rz
            refine q1 Hs' H' s p2 ys2 S2 ⟨hp, Sat.fresh_G S1.toFrm hp2, Sat.fresh_in S1.toFrm hp2, fun j t hj f => ?_⟩ hx rx
            have hlt : i < δ1.length := (List.getElem?_eq_some_iff.mp hi1).1
            by_cases hji : j = i
            · subst hji
              rw [List.getElem?_set_self hlt] at hj
              cases hj
              rw [e1] at f
              have e0 : p2 = a := f
              subst e0
              rw [h2] at hp2; cases hp2
            · rw [List.getElem?_set_ne (Ne.symm hji)] at hj
              have ne : ∀ (b : Addr), Foot H1 σ[j]? t b → b ≠ a := fun b f => by
                rintro rfl
                exact S1.sp j i t _ b hji hj hi1 f (by rw [e1]; rfl)
              have f' := foot_keep (H' := H') (S1.sl j t hj) (fun b u f e => sm b u (ne b f) e) f
              obtain ⟨_, u, e⟩ := foot_own (S1.sl j t hj) f'
              rw [hp2] at e; cases e
        | _ => rw [hi1] at q1; exact q1.elim
    | _ => rw [hi] at q; exact q.elim
variable {i : Nat} {y : Str} {yp : Pos}
theorem de_cmF {F : List D → List D → Re (List D × List D)} (hD : Dn X.prog X.w X.K X.mg X.base k x ps (spMF X.K X.mg F)) (hr : RoomG k X.A) (hg : Gl X x) (hx : Passes (L2.CX X.prog X.w) X E) (hK : c.K = X.K) (hM : c.mg = X.mg) (ho : PE X (.Name y yp) (tVar i))
    (ha : PA X es (tA c E fr)) (hdb : (x == ("__debug__" : Str)) = false := by decide) (he : starEach (.Name y yp :: es) X.env = (false, eval (.Name y yp) X.env) :: starEach es X.env := by rfl) (hpl : (backTo pos (starEach es X.env)).any (·.1) = false := by rfl) :
    PE X (.Call (.Name x p) (.Name y yp :: es) [] pos) (tF c E (eCmF i F fr)) := by
  obtain ⟨f, fd, Fo, hm, hk, hb⟩ := hD.ex
  refine PE.imp (pe_callG Fo hr hg hm hk hb .nil hx (pa_cons ho ha he) hdb he hpl) fun σ H Q h => ?_
  rw [← hK, ← hM]
  exact v_cmF h
theorem spMF_noer {K : PySem.W.Frag} {mg : Str → Option Value} {F : List D → List D → Re (List D × List D)} {vs : List V} {H : Hp} {Q : VK} {E : XK} (E' : XK) (h : spMF K mg (noer2 F) vs H Q E) : spMF K mg F vs H Q E' := by
  obtain ⟨Hs, a, xs, src, ws, ds, e, s, h1, h2, r, r2, q⟩ := h
  refine ⟨Hs, a, xs, src, ws, ds, e, s, h1, h2, r, r2, ?_⟩
  unfold noer2 at q
  cases hz : F src ds with
  | bad => rw [hz] at q; exact q
  | er e => rw [hz] at q; exact q.elim
  | ok d => rw [hz] at q; exact q
theorem de_cm0F {F : List D → List D → Re (List D × List D)} (hD : Dn X.prog X.w X.K X.mg X.base k x ps (spMF X.K X.mg F)) (hr : RoomG k X.A) (hg : Gl X x) (hK : c.K = X.K) (hM : c.mg = X.mg) (ho : PE X (.Name y yp) (tVar i))
    (ha : PA X es (tA c E fr)) (hdb : (x == ("__debug__" : Str)) = false := by decide) (he : starEach (.Name y yp :: es) X.env = (false, eval (.Name y yp) X.env) :: starEach es X.env := by rfl) (hpl : (backTo pos (starEach es X.env)).any (·.1) = false := by rfl) :
    PE X (.Call (.Name x p) (.Name y yp :: es) [] pos) (tF c E (eCmF i (noer2 F) fr)) := by
  obtain ⟨f, fd, Fo, hm, hk, hb⟩ := hD.ex
  refine PE.imp (pe_callG Fo hr hg hm hk hb .nil passN (pa_cons ho ha he) hdb he hpl) fun σ H Q h => ?_
  have q := v_cmF h
  have mono : ∀ {t : TA} {R R' : List V → Hp → Prop}, (∀ vs H, R vs H → R' vs H) → tCons (tVar i) (tA c E fr) σ H R → tCons (tVar i) (tA c E fr) σ H R' := fun {t R R'} w ⟨v, e, Hs, G, δ, S, q⟩ =>
    ⟨v, e, Hs, G, δ, S, q.imp fun a δ' Hs' H' z vs S' r => w _ _ (z vs S' r)⟩
  refine mono (t := tNil) (fun vs H1 z => ?_) q
  rw [← hK, ← hM]
  exact spMF_noer _ z
theorem e_globI {i : Int} (hg : Gl X x) (hm : ∃ t, X.mg x = some (.int i t)) (hd : (x == ("__debug__" : Str)) = false := by decide) : PE X (.Name x pos) (tD c E (Pu (pK (.int i)))) := by
  obtain ⟨t, h⟩ := hm
  exact e_glob (v := .int i) hg h ⟨t, rfl⟩ (fun _ => .int i) hd
theorem e_globS {y : Str} (hg : Gl X x) (hm : ∃ t, X.mg x = some (.str y t)) (hd : (x == ("__debug__" : Str)) = false := by decide) : PE X (.Name x pos) (tD c E (Pu (pK (.str y)))) := by
  obtain ⟨t, h⟩ := hm
  exact e_glob (v := .str y) hg h ⟨t, rfl⟩ (fun _ => .str y) hd
theorem uLr1 {fa : En → Re D} (h : PE X e (tF c E (eCa gLr1 (eCons (Pu fa) eNil)))) : PE X e (tF c E (Pu (pCa gLr1 (pCons fa pNil)))) := by
  have e1 : (eNil : En → Re (List D × En)) = Pu pNil := rfl
  rw [e1, eCons_pu, eCa_pu] at h; exact h
end
end DL
namespace DL
open PySem L2
theorem ints_rp {K : PySem.W.Frag} {H : Hp} (ns : List Int) : RpAll K H (ns.map V.int) (ns.map .int) := by
  induction ns with
  | nil => exact .nil
  | cons n ns ih => exact .cons (.int n) ih
end DL

/-! DL10: owned lists lent for a while; keywords; texts; isinstance of two classes -/
namespace DL
open PySem L2
def scal : D → Bool
  | .none => true
  | .bool _ => true
  | .int _ => true
  | .str _ => true
  | _ => false
theorem scal_rp {K : PySem.W.Frag} {H H' : Hp} {v : V} {d : D} (h : scal d = true) (r : Rp K H v d) : Rp K H' v d := by
  cases r with
  | non => exact .non
  | bl b => exact .bl b
  | int i => exact .int i
  | str x => exact .str x
  | _ => cases h
/-- the slots as they are lent: the named ones stable, what else is owned is hidden -/
def lend1 (is : List Nat) (i : Nat) : Sl → Sl
  | .ow ds => if i ∈ is then .sh (.list ds) else .no
  | .ow2 _ => .no
  | .dk _ => .no
  | s => s
theorem lend1_ow (is : List Nat) (i : Nat) (ds : List D) : lend1 is i (.ow ds) = if i ∈ is then .sh (.list ds) else .no := rfl
def lend (is : List Nat) (δ : En) : En := δ.mapIdx fun i s => lend1 is i s
section
variable {X : Cx} {c : DC} {E : XK} {e : Expr} {Hs Hs' G H H' : Hp} {σ : St} {δ : En}
/-- the objects of the lent lists | of the hidden ones -/
def Lent (is : List Nat) (H : Hp) (σ : St) (δ : En) (a : Addr) : Prop := ∃ (i : Nat) (ds : List D), i ∈ is ∧ δ[i]? = some (.ow ds) ∧ Foot H σ[i]? (.ow ds) a
def Hidn (is : List Nat) (H : Hp) (σ : St) (δ : En) (a : Addr) : Prop := ∃ (i : Nat) (s : Sl), δ[i]? = some s ∧ Foot H σ[i]? s a ∧ ¬ (i ∈ is ∧ ∃ ds, s = .ow ds)
open Classical in
noncomputable def hsL (is : List Nat) (Hs H : Hp) (σ : St) (δ : En) : Hp := fun a => if Lent is H σ δ a then H a else Hs a
open Classical in
noncomputable def gL (is : List Nat) (G H : Hp) (σ : St) (δ : En) : Hp := fun a => if Hidn is H σ δ a then H a else G a
theorem lend_foot {is : List Nat} {j : Nat} {t : Sl} {a : Addr} (h : (lend is δ)[j]? = some t) (f : Foot H σ[j]? t a) : False := by
  unfold lend at h
  rw [List.getElem?_mapIdx] at h
  obtain ⟨s, _, e⟩ := Option.map_eq_some_iff.mp h
  subst e
  cases s with
  | ow ds =>
    rw [lend1_ow] at f
    by_cases hi : j ∈ is
    · rw [if_pos hi] at f; exact foot_sh f
    · rw [if_neg hi] at f; exact foot_no f
  | ow2 dss => exact foot_no f
  | dk k => exact foot_no f
  | no => exact foot_no f
  | sh d => exact foot_sh f
theorem Sat.lent (S : Sat c Hs G H σ δ) (hm : c.mi = []) (is : List Nat) : Sat c (hsL is Hs H σ δ) (gL is G H σ δ) H σ (lend is δ) ∧ Same Hs (hsL is Hs H σ δ) := by
  have own : ∀ a, Lent is H σ δ a → Own c Hs G 0 a ∨ (Hs a = none ∧ G a = none ∧ c.Hin a = none) := fun a ⟨i, ds, hi, hj, f⟩ => by
    obtain ⟨w, _⟩ := foot_own (S.sl i _ hj) f
    rcases w.2.2 with ⟨z, _⟩ | ⟨_, z⟩
    · rw [hm] at z; cases z
    · exact .inr ⟨w.1, w.2.1, z⟩
  have own' : ∀ a, Lent is H σ δ a → Hs a = none ∧ G a = none ∧ c.Hin a = none := fun a h => by
    rcases own a h with w | w
    · rcases w.2.2 with ⟨z, _⟩ | ⟨_, z⟩
      · rw [hm] at z; cases z
      · exact ⟨w.1, w.2.1, z⟩
    · exact w
  have own2 : ∀ a, Hidn is H σ δ a → Hs a = none ∧ G a = none := fun a ⟨i, s, hj, f, _⟩ => by
    obtain ⟨w, _⟩ := foot_own (S.sl i _ hj) f
    exact ⟨w.1, w.2.1⟩
  have disj : ∀ a, Lent is H σ δ a → ¬ Hidn is H σ δ a := fun a ⟨i, ds, hi, hj, f⟩ ⟨j, s, hj2, f2, n⟩ => by
    by_cases e : i = j
    · subst e
      rw [hj] at hj2
      cases hj2
      exact n ⟨hi, ds, rfl⟩
    · exact S.sp i j _ _ a e hj hj2 f f2
  have ss : Same Hs (hsL is Hs H σ δ) := fun a o e => by
    unfold hsL
    split
    · rename_i h; rw [(own' a h).1] at e; cases e
    · exact e
  refine ⟨⟨⟨S.bs.trans ss, fun a o e => ?_, fun a o e => ?_, fun a o e => ?_, S.hin, fun a o o' e e' => ?_⟩, ?_, fun j t h => ?_, fun j l t u a ne h1 h2 f1 f2 => (lend_foot h1 f1).elim, fun i hi => ?_⟩, ss⟩
  · unfold hsL at e
    split at e
    · exact e
    · exact S.sh a o e
  · unfold gL at e
    split at e
    · exact e
    · exact S.gm a o e
  · unfold hsL at e
    split at e
    · rename_i h; exact .inr (own' a h).2.2
    · exact S.nw a o e
  · unfold gL at e
    unfold hsL at e'
    split at e'
    · rename_i h
      rw [if_neg (disj a h), (own' a h).2.1] at e; cases e
    · split at e
      · rename_i h; rw [(own2 a h).1] at e'; cases e'
      · exact S.gs a o o' e e'
  · unfold lend; rw [List.length_mapIdx]; exact S.ln
  · unfold lend at h
    rw [List.getElem?_mapIdx] at h
    obtain ⟨s, hs, e⟩ := Option.map_eq_some_iff.mp h
    subst e
    have q := S.sl j s hs
    cases s with
    | no => trivial
    | sh d =>
      obtain ⟨x, e1, r⟩ := q
      exact ⟨x, e1, dp_mono ss r⟩
    | ow2 dss => trivial
    | dk k => trivial
    | ow ds =>
      obtain ⟨r, xs, e1, h1, r1, w⟩ := q
      rw [lend1_ow]
      by_cases hi : j ∈ is
      · rw [if_pos hi]
        refine ⟨.ref r, e1, .lst (SqL.of ?_) (dpa_mono ss r1)⟩
        unfold hsL
        rw [if_pos ⟨j, ds, hi, hs, by rw [e1]; rfl⟩]; exact h1
      · rw [if_neg hi]; trivial
  · rw [hm] at hi; cases hi
/-- an effect-free expression over the lent slots, whose value is no list -/
def bor (is : List Nat) (f : En → Re D) : En → Re D := fun δ => match f (lend is δ) with
  | .ok d => if scal d then .ok d else .bad
  | _ => .bad
theorem de_bor {is : List Nat} {f : En → Re D} (hm : c.mi = []) (h : PE X e (tD c E (Pu f))) : PE X e (tD c E (Pu (bor is f))) := PE.imp h fun σ H Q ⟨Hs, G, δ, S, q⟩ => by
  obtain ⟨S1, ss⟩ := S.lent hm is
  refine ⟨_, _, _, S1, ?_⟩
  unfold Pu bor at q
  unfold Pu
  cases hz : f (lend is δ) with
  | bad => rw [hz] at q; exact q.elim
  | er e => rw [hz] at q; exact q.elim
  | ok d =>
    simp only [hz] at q
    cases hs : scal d with
    | false => rw [hs] at q; exact q.elim
    | true =>
      rw [hs] at q
      intro Hs' H' s' v S' r
      have kept : ∀ (j : Nat) (t : Sl) (b : Addr) (o : HO), δ[j]? = some t → Foot H σ[j]? t b → H b = some o → H' b = some o := fun j t b o hj f e => by
        by_cases hl : Lent is H σ δ b
        · exact S'.sh b o (s' b o (by unfold hsL; rw [if_pos hl]; exact e))
        · have hh : Hidn is H σ δ b := ⟨j, t, hj, f, fun ⟨z1, ds, z2⟩ => hl ⟨j, ds, z1, by rw [← z2]; exact hj, by rw [← z2]; exact f⟩⟩
          exact S'.gm b o (by unfold gL; rw [if_pos hh]; exact e)
      refine q Hs H' (Same.refl _) v (S.keep ⟨S.bs, fun b o e => S'.sh b o (s' b o (ss b o e)), fun b o e => S'.gm b o ?_, S.nw, S'.hin, S.gs⟩ (Same.refl _) kept (fun j t b hj f => (foot_own (S.sl j t hj) f).1.1) (fun j t b hj f => (foot_own (S.sl j t hj) f).1.2.1)) (scal_rp hs r)
      unfold gL
      split
      · rename_i h; obtain ⟨i, s, hj, f, _⟩ := h; rw [(foot_own (S.sl i _ hj) f).1.2.1] at e; cases e
      · exact e
end
end DL

/-! DL11: calls with keywords -/
namespace DL
open PySem L2
def pick {α : Type} (ix : List Nat) (l : List α) : List α := ix.filterMap fun i => l[i]?
def gK {α : Type} (m n : Nat) (ix : List Nat) (us ws : List α) : List α := if us.length = m ∧ ws.length = n then pick ix (us ++ ws) else []
theorem vals_len {vs : List V} {us : List Value} (r : Vals vs us) : vs.length = us.length := r.length
theorem vals_app {vs ws : List V} {us zs : List Value} (r : Vals vs us) (r2 : Vals ws zs) : Vals (vs ++ ws) (us ++ zs) := by
  induction r with
  | nil => exact r2
  | cons h _ ih => exact .cons h ih
theorem vals_get {vs : List V} {us : List Value} (r : Vals vs us) : ∀ (i : Nat), (vs[i]? = none ∧ us[i]? = none) ∨ ∃ v u, vs[i]? = some v ∧ us[i]? = some u ∧ RelV v u := by
  induction r with
  | nil => exact fun i => .inl ⟨by simp, by simp⟩
  | cons h _ ih =>
    intro i
    cases i with
    | zero => exact .inr ⟨_, _, rfl, rfl, h⟩
    | succ i => simpa using ih i
theorem vals_pick {vs : List V} {us : List Value} (r : Vals vs us) : ∀ (ix : List Nat), Vals (pick ix vs) (pick ix us)
  | [] => .nil
  | i :: ix => by
    have ih := vals_pick r ix
    unfold pick at ih ⊢
    rcases vals_get r i with ⟨e1, e2⟩ | ⟨v, u, e1, e2, h⟩
    · rw [List.filterMap_cons_none e1, List.filterMap_cons_none e2]; exact ih
    · rw [List.filterMap_cons_some e1, List.filterMap_cons_some e2]; exact .cons h ih
theorem rpa_pick {K : PySem.W.Frag} {H : Hp} {vs : List V} {ds : List D} (r : RpAll K H vs ds) : ∀ (ix : List Nat), RpAll K H (pick ix vs) (pick ix ds)
  | [] => .nil
  | i :: ix => by
    have ih := rpa_pick r ix
    unfold pick at ih ⊢
    cases e : ds[i]? with
    | none =>
      have e1 : vs[i]? = none := by
        rw [List.getElem?_eq_none_iff] at e ⊢
        rw [dpa_len r]; exact e
      rw [List.filterMap_cons_none e1, List.filterMap_cons_none e]; exact ih
    | some d =>
      obtain ⟨v, e1, h⟩ := dpa_get r e
      rw [List.filterMap_cons_some e1, List.filterMap_cons_some e]; exact .cons h ih
theorem Fun.kbinds {K : PySem.W.Frag} {x qual : Str} {st : Stmt} {f : Addr} {fd : FuncData} {ps ks : List Str} {m n : Nat} {ix : List Nat} (F : Fun K x qual st f fd) (hp : ps.length ≠ 0)
    (h : ∀ (kV doc pm : Value) (an : Option Addr) (cdv ct : Value) (us ws : List Value), us.length = m → ws.length = n → bindArgs (PySem.W.fnOf x qual (defArgs st) (defBody st) (defScope st) .none kV doc pm an cdv ct) ⟨us, ks.zip ws⟩ = pure (ps.zip (pick ix (us ++ ws)))) : KBinds K fd ps ks (gK m n ix) (gK m n ix) := by
  obtain ⟨oc, od, kV, doc, pm, an, cdv, ct, osl, rfl, lk, hcd⟩ := F.ex
  refine ⟨fun s us ws _ hl => ?_, fun {vs us zs ws} r r2 => ?_⟩
  · unfold gK at hl ⊢
    split at hl
    · rename_i z
      rw [if_pos z]
      exact .of_eq (h kV doc pm an cdv ct us ws z.1 z.2)
    · exact absurd hl.symm hp
  · unfold gK
    rw [vals_len r, vals_len r2]
    split
    · exact vals_pick (vals_app r r2) ix
    · exact .nil
structure DnK (P : Program) (w : World) (K : PySem.W.Frag) (mg : Str → Option Value) (base : Heap) (k : Nat) (x : Str) (ps ks : List Str) (m n : Nat) (ix : List Nat) (sp : Sp) : Prop where
  ex : ∃ f fd, FnOkG P w K mg base (L2.CX P w) k f fd ps sp ∧ mg x = some (.ref f) ∧ PySem.W.keepIn K (.ref f) = true ∧ KBinds K fd ps ks (gK m n ix) (gK m n ix)
theorem PK.imp {X : Cx} {kws : List Keyword} {t t' : TA} (h : PK X kws t) (w : ∀ σ H Q, t' σ H Q → t σ H Q) : PK X kws t' := ⟨fun pos pins s σ H Q I q => h.run pos pins s σ H Q I (w σ H Q q)⟩
section
variable {X : Cx} {c : DC} {E : XK} {e : Expr} {es : List Expr} {kws : List Keyword} {fa : En → Re (D × En)} {fr f1 f2 : En → Re (List D × En)} {k : Nat} {x : Str} {ps ks : List Str} {m n : Nat} {ix : List Nat} {p pos kpos : Pos} {nm : Option Str} {Hs Hs' G H H' : Hp} {σ : St} {δ : En}
theorem dk_nil : PK X [] (tA c E (Pu pNil)) := PK.imp pk_nil fun σ H Q ⟨Hs, G, δ, S, q⟩ => q Hs H (Same.refl _) [] S .nil
theorem dk_cons (ha : PE X e (tD c E fa)) (hr : PK X kws (tA c E fr)) : PK X (⟨nm, e, kpos⟩ :: kws) (tA c E (eCons fa fr)) := PK.imp (pk_cons ha hr) fun σ H Q ⟨Hs, G, δ, S, q⟩ =>
  ⟨Hs, G, δ, S, PoG.seq q fun d δ1 Hs1 H1 s1 q1 x S1 r1 => ⟨Hs1, G, δ1, S1, PoG.seq q1 fun ds δ2 Hs2 H2 s2 q2 xs S2 r2 => q2 Hs2 H2 (Same.refl _) _ S2 (.cons (dp_mono s2 r1) r2)⟩⟩
theorem uKCons {fa : En → Re D} {fr : En → Re (List D)} (h : PK X kws (tA c E (eCons (Pu fa) (Pu fr)))) : PK X kws (tA c E (Pu (pCons fa fr))) := eCons_pu fa fr ▸ h
/-- F of the positional values and the keywords' values, brought into the parameters' order -/
def eCk {α : Type} (m n : Nat) (ix : List Nat) (F : List D → Re α) (f1 f2 : En → Re (List D × En)) : En → Re (α × En) := fun δ => (f1 δ).bd fun p => (f2 p.2).bd fun q => if p.1.length = m ∧ q.1.length = n then (F (pick ix (p.1 ++ q.1))).bd fun d => .ok (d, q.2) else .bad
def pCk {α : Type} (m n : Nat) (ix : List Nat) (F : List D → Re α) (f1 f2 : En → Re (List D)) : En → Re α := fun δ => (f1 δ).bd fun p => (f2 δ).bd fun q => if p.length = m ∧ q.length = n then F (pick ix (p ++ q)) else .bad
theorem eCk_pu {α : Type} (F : List D → Re α) (f1 f2 : En → Re (List D)) : eCk m n ix F (Pu f1) (Pu f2) = Pu (pCk m n ix F f1 f2) := by
  funext δ; unfold eCk Pu pCk
  cases f1 δ with
  | ok a =>
    simp only [Re.bd_ok]
    cases f2 δ with
    | ok b =>
      simp only [Re.bd_ok]
      split <;> rfl
    | _ => rfl
  | _ => rfl
theorem pe_ck0 {CX : CXT} {f : Addr} {fd : FuncData} {sp : Sp} {g : List Value → List Value → List Value} {gV : List V → List V → List V} {tk : TA} (F : FnOkG X.prog X.w X.K X.mg X.base CX k f fd ps sp) (hr : RoomG k X.A) (hg : Gl X x) (hm : X.mg x = some (.ref f)) (hk : PySem.W.keepIn X.K (.ref f) = true) (hb : KBinds X.K fd ps ks g gV) (hx : Passes CX X E)
    (hkw : PK X kws tk) (hall : (backToKw pos (keywordEach kws X.env)).all (·.1.isSome) = true := by rfl) (hks : (backToKw pos (keywordEach kws X.env)).filterMap (·.1) = ks := by rfl)
    (hdb : (x == ("__debug__" : Str)) = false := by decide) (hpl : ((backTo pos (starEach [] X.env)).any (·.1) || (backToKw pos (keywordEach kws X.env)).any (·.1.isNone)) = false := by rfl) :
    PE X (.Call (.Name x p) [] kws pos) (tCallK sp gV E tNil tk) := by
  refine ⟨fun pins s σ H Q I h => ?_⟩
  refine wpAny_Call_Name_kw (ld_glob I hg hm ?_ hdb)
  refine PySem.W.callWith_KW0 (h₀ := X.base) I.ok.mod.kin hk hall ?_ hpl
  refine thn (hkw.run pos pins s σ H _ I h) fun ws s2 ⟨zs, H2, I2, rz, q2⟩ => ⟨I2.kIn, ?_⟩
  rw [hks]
  exact run_fnkG F hr hb hx I2 .nil rz q2
theorem v_ck {F : List D → Re D} {t : TA} (ht : ∀ σ H Q, tA c E f1 σ H Q → t σ H Q) {Q : VK} (h : tD c E (eCk m n ix F f1 f2) σ H Q) : tCallK (spP c.K c.mg F) (gK m n ix) E t (tA c E f2) σ H Q := by
  obtain ⟨Hs, G, δ, S, q⟩ := h
  refine ht σ H _ ⟨Hs, G, δ, S, PoG.seq q fun ds δ1 Hs1 H1 s1 q1 vs S1 r1 => ⟨Hs1, G, δ1, S1, PoG.seq q1 fun es δ2 Hs2 H2 s2 q2 ws S2 r2 => ?_⟩⟩
  simp only at q2
  split at q2
  · rename_i z
    have e : gK m n ix vs ws = pick ix (vs ++ ws) := if_pos ⟨(dpa_len r1).trans z.1, (dpa_len r2).trans z.2⟩
    rw [e]
    exact v_cr (F := F) S2 (rpa_pick (dpa_append (dpa_mono s2 r1) r2) ix) q2
  · exact q2.elim
theorem de_ck {F : List D → Re D} (hD : DnK X.prog X.w X.K X.mg X.base k x ps ks m n ix (spP X.K X.mg F)) (hr : RoomG k X.A) (hg : Gl X x) (hx : Passes (L2.CX X.prog X.w) X E) (hK : c.K = X.K) (hM : c.mg = X.mg)
    (ha : PA X (e :: es) (tA c E f1)) (hkw : PK X kws (tA c E f2)) (hall : (backToKw pos (keywordEach kws X.env)).all (·.1.isSome) = true := by rfl) (hks : (backToKw pos (keywordEach kws X.env)).filterMap (·.1) = ks := by rfl)
    (hdb : (x == ("__debug__" : Str)) = false := by decide) (he : starEach (e :: es) X.env = (false, eval e X.env) :: starEach es X.env := by rfl)
    (hpl : ((backTo pos (starEach (e :: es) X.env)).any (·.1) || (backToKw pos (keywordEach kws X.env)).any (·.1.isNone)) = false := by rfl) :
    PE X (.Call (.Name x p) (e :: es) kws pos) (tD c E (eCk m n ix F f1 f2)) := by
  obtain ⟨f, fd, Fo, hm, hk, hb⟩ := hD.ex
  refine PE.imp (pe_callKG Fo hr hg hm hk hb hx ha hkw hall hks hdb he hpl) fun σ H Q h => ?_
  rw [← hK, ← hM]
  exact v_ck (fun _ _ _ z => z) h
theorem de_ck0 {F : List D → Re D} (hD : DnK X.prog X.w X.K X.mg X.base k x ps ks 0 n ix (spP X.K X.mg F)) (hr : RoomG k X.A) (hg : Gl X x) (hx : Passes (L2.CX X.prog X.w) X E) (hK : c.K = X.K) (hM : c.mg = X.mg)
    (hkw : PK X kws (tA c E f2)) (hall : (backToKw pos (keywordEach kws X.env)).all (·.1.isSome) = true := by rfl) (hks : (backToKw pos (keywordEach kws X.env)).filterMap (·.1) = ks := by rfl)
    (hdb : (x == ("__debug__" : Str)) = false := by decide) (hpl : ((backTo pos (starEach [] X.env)).any (·.1) || (backToKw pos (keywordEach kws X.env)).any (·.1.isNone)) = false := by rfl) :
    PE X (.Call (.Name x p) [] kws pos) (tD c E (eCk 0 n ix F (Pu pNil) f2)) := by
  obtain ⟨f, fd, Fo, hm, hk, hb⟩ := hD.ex
  refine PE.imp (pe_ck0G Fo hr hg hm hk hb hx hkw hall hks hdb hpl) fun σ H Q h => ?_
  rw [← hK, ← hM]
  exact v_ck (t := tNil) (fun σ H Q ⟨Hs, G, δ, S, q⟩ => q Hs H (Same.refl _) [] S .nil) h
end
end DL

/-! DL12: methods of texts, isinstance of two classes, [x] * n -/
namespace DL
open PySem L2
section
variable {X : Cx} {c : DC} {E : XK} {o e a b : Expr} {es : List Expr} {pos p : Pos} {α : Type} {fo fe fa fb : En → Re (D × En)} {Hs Hs' G H H' : Hp} {σ : St} {δ : En}
/-- a text's method with one value -/
def eM1 {α : Type} (g : Str → D → Option α) (fo fe : En → Re (D × En)) : En → Re (α × En) := fun δ => (fo δ).bd fun p => match p.1 with
  | .str a => (fe p.2).bd fun q => (opt (g a q.1)).bd fun d => .ok (d, q.2)
  | _ => .bad
def pM1 {α : Type} (g : Str → D → Option α) (fo fe : En → Re D) : En → Re α := fun δ => (fo δ).bd fun p => match p with
  | .str a => (fe δ).bd fun q => opt (g a q)
  | _ => .bad
theorem eM1_pu {α : Type} (g : Str → D → Option α) (fo fe : En → Re D) : eM1 g (Pu fo) (Pu fe) = Pu (pM1 g fo fe) := by
  funext δ; unfold eM1 Pu pM1
  cases fo δ with
  | ok x =>
    cases x with
    | str a =>
      simp only [Re.bd_ok]
      cases fe δ with
      | ok y =>
        simp only [Re.bd_ok]
      | _ => rfl
    | _ => rfl
  | _ => rfl
def VM1 (c : DC) (r : V → List V → Hp → VK → Prop) (g : Str → D → Option D) : Prop := ∀ (Hs H : Hp) (a : Str) (y : V) (dy d : D), Same Hs H → Rp c.K Hs y dy → g a dy = some d → ∃ v, (∀ Hs', Rp c.K Hs' v d) ∧ ∀ Q : VK, Q v H → r (.str a) [y] H Q
theorem v_m1 {r : V → List V → Hp → VK → Prop} {g : Str → D → Option D} (hr : VM1 c r g) {Q : VK} (h : tD c E (eM1 g fo fe) σ H Q) : tM1 r (tD c E fo) (tD c E fe) σ H Q := by
  obtain ⟨Hs, G, δ, S, q⟩ := h
  refine ⟨Hs, G, δ, S, PoG.seq q fun d δ1 Hs1 H1 s1 q1 x S1 r1 => ?_⟩
  cases r1 with
  | str a =>
    refine ⟨⟨a, rfl⟩, Hs1, G, δ1, S1, PoG.seq q1 fun dy δ2 Hs2 H2 s2 q2 y S2 r2 => ?_⟩
    obtain ⟨d, hd, q3⟩ := PoG.last (k := fun d => (d, δ2)) q2
    obtain ⟨v, rv, w⟩ := hr Hs2 H2 a y dy d S2.sh r2 hd
    exact w Q (q3 Hs2 H2 (Same.refl _) v S2 (rv _))
  | _ => exact False.elim q1
def strsOf : List D → Option (List Str)
  | [] => some []
  | .str i :: r => (strsOf r).map (i :: ·)
  | _ => none
theorem strsOf_map : ∀ ns : List Str, strsOf (ns.map PyData.str) = some ns
  | [] => rfl
  | n :: ns => by show (strsOf (ns.map PyData.str)).map (n :: ·) = _; rw [strsOf_map ns]; rfl
theorem rpa_strsOf {K : PySem.W.Frag} {H : Hp} : ∀ {ds : List D} {vs : List V} {ns : List Str}, RpAll K H vs ds → strsOf ds = some ns → vs = ns.map V.str
  | _, _, _, .nil, e => by cases e; rfl
  | _, _, ns, .cons h1 h2, e => by
    cases h1 with
    | str x =>
      obtain ⟨r, e1, e2⟩ := Option.map_eq_some_iff.mp (show (strsOf _).map (x :: ·) = some ns from e)
      subst e2
      rw [rpa_strsOf h2 e1]; rfl
    | _ => cases e
def gJoin (a : Str) : D → Option D
  | .list ds => match strsOf ds with
    | some ys => if (ys.map (·.length)).sum + ys.length * a.length ≤ 16777216 then some (.str (Txt.join a ys)) else none
    | none => none
  | _ => none
theorem e_join {apos : Pos} (ho : PE X o (tD c E fo)) (he : PE X e (tD c E fe)) (hK : c.K = X.K := by rfl) (hs : starEach [e] X.env = [(false, eval e X.env)] := by rfl) (hbase : attributeBase o "join" X.env (eval o X.env) = eval o X.env := by rfl) (hline : (apos.endLine == pos.line) = true := by rfl) :
    PE X (.Call (.Attribute o "join" apos) [e] [] pos) (tD c E (eM1 gJoin fo fe)) := PE.imp (pe_join ho he hs hbase hline) fun σ H Q h => v_m1 (fun Hs H a y dy d s r h => by
  unfold gJoin at h
  split at h
  · cases r with
    | @lst p xs ds h1 r1 =>
      split at h
      · rename_i ys hy
        split at h
        · rename_i hl
          cases h
          have e := rpa_strsOf r1 hy
          subst e
          exact ⟨_, fun _ => .str _, fun Q q => ⟨a, p, ys, rfl, rfl, .inl (by rw [← hK]; exact same_l s h1), hl, q⟩⟩
        · cases h
      · cases h
  · cases h) h
/-- .. that hands back a new list of texts -/
def VM1F (r : V → List V → Hp → VK → Prop) (g : Str → D → Option (List D)) : Prop := ∀ (K : PySem.W.Frag) (Hs H : Hp) (a : Str) (y : V) (dy : D) (d : List D), Rp K Hs y dy → g a dy = some d → ∃ ys : List Str, d = ys.map .str ∧ ∀ Q : VK, rNewStrs ys H Q → r (.str a) [y] H Q
theorem strs_rp {K : PySem.W.Frag} {H : Hp} : ∀ (ns : List Str), RpAll K H (ns.map V.str) (ns.map .str)
  | [] => .nil
  | n :: ns => .cons (.str n) (strs_rp ns)
theorem v_m1F {r : V → List V → Hp → VK → Prop} {g : Str → D → Option (List D)} (hr : VM1F r g) {Q : VK} (h : tF c E (eM1 g fo fe) σ H Q) : tM1 r (tD c E fo) (tD c E fe) σ H Q := by
  obtain ⟨Hs, G, δ, S, q⟩ := h
  refine ⟨Hs, G, δ, S, PoG.seq q fun d δ1 Hs1 H1 s1 q1 x S1 r1 => ?_⟩
  cases r1 with
  | str a =>
    refine ⟨⟨a, rfl⟩, Hs1, G, δ1, S1, PoG.seq q1 fun dy δ2 Hs2 H2 s2 q2 y S2 r2 => ?_⟩
    obtain ⟨d, hd, q3⟩ := PoG.last (k := fun d => (d, δ2)) q2
    obtain ⟨ys, rfl, w⟩ := hr c.K Hs2 H2 a y dy d r2 hd
    refine w Q fun p hp => ?_
    exact q3 Hs2 _ (Same.refl _) p _ (S2.loose hp) (S2.loose_of hp) upd_same (strs_rp ys)
  | _ => exact False.elim q1
def gSplit (a : Str) : D → Option (List D)
  | .str b => if (b.length == 0) = false ∧ a.length + 2 ≤ 1000000 then some ((Txt.split a b).map .str) else none
  | _ => none
theorem e_split {apos : Pos} (ho : PE X o (tD c E fo)) (he : PE X e (tD c E fe)) (hs : starEach [e] X.env = [(false, eval e X.env)] := by rfl) (hbase : attributeBase o "split" X.env (eval o X.env) = eval o X.env := by rfl) (hline : (apos.endLine == pos.line) = true := by rfl) :
    PE X (.Call (.Attribute o "split" apos) [e] [] pos) (tF c E (eM1 gSplit fo fe)) := PE.imp (pe_split ho he hs hbase hline) fun σ H Q h => v_m1F (fun K Hs H a y dy d r h => by
  unfold gSplit at h
  split at h
  · cases r with
    | str b =>
      split at h
      · rename_i hl
        cases h
        exact ⟨_, rfl, fun Q q => ⟨a, _, rfl, rfl, hl.1, Nat.le_trans hl.2 (by decide), q⟩⟩
      · cases h
  · cases h) h
theorem uM1 {g : Str → D → Option D} {fo fe : En → Re D} (h : PE X e (tD c E (eM1 g (Pu fo) (Pu fe)))) : PE X e (tD c E (Pu (pM1 g fo fe))) := eM1_pu g fo fe ▸ h
theorem uM1F {g : Str → D → Option (List D)} {fo fe : En → Re D} (h : PE X e (tF c E (eM1 g (Pu fo) (Pu fe)))) : PE X e (tF c E (Pu (pM1 g fo fe))) := eM1_pu g fo fe ▸ h
/-! isinstance(x, (A, B)) -/
def eIsi2 (T U : String) (fa : En → Re (D × En)) : En → Re (D × En) := fun δ => (fa δ).bd fun p => .ok (.bool (isiD p.1 T || isiD p.1 U), p.2)
def pIsi2 (T U : String) (fa : En → Re D) : En → Re D := fun δ => (fa δ).bd fun p => .ok (.bool (isiD p T || isiD p U))
theorem eIsi2_pu (T U : String) (fa : En → Re D) : eIsi2 T U (Pu fa) = Pu (pIsi2 T U fa) := by
  funext δ; unfold eIsi2 Pu pIsi2; cases fa δ <;> rfl
theorem uIsi2 {T U : String} {fa : En → Re D} (h : PE X e (tD c E (eIsi2 T U (Pu fa)))) : PE X e (tD c E (Pu (pIsi2 T U fa))) := eIsi2_pu T U fa ▸ h
theorem kit_two {K : PySem.W.Frag} {T U : String} (h1 : kitAll T = true) (h2 : kitAll U = true) (d : D) : PySem.W.kitAny K (.type (tyN d)) [.type T, .type U] = some (isiD d T || isiD d U) := by
  refine kitAny_cons (kit_ty (kit_all h1 d)) (fun z => ?_) (fun z => by rw [z]; rfl)
  rw [z, Bool.false_or]
  refine kitAny_cons (kit_ty (kit_all h2 d)) (fun z => ?_) (fun z => z)
  rw [z]; rfl
theorem de_isi2 {T U : String} {x y z : Str} {p1 p2 : Pos} {k : Nat} {tpos : Pos} (ha : PE X a (tD c E fa)) (hT : kitAll T = true) (hU : kitAll U = true) (hK : c.K = X.K) (hg : Gl X x) (hm : X.mg x = none) (hv : bootBuiltins x = some (.builtin "isinstance")) (hg2 : Gl X y) (hm2 : X.mg y = none) (hv2 : bootBuiltins y = some (.type T))
    (hg3 : Gl X z) (hm3 : X.mg z = none) (hv3 : bootBuiltins z = some (.type U))
    (hn : x ≠ "__name__" := by decide) (hdb : (x == ("__debug__" : Str)) = false := by decide) (hn2 : y ≠ "__name__" := by decide) (hdb2 : (y == ("__debug__" : Str)) = false := by decide) (hn3 : z ≠ "__name__" := by decide) (hdb3 : (z == ("__debug__" : Str)) = false := by decide)
    (hs : starEach [a, .Tuple [.Name y p1, .Name z p2] k tpos] X.env = (false, eval a X.env) :: starEach [.Tuple [.Name y p1, .Name z p2] k tpos] X.env := by rfl) (hs2 : starEach [.Tuple [.Name y p1, .Name z p2] k tpos] X.env = (false, eval (.Tuple [.Name y p1, .Name z p2] k tpos) X.env) :: starEach [] X.env := by rfl)
    (hs3 : starEach [.Name y p1, .Name z p2] X.env = (false, eval (.Name y p1) X.env) :: starEach [.Name z p2] X.env := by rfl) (hs4 : starEach [.Name z p2] X.env = (false, eval (.Name z p2) X.env) :: starEach [] X.env := by rfl)
    (hpl : (backTo pos (starEach [.Tuple [.Name y p1, .Name z p2] k tpos] X.env)).any (·.1) = false := by rfl) :
    PE X (.Call (.Name x p) [a, .Tuple [.Name y p1, .Name z p2] k tpos] [] pos) (tD c E (eIsi2 T U fa)) :=
  PE.imp (pe_callB call_isiT hg hm hv (pa_cons ha (pa_cons (pe_tup (pa_cons (pe_bltn (v := .ty T) hg2 hm2 hv2 rfl hn2 hdb2) (pa_cons (pe_bltn (v := .ty U) hg3 hm3 hv3 rfl hn3 hdb3) pa_nil hs4) hs3)) pa_nil hs2) hs) hn hdb hs hpl) fun σ H Q ⟨Hs, G, δ, S, q⟩ =>
  ⟨Hs, G, δ, S, PoG.seq q fun d δ1 Hs1 H1 s1 q1 v S1 r1 => by
    refine ⟨(show 2 ≤ sizeLine by decide), fun t ht => ⟨v, t, [.ty T, .ty U], .type (tyN d), [.type T, .type U], isiD d T || isiD d U, rfl, upd_same, .cons (.ty T) (.cons (.ty U) .nil), ?_, kit_two hT hU d, ?_⟩⟩
    · rw [← hK]; exact same_tyx (S1.sh.trans (same_new ht)) r1
    · exact q1 Hs1 _ (Same.refl _) _ (S1.loose ht) (.bl _)⟩
theorem uCk {F : List D → Re D} {m n : Nat} {ix : List Nat} {f1 f2 : En → Re (List D)} (h : PE X e (tD c E (eCk m n ix F (Pu f1) (Pu f2)))) : PE X e (tD c E (Pu (pCk m n ix F f1 f2))) := eCk_pu F f1 f2 ▸ h
/-- a promise that is never asked -/
theorem fn_bad {P : Program} {w : World} {K : PySem.W.Frag} {mg : Str → Option Value} {base : Heap} {CX : CXT} {k : Nat} {f : Addr} {fd : FuncData} {ps : List Str} : FnOkG P w K mg base CX k f fd ps (spP K mg fun _ => .bad) :=
  ⟨fun vs H Q E ⟨_, _, _, _, h⟩ => h.elim, fun A outer s H args us vs Q E hr he hb hv ⟨_, _, _, _, h⟩ => h.elim⟩
variable {kws : List Keyword} {f1 f2 : En → Re (List D × En)} {k m n : Nat} {x : Str} {ps ks : List Str} {ix : List Nat}
theorem v_ckF {F : List D → Re (List D)} {t : TA} (ht : ∀ σ H Q, tA c E f1 σ H Q → t σ H Q) {Q : VK} (h : tF c E (eCk m n ix F f1 f2) σ H Q) : tCallK (spPF c.K c.mg F) (gK m n ix) E t (tA c E f2) σ H Q := by
  obtain ⟨Hs, G, δ, S, q⟩ := h
  refine ht σ H _ ⟨Hs, G, δ, S, PoG.seq q fun ds δ1 Hs1 H1 s1 q1 vs S1 r1 => ⟨Hs1, G, δ1, S1, PoG.seq q1 fun es δ2 Hs2 H2 s2 q2 ws S2 r2 => ?_⟩⟩
  simp only at q2
  split at q2
  · rename_i z
    have e : gK m n ix vs ws = pick ix (vs ++ ws) := if_pos ⟨(dpa_len r1).trans z.1, (dpa_len r2).trans z.2⟩
    rw [e]
    exact v_crF (F := F) S2 (rpa_pick (dpa_append (dpa_mono s2 r1) r2) ix) q2
  · exact q2.elim
theorem de_ckF {F : List D → Re (List D)} (hD : DnK X.prog X.w X.K X.mg X.base k x ps ks m n ix (spPF X.K X.mg F)) (hr : RoomG k X.A) (hg : Gl X x) (hx : Passes (L2.CX X.prog X.w) X E) (hK : c.K = X.K) (hM : c.mg = X.mg)
    (ha : PA X (e :: es) (tA c E f1)) (hkw : PK X kws (tA c E f2)) (hall : (backToKw pos (keywordEach kws X.env)).all (·.1.isSome) = true := by rfl) (hks : (backToKw pos (keywordEach kws X.env)).filterMap (·.1) = ks := by rfl)
    (hdb : (x == ("__debug__" : Str)) = false := by decide) (he : starEach (e :: es) X.env = (false, eval e X.env) :: starEach es X.env := by rfl)
    (hpl : ((backTo pos (starEach (e :: es) X.env)).any (·.1) || (backToKw pos (keywordEach kws X.env)).any (·.1.isNone)) = false := by rfl) :
    PE X (.Call (.Name x p) (e :: es) kws pos) (tF c E (eCk m n ix F f1 f2)) := by
  obtain ⟨f, fd, Fo, hm, hk, hb⟩ := hD.ex
  refine PE.imp (pe_callKG Fo hr hg hm hk hb hx ha hkw hall hks hdb he hpl) fun σ H Q h => ?_
  rw [← hK, ← hM]
  exact v_ckF (fun _ _ _ z => z) h
theorem de_ck0F {F : List D → Re (List D)} (hD : DnK X.prog X.w X.K X.mg X.base k x ps ks 0 n ix (spPF X.K X.mg F)) (hr : RoomG k X.A) (hg : Gl X x) (hx : Passes (L2.CX X.prog X.w) X E) (hK : c.K = X.K) (hM : c.mg = X.mg)
    (hkw : PK X kws (tA c E f2)) (hall : (backToKw pos (keywordEach kws X.env)).all (·.1.isSome) = true := by rfl) (hks : (backToKw pos (keywordEach kws X.env)).filterMap (·.1) = ks := by rfl)
    (hdb : (x == ("__debug__" : Str)) = false := by decide) (hpl : ((backTo pos (starEach [] X.env)).any (·.1) || (backToKw pos (keywordEach kws X.env)).any (·.1.isNone)) = false := by rfl) :
    PE X (.Call (.Name x p) [] kws pos) (tF c E (eCk 0 n ix F (Pu pNil) f2)) := by
  obtain ⟨f, fd, Fo, hm, hk, hb⟩ := hD.ex
  refine PE.imp (pe_ck0G Fo hr hg hm hk hb hx hkw hall hks hdb hpl) fun σ H Q h => ?_
  rw [← hK, ← hM]
  exact v_ckF (t := tNil) (fun σ H Q ⟨Hs, G, δ, S, q⟩ => q Hs H (Same.refl _) [] S .nil) h
theorem uCkF {F : List D → Re (List D)} {m n : Nat} {ix : List Nat} {f1 f2 : En → Re (List D)} (h : PE X e (tF c E (eCk m n ix F (Pu f1) (Pu f2)))) : PE X e (tF c E (Pu (pCk m n ix F f1 f2))) := eCk_pu F f1 f2 ▸ h
end
end DL

/-! DL13: new lists side by side; [x] * n -/
namespace DL
open PySem L2
section
variable {X : Cx} {c : DC} {E : XK} {e a b : Expr} {pos : Pos} {fa fb : En → Re (D × En)} {ga gb : En → Re (List D × En)} {Hs Hs' G G' H H' : Hp} {σ σ' : St} {δ δ' : En} {p : Addr} {o : HO}
/-- a list that nobody owns yet is hidden for a while -/
theorem Sat.hideL (S : Sat c Hs G H σ δ) (L : Loose c Hs G H σ δ p) (h : H p = some o) : Sat c Hs (upd G p o) H σ δ :=
  S.keep ⟨S.bs, S.sh, fun b u e => by
      by_cases hb : b = p
      · subst hb; rw [upd_same] at e; rw [h]; exact e
      · rw [upd_ne hb] at e; exact S.gm b u e, S.nw, S.hin, fun b u u' e e' => by
      by_cases hb : b = p
      · subst hb; rw [L.s] at e'; cases e'
      · rw [upd_ne hb] at e; exact S.gs b u u' e e'⟩ (Same.refl _) (fun j s b u _ _ e => e) (fun j s b hj f => (foot_own (S.sl j s hj) f).1.1) fun j s b hj f => by
    have hb : b ≠ p := by rintro rfl; exact L.f j s hj f
    rw [upd_ne hb]; exact (foot_own (S.sl j s hj) f).1.2.1
theorem Sat.unhide (S : Sat c Hs (upd G p o) H σ δ) (hg : G p = none) (hi : c.Hin p = none) : Sat c Hs G H σ δ ∧ Loose c Hs G H σ δ p ∧ H p = some o := by
  have hp : H p = some o := S.gm p o upd_same
  have hs : Hs p = none := by
    cases q : Hs p with
    | none => rfl
    | some u =>
      obtain ⟨z, e⟩ := S.gs p o u upd_same q
      rw [hi] at e; cases e
  have gg : Same G (upd G p o) := same_new hg
  have nf : ∀ (j : Nat) (s : Sl) (b : Addr), δ[j]? = some s → Foot H σ[j]? s b → b ≠ p := fun j s b hj f e => by
    subst e
    have := (foot_own (S.sl j s hj) f).1.2.1
    rw [upd_same] at this; cases this
  refine ⟨S.keep ⟨S.bs, S.sh, gg.trans S.gm, S.nw, S.hin, fun b u u' e e' => S.gs b u u' (gg b u e) e'⟩ (Same.refl _) (fun j s b u _ _ e => e) (fun j s b hj f => (foot_own (S.sl j s hj) f).1.1) (fun j s b hj f => ?_), ⟨hs, hg, hi, fun j s hj f => nf j s p hj f rfl⟩, hp⟩
  have := (foot_own (S.sl j s hj) f).1.2.1
  rw [upd_ne (nf j s b hj f)] at this; exact this
theorem Frm.unhide (S : Frm c Hs G' H) (gg : Same G G') : Frm c Hs G H := ⟨S.bs, S.sh, gg.trans S.gm, S.nw, S.hin, fun b u u' e e' => S.gs b u u' (gg b u e) e'⟩
theorem PoG.seqG {α β : Type} {W : β → En → Hp → Hp → Prop} {W' : α → En → Hp → Hp → Prop} {r : Re (α × En)} {k : α × En → Re (β × En)} (gg : Same G G') (h : PoG c E Hs G W (r.bd k))
    (w : ∀ a δ' Hs' H', Same Hs Hs' → PoG c E Hs' G W (k (a, δ')) → W' a δ' Hs' H') : PoG c E Hs G' W' r := by
  cases r with
  | bad => exact h
  | er e => exact fun Hs' H' s F => h Hs' H' s (F.unhide gg)
  | ok x => exact fun Hs' H' s => w x.1 x.2 Hs' H' s (PoG.mono s h)
theorem PoS.seqG {α : Type} {De : Ends} {W' : α → En → Hp → Hp → Prop} {r : Re (α × En)} {k : α × En → Re Fl} (gg : Same G G') (h : PoS c E Hs G De (r.bd k))
    (w : ∀ a δ' Hs' H', Same Hs Hs' → PoS c E Hs' G De (k (a, δ')) → W' a δ' Hs' H') : PoG c E Hs G' W' r := by
  cases r with
  | bad => exact h
  | er e => exact fun Hs' H' s F => h Hs' H' s (F.unhide gg)
  | ok x => exact fun Hs' H' s => w x.1 x.2 Hs' H' s (PoS.mono s h)
theorem Loose.set {i : Nat} {ds : List D} {q : Addr} (L : Loose c Hs G H σ δ p) (hl : σ.length = δ.length) (ne : p ≠ q) : Loose c Hs G H (σ.set i (some (.ref q))) (δ.set i (.ow ds)) p := ⟨L.s, L.g, L.i, fun j s hj f => by
  by_cases e : i = j
  · subst e
    have hlt : i < δ.length := by
      have := (List.getElem?_eq_some_iff.mp hj).1
      simpa using this
    rw [List.getElem?_set_self hlt] at hj
    cases hj
    rw [List.getElem?_set_self (by rw [hl]; exact hlt)] at f
    exact ne f
  · rw [List.getElem?_set_ne e] at hj f
    exact L.f j s hj f⟩
theorem Loose.set' {i : Nat} {d : D} {v : V} (L : Loose c Hs G H σ δ p) : Loose c Hs G H (σ.set i (some v)) (δ.set i (.sh d)) p := ⟨L.s, L.g, L.i, fun j s hj f => by
  by_cases e : i = j
  · subst e
    have hlt : i < δ.length := by
      have := (List.getElem?_eq_some_iff.mp hj).1
      simpa using this
    rw [List.getElem?_set_self hlt] at hj
    cases hj
    exact foot_sh f
  · rw [List.getElem?_set_ne e] at hj f
    exact L.f j s hj f⟩
/-- x, y = a, b with new lists (local names) -/
def paFF (i j : Nat) (ga gb : En → Re (List D × En)) : En → Re Fl := fun δ => (ga δ).bd fun p => (gb p.2).bd fun q => .ok (.nx ((q.2.set i (.ow p.1)).set j (.ow q.1)))
theorem ds_parFF {i j : Nat} {x y : Str} {px py pt : Pos} {kt k2 : Nat} {pt2 : Pos} (hm : i ∉ c.mi) (hm2 : j ∉ c.mi) (hc : X.calm = true) (hN : X.N.Nodup) (hi : X.N[i]? = some x) (hj : X.N[j]? = some y) (hij : i ≠ j)
    (hx : X.env.scope.names.lookup x = some .local) (hy : X.env.scope.names.lookup y = some .local) (ha : PE X a (tF c E ga)) (hb : PE X b (tF c E gb))
    (hw : swappedStores [.Tuple [.Name x px, .Name y py] kt pt] (.Tuple [a, b] k2 pt2) X.env = pure (some [x, y]))
    (hs1 : starEach [a, b] X.env = (false, eval a X.env) :: starEach [b] X.env := by rfl) (hs2 : starEach [b] X.env = (false, eval b X.env) :: starEach [] X.env := by rfl)
    (hs : swapsWithSole [.Tuple [.Name x px, .Name y py] kt pt] (.Tuple [a, b] k2 pt2) pos.line X.env = pure false := by rfl) :
    PS X (.Assign [.Tuple [.Name x px, .Name y py] kt pt] (.Tuple [a, b] k2 pt2) pos) (tS c E (paFF i j ga gb)) := PS.imp (ps_par hc hN hi hj hij hx hy (pa_cons ha (pa_cons hb pa_nil hs2) hs1) hw hs) fun σ H De ⟨Hs, G, δ, S, q⟩ =>
  ⟨Hs, G, δ, S, PoS.seq q fun ds δ1 Hs1 H1 s1 q1 p xs S1 L1 h1 r1 => by
    have gg : Same G (upd G p (.lst xs)) := same_new L1.g
    refine ⟨Hs1, upd G p (.lst xs), δ1, S1.hideL L1 h1, PoS.seqG gg q1 fun es δ2 Hs2 H2 s2 q2 p2 ys S2 L2 h2 r2 => ?_⟩
    obtain ⟨S3, L3, hp⟩ := S2.unhide L1.g L1.i
    have ne : p2 ≠ p := fun e => by
      have := L2.g
      rw [e, upd_same] at this; cases this
    have L4 : Loose c Hs2 G H2 σ δ2 p2 := ⟨L2.s, by have := L2.g; rw [upd_ne ne] at this; exact this, L2.i, L2.f⟩
    exact ⟨.ref p, .ref p2, rfl, q2 _ Hs2 H2 (Same.refl _) ((S3.setOw hm L3 hp (dpa_mono s2 r1)).setOw hm2 (L4.set S3.ln.symm ne) h2 r2)⟩⟩
/-- [..] * n -/
def gRep (l : List D) : D → Option (List D)
  | .int k => if (-(2 ^ 63) ≤ k ∧ k < 2 ^ 63) ∧ l.length * k.toNat ≤ 1000000 then some (List.replicate k.toNat l).flatten else none
  | _ => none
theorem gRep_inv {l r : List D} {d : D} (h : gRep l d = some r) : ∃ k : Int, d = .int k ∧ (-(2 ^ 63) ≤ k ∧ k < 2 ^ 63) ∧ l.length * k.toNat ≤ 1000000 ∧ r = (List.replicate k.toNat l).flatten := by
  unfold gRep at h
  split at h
  · split at h
    · rename_i k hk; cases h; exact ⟨k, rfl, hk.1, hk.2, rfl⟩
    · cases h
  · cases h
def eRep (ga : En → Re (List D × En)) (fb : En → Re (D × En)) : En → Re (List D × En) := fun δ => (ga δ).bd fun p => (fb p.2).bd fun q => (opt (gRep p.1 q.1)).bd fun d => .ok (d, q.2)
def pRep (ga : En → Re (List D)) (fb : En → Re D) : En → Re (List D) := fun δ => (ga δ).bd fun p => (fb δ).bd fun q => opt (gRep p q)
theorem eRep_pu (ga : En → Re (List D)) (fb : En → Re D) : eRep (Pu ga) (Pu fb) = Pu (pRep ga fb) := by
  funext δ; unfold eRep Pu pRep
  cases ga δ with
  | ok x =>
    simp only [Re.bd_ok]
    cases fb δ with
    | ok y => simp only [Re.bd_ok]
    | _ => rfl
  | _ => rfl
theorem rpa_rep {K : PySem.W.Frag} {xs : List V} {ds : List D} (r : RpAll K Hs xs ds) : ∀ k : Nat, RpAll K Hs (List.replicate k xs).flatten (List.replicate k ds).flatten
  | 0 => .nil
  | k + 1 => by
    rw [List.replicate_succ, List.replicate_succ, List.flatten_cons, List.flatten_cons]
    exact dpa_append r (rpa_rep r k)
theorem de_rep (ha : PE X a (tF c E ga)) (hb : PE X b (tD c E fb)) : PE X (.BinOp a .Mult b pos) (tF c E (eRep ga fb)) := PE.imp (pe_op op_rep ha hb) fun σ H Q ⟨Hs, G, δ, S, q⟩ =>
  ⟨Hs, G, δ, S, PoG.seq q fun ds δ1 Hs1 H1 s1 q1 p xs S1 L1 h1 r1 => by
    have gg : Same G (upd G p (.lst xs)) := same_new L1.g
    refine ⟨Hs1, upd G p (.lst xs), δ1, S1.hideL L1 h1, PoG.seqG gg q1 fun dk δ2 Hs2 H2 s2 q2 y S2 r2 => ?_⟩
    obtain ⟨S3, L3, hp⟩ := S2.unhide L1.g L1.i
    obtain ⟨d, hd, q3⟩ := PoG.last (k := fun d => (d, δ2)) q2
    obtain ⟨k, rfl, hk1, hk2, rfl⟩ := gRep_inv hd
    cases r2
    have hz : xs.length * k.toNat ≤ sizeLine := by rw [dpa_len r1]; exact Nat.le_trans hk2 (by decide)
    refine ⟨p, k, xs, rfl, rfl, hp, hk1.1, hk1.2, hz, fun p2 hp2 => ?_⟩
    exact q3 Hs2 _ (Same.refl _) p2 _ (S3.loose hp2) (S3.loose_of hp2) upd_same (rpa_rep (dpa_mono s2 r1) k.toNat)⟩
theorem uRep {ga : En → Re (List D)} {fb : En → Re D} (h : PE X e (tF c E (eRep (Pu ga) (Pu fb)))) : PE X e (tF c E (Pu (pRep ga fb))) := eRep_pu ga fb ▸ h
/-! text * number -/
theorem op_mulS : OpR X (binaryOp .Mult) (fun x y H Q => ∃ (a : Str) (n : Int), x = .str a ∧ y = .int n ∧ MulOk a n ∧ Q (.str (Txt.mul a n)) H) := by
  intro pins s σ H x y v u Q I rx ry h
  obtain ⟨a, n, rfl, rfl, ok, q⟩ := h
  obtain ⟨t, rfl⟩ := rx
  obtain ⟨t', rfl⟩ := ry
  exact SB.mul ok fun t' tk => ⟨.str _, H, I.tok _, ⟨_, rfl⟩, q⟩
def gMulA : D → D → Option D
  | .int i, .int j => gMul (.int i) (.int j)
  | .str a, .int n => if a.length ≤ 1000 ∧ n ≤ 1000 ∧ -1000 ≤ n then some (.str (Txt.mul a n)) else none
  | _, _ => none
theorem vMulA : VOp2 c (fun x y H Q => rI CMulW (fun i j => .int (i * j)) x y H Q ∨ ∃ (a : Str) (n : Int), x = .str a ∧ y = .int n ∧ MulOk a n ∧ Q (.str (Txt.mul a n)) H) gMulA := VOp2.of fun Hs H x y dx dy d s rx ry e => by
  cases rx with
  | int i => cases ry with
    | int j =>
      have e' : gMul (.int i) (.int j) = some d := e
      simp only [gMul] at e'
      split at e'
      · rename_i h; cases e'; exact ⟨_, .int _, fun Q q => .inl ⟨i, j, rfl, rfl, h, q⟩⟩
      · cases e'
    | _ => cases e
  | str a => cases ry with
    | int n =>
      simp only [gMulA] at e
      split at e
      · rename_i h; cases e; exact ⟨_, .str _, fun Q q => .inr ⟨a, n, rfl, rfl, PyProof.Rows.mulOk_of 1000 1000 h.1 h.2.1 (by omega) (by decide) (by decide), q⟩⟩
      · cases e
    | _ => cases e
  | _ => cases e
theorem e_mulA (ha : PE X a (tD c E fa)) (hb : PE X b (tD c E fb)) : PE X (.BinOp a .Mult b pos) (tD c E (eOp gMulA fa fb)) := de_bin (OpR.or op_mulW op_mulS) vMulA ha hb
end
end DL

/-! DL14: repr of data -/
namespace DL
open PySem L2
def rpOk (d : D) : Bool := d.showable && !d.hasDict && decide (d.depth ≤ 64) && decide (d.shown.length ≤ 1000000)
def gRepr : List D → Option D
  | [d] => if rpOk d then some (.str d.shown) else none
  | _ => none
theorem rpOk_spec {d : D} (h : rpOk d = true) : d.showable = true ∧ d.hasDict = false ∧ d.depth ≤ 64 ∧ d.shown.length ≤ 1000000 := by
  unfold rpOk at h
  simp only [Bool.and_eq_true, decide_eq_true_eq, Bool.not_eq_true'] at h
  exact ⟨h.1.1.1, h.1.1.2, h.1.2, h.2⟩
section
variable {X : Cx} {c : DC} {E : XK} {e : Expr} {p pos : Pos} {fr : En → Re (List D × En)} {k : Nat}
theorem call_reprD (gd : X.A.guards = some []) (hu : X.A.units + 66 < cLine) : CallR X (.builtin "repr") (fun xs H Q => ∃ v d, xs = [v] ∧ Rp X.K H v d ∧ rpOk d = true ∧ Q (.str d.shown) H) := by
  intro pins s σ H xs us Q I r h
  obtain ⟨v, d, rfl, rd, ok, q⟩ := h
  obtain ⟨o1, o2, o3, o4⟩ := rpOk_spec ok
  obtain ⟨u, rfl, ru⟩ := vals1 r
  have hsz : d.shown.length ≤ sizeLine := Nat.le_trans o4 (by decide)
  cases rd with
  | non =>
    cases ru
    exact PySem.P.repr_of_none ⟨.str _, H, I.tok _, ⟨_, rfl⟩, q⟩
  | bl b =>
    cases ru
    refine PySem.P.repr_of_bool ⟨.str _, H, I.tok _, ⟨_, rfl⟩, ?_⟩
    cases b <;> exact q
  | int i =>
    obtain ⟨t, rfl⟩ := ru
    exact PySem.P.repr_of_int (of_decide_eq_true o1) ⟨.str _, H, I.tok _, ⟨_, rfl⟩, q⟩
  | str x =>
    obtain ⟨t, rfl⟩ := ru
    exact PySem.P.repr_of_str (hsz := hsz) ⟨.str _, H, I.tok _, ⟨_, rfl⟩, q⟩
  | @lst a ys ds h1 h2 =>
    cases ru
    obtain ⟨as, rr⟩ := Dp.reads I _ _ _ (Rp.dp (.lst h1 h2)) rfl
    exact repr_of_reads' rr o1 (fun z => by rw [o2] at z; cases z) gd (by omega) (fun b o z => z) (fun h' u tk kp => ⟨.str _, H, I.kept kp, ⟨_, rfl⟩, q⟩) hsz
  | @tup a ys ds h1 h2 =>
    cases ru
    obtain ⟨as, rr⟩ := Dp.reads I _ _ _ (Rp.dp (.tup h1 h2)) rfl
    exact repr_of_reads' rr o1 (fun z => by rw [o2] at z; cases z) gd (by omega) (fun b o z => z) (fun h' u tk kp => ⟨.str _, H, I.kept kp, ⟨_, rfl⟩, q⟩) hsz
theorem vRepr : VCall c (fun xs H Q => ∃ v d, xs = [v] ∧ Rp c.K H v d ∧ rpOk d = true ∧ Q (.str d.shown) H) gRepr := VCall.of fun Hs H vs ds d s r e => by
  unfold gRepr at e
  split at e
  · split at e
    · rename_i d0 ok
      cases e
      obtain ⟨v, rfl, rv⟩ := rpa1 r
      exact ⟨_, .str _, fun Q q => ⟨v, d0, rfl, dp_mono s rv, ok, q⟩⟩
    · cases e
  · cases e
theorem e_repr (hr : RoomG k X.A) (hm : X.mg "repr" = none) (ha : PA X [e] (tA c E fr)) (hK : c.K = X.K := by rfl) (hg : Gl X "repr" := by rfl) (he : starEach [e] X.env = (false, eval e X.env) :: starEach [] X.env := by rfl) :
    PE X (.Call (.Name "repr" p) [e] [] pos) (tD c E (eCa gRepr fr)) := de_callB (call_reprD hr.gd (room65 hr)) (hK ▸ vRepr) hg hm (by decide +kernel) ha (he := he)
end
end DL

/-! FT: forests, plain -/
namespace FT
abbrev Ed := Nat × Nat
def Adj (es : List Ed) (a b : Nat) : Prop := (a, b) ∈ es ∨ (b, a) ∈ es
inductive Cn (es : List Ed) (a : Nat) : Nat → Prop
  | refl : Cn es a a
  | tail {b c : Nat} : Cn es a b → Adj es b c → Cn es a c
theorem Adj.symm {es : List Ed} {a b : Nat} (h : Adj es a b) : Adj es b a := Or.symm h
theorem Adj.mono {es fs : List Ed} (s : ∀ p ∈ es, p ∈ fs) {a b : Nat} (h : Adj es a b) : Adj fs a b := h.imp (s _) (s _)
theorem Cn.mono {es fs : List Ed} (s : ∀ p ∈ es, p ∈ fs) {a b : Nat} (h : Cn es a b) : Cn fs a b := by
  induction h with
  | refl => exact .refl
  | tail _ e ih => exact .tail ih (e.mono s)
theorem Cn.trans {es : List Ed} {a b c : Nat} (h : Cn es a b) (k : Cn es b c) : Cn es a c := by
  induction k with
  | refl => exact h
  | tail _ e ih => exact .tail ih e
theorem Cn.one {es : List Ed} {a b : Nat} (h : Adj es a b) : Cn es a b := .tail .refl h
theorem Cn.symm {es : List Ed} {a b : Nat} (h : Cn es a b) : Cn es b a := by
  induction h with
  | refl => exact .refl
  | tail _ e ih => exact (Cn.one e.symm).trans ih
theorem cn_cons {p : Ed} {es : List Ed} {a b : Nat} : Cn (p :: es) a b ↔ Cn es a b ∨ (Cn es a p.1 ∧ Cn es p.2 b) ∨ (Cn es a p.2 ∧ Cn es p.1 b) := by
  constructor
  · intro h
    induction h with
    | refl => exact .inl .refl
    | @tail b c _ e ih =>
      have e' : (b = p.1 ∧ c = p.2) ∨ (b = p.2 ∧ c = p.1) ∨ Adj es b c := by
        rcases e with e | e
        · rcases List.mem_cons.mp e with e | e
          · exact .inl ⟨congrArg Prod.fst e, congrArg Prod.snd e⟩
          · exact .inr (.inr (.inl e))
        · rcases List.mem_cons.mp e with e | e
          · exact .inr (.inl ⟨congrArg Prod.snd e, congrArg Prod.fst e⟩)
          · exact .inr (.inr (.inr e))
      rcases e' with ⟨rfl, rfl⟩ | ⟨rfl, rfl⟩ | e'
      · rcases ih with ih | ⟨i1, i2⟩ | ⟨i1, i2⟩
        · exact .inr (.inl ⟨ih, .refl⟩)
        · exact .inr (.inl ⟨i1, .refl⟩)
        · exact .inl i1
      · rcases ih with ih | ⟨i1, i2⟩ | ⟨i1, i2⟩
        · exact .inr (.inr ⟨ih, .refl⟩)
        · exact .inl i1
        · exact .inr (.inr ⟨i1, .refl⟩)
      · rcases ih with ih | ⟨i1, i2⟩ | ⟨i1, i2⟩
        · exact .inl (.tail ih e')
        · exact .inr (.inl ⟨i1, .tail i2 e'⟩)
        · exact .inr (.inr ⟨i1, .tail i2 e'⟩)
  · have m : ∀ {x y}, Cn es x y → Cn (p :: es) x y := fun h => h.mono fun q hq => List.mem_cons_of_mem _ hq
    have e : Adj (p :: es) p.1 p.2 := .inl (List.mem_cons_self ..)
    rintro (h | ⟨h1, h2⟩ | ⟨h1, h2⟩)
    · exact m h
    · exact ((m h1).trans (.one e)).trans (m h2)
    · exact ((m h1).trans (.one e.symm)).trans (m h2)
theorem cn_nil {a b : Nat} : Cn [] a b ↔ a = b := by
  constructor
  · intro h
    induction h with
    | refl => rfl
    | tail _ e ih => rcases e with e | e <;> cases e
  · rintro rfl; exact .refl
/-- no cycle: each edge joins two trees of those behind it -/
def Ac : List Ed → Prop
  | [] => True
  | p :: es => Ac es ∧ ¬ Cn es p.1 p.2
theorem Cn.perm {es fs : List Ed} (h : es.Perm fs) {a b : Nat} : Cn es a b ↔ Cn fs a b :=
  ⟨Cn.mono fun p hp => h.subset hp, Cn.mono fun p hp => h.symm.subset hp⟩
theorem ac_swap {p q : Ed} {es : List Ed} (h : Ac (p :: q :: es)) : Ac (q :: p :: es) := by
  obtain ⟨⟨h1, h2⟩, h3⟩ := h
  have m : ∀ {x y}, Cn es x y → Cn (q :: es) x y := fun h => h.mono fun q hq => List.mem_cons_of_mem _ hq
  have e : Cn (q :: es) q.1 q.2 := .one (.inl (List.mem_cons_self ..))
  refine ⟨⟨h1, fun z => h3 (m z)⟩, fun z => ?_⟩
  rcases cn_cons.mp z with z | ⟨z1, z2⟩ | ⟨z1, z2⟩
  · exact h2 z
  · exact h3 (((m z1.symm).trans e).trans (m z2.symm))
  · exact h3 (((m z2).trans e.symm).trans (m z1))
theorem Ac.perm {es fs : List Ed} (h : es.Perm fs) : Ac es → Ac fs := by
  induction h with
  | nil => exact id
  | cons p h ih => exact fun ⟨a, b⟩ => ⟨ih a, fun z => b ((Cn.perm h).mpr z)⟩
  | swap p q es => exact ac_swap
  | trans _ _ i1 i2 => exact i2 ∘ i1
theorem ac_perm {es fs : List Ed} (h : es.Perm fs) : Ac es ↔ Ac fs := ⟨Ac.perm h, Ac.perm h.symm⟩
theorem Ac.tail {p : Ed} {es : List Ed} (h : Ac (p :: es)) : Ac es := h.1
theorem Ac.sub {es fs : List Ed} (h : es.Sublist fs) : Ac fs → Ac es := by
  induction h with
  | slnil => exact id
  | cons p _ ih => exact fun a => ih a.1
  | cons_cons p s ih => exact fun a => ⟨ih a.1, fun z => a.2 (z.mono fun q hq => s.subset hq)⟩
theorem Ac.nodup {es : List Ed} (h : Ac es) : es.Nodup := by
  induction es with
  | nil => exact List.nodup_nil
  | cons p es ih => exact List.nodup_cons.mpr ⟨fun z => h.2 (.one (.inl z)), ih h.1⟩
theorem Ac.ne {es : List Ed} (h : Ac es) : ∀ p ∈ es, p.1 ≠ p.2 := by
  induction es with
  | nil => exact fun p hp => absurd hp (List.not_mem_nil)
  | cons p es ih =>
    intro q hq
    rcases List.mem_cons.mp hq with rfl | hq
    · intro e; exact h.2 (e ▸ .refl)
    · exact ih h.1 q hq
/-- a position without edges is by itself -/
theorem cn_off {es : List Ed} {v w : Nat} (h : ∀ p ∈ es, p.1 ≠ v ∧ p.2 ≠ v) (c : Cn es v w) : w = v := by
  induction c with
  | refl => rfl
  | tail _ e ih =>
    subst ih
    rcases e with e | e
    · exact absurd rfl (h _ e).1
    · exact absurd rfl (h _ e).2
/-- all edges lie within a set: so does what is joined -/
theorem cn_in {es : List Ed} {S : Nat → Prop} (h : ∀ p ∈ es, S p.1 ∧ S p.2) {v w : Nat} (hv : S v) (c : Cn es v w) : S w := by
  induction c with
  | refl => exact hv
  | tail _ e ih => rcases e with e | e
                   · exact (h _ e).2
                   · exact (h _ e).1
/-- a closed set holds all that is joined -/
theorem cn_closed {es : List Ed} {S : Nat → Prop} (h : ∀ p ∈ es, S p.1 ↔ S p.2) {v w : Nat} (c : Cn es v w) : S v ↔ S w := by
  induction c with
  | refl => exact Iff.rfl
  | tail _ e ih => rcases e with e | e
                   · exact ih.trans (h _ e)
                   · exact ih.trans (h _ e).symm
theorem nodup_le : ∀ (n : Nat) (l : List Nat), l.Nodup → (∀ x ∈ l, x < n) → l.length ≤ n
  | 0, l, _, h => by
    cases l with
    | nil => exact Nat.le_refl _
    | cons x l => exact absurd (h x (List.mem_cons_self ..)) (Nat.not_lt_zero _)
  | n + 1, l, d, h => by
    have := nodup_le n (l.erase n) (d.erase n) fun x hx => by
      have := (List.Nodup.mem_erase_iff d).mp hx
      have := h x this.2
      omega
    rw [List.length_erase] at this
    split at this <;> omega
/-! ### labels: a list that says which are joined -/
def Lab (n : Nat) (es : List Ed) (ls : List Nat) : Prop := ls.length = n ∧ ∀ i j, (hi : i < ls.length) → (hj : j < ls.length) → (ls[i] = ls[j] ↔ Cn es i j)
theorem lab_nil (n : Nat) : Lab n [] (List.range n) := ⟨List.length_range, fun i j hi hj => by
  rw [cn_nil]; simp⟩
abbrev relab (kept gone : Nat) (ls : List Nat) : List Nat := ls.map fun l => if l = gone then kept else l
theorem Lab.step {n : Nat} {es : List Ed} {ls : List Nat} (h : Lab n es ls) {p : Ed} (h1 : p.1 < ls.length) (h2 : p.2 < ls.length) {k g : Nat} (hk : (k = ls[p.1] ∧ g = ls[p.2]) ∨ (k = ls[p.2] ∧ g = ls[p.1])) : Lab n (p :: es) (relab k g ls) := by
  refine ⟨by rw [List.length_map]; exact h.1, fun i j hi hj => ?_⟩
  have hi' : i < ls.length := by rw [List.length_map] at hi; exact hi
  have hj' : j < ls.length := by rw [List.length_map] at hj; exact hj
  have e1 : (relab k g ls)[i] = if ls[i] = g then k else ls[i] := List.getElem_map ..
  have e2 : (relab k g ls)[j] = if ls[j] = g then k else ls[j] := List.getElem_map ..
  rw [e1, e2, cn_cons, ← h.2 i j hi' hj', ← h.2 i p.1 hi' h1, ← h.2 p.2 j h2 hj', ← h.2 i p.2 hi' h2, ← h.2 p.1 j h1 hj']
  rcases hk with ⟨rfl, rfl⟩ | ⟨rfl, rfl⟩ <;> split <;> split <;> omega
/-! ### growing a group by passes over the edges -/
def grow1 (f : List Nat) (p : Ed) : List Nat :=
  let f1 := if p.1 ∈ f ∧ p.2 ∉ f then f ++ [p.2] else f
  if p.2 ∈ f1 ∧ p.1 ∉ f1 then f1 ++ [p.1] else f1
def grow (es : List Ed) (f : List Nat) : List Nat := es.foldl grow1 f
def Grp (n : Nat) (all : List Ed) (v : Nat) (f : List Nat) : Prop := f.Nodup ∧ v ∈ f ∧ ∀ x ∈ f, Cn all v x
theorem grow1_sub {f : List Nat} {p : Ed} {x : Nat} (h : x ∈ f) : x ∈ grow1 f p := by
  unfold grow1
  simp only
  split <;> split <;> simp [h]
theorem grow1_len {f : List Nat} {p : Ed} : f.length ≤ (grow1 f p).length ∧ ((grow1 f p).length = f.length → grow1 f p = f) := by
  unfold grow1
  simp only
  split <;> split <;> simp
theorem grow1_clo {f : List Nat} {p : Ed} : p.1 ∈ grow1 f p ↔ p.2 ∈ grow1 f p := by
  unfold grow1
  simp only
  split
  · rename_i h
    split
    · rename_i h2; simp at h2; exact absurd h.1 h2.1
    · simp [h.1]
  · rename_i h
    split
    · rename_i h2; simp [h2.1]
    · rename_i h2
      constructor
      · intro z; exact Decidable.byContradiction fun y => h ⟨z, y⟩
      · intro z; exact Decidable.byContradiction fun y => h2 ⟨z, y⟩
theorem grow1_grp {n : Nat} {all : List Ed} {v : Nat} {f : List Nat} {p : Ed} (h : Grp n all v f) (hp : p ∈ all) : Grp n all v (grow1 f p) := by
  obtain ⟨h1, h2, h3⟩ := h
  have e : Adj all p.1 p.2 := .inl hp
  unfold grow1
  simp only
  split
  · rename_i z
    have q : Grp n all v (f ++ [p.2]) := ⟨by rw [List.nodup_append]; exact ⟨h1, by simp, fun a ha b hb => by simp at hb; subst hb; exact fun e => z.2 (e ▸ ha)⟩, by simp [h2], fun x hx => by
      rcases List.mem_append.mp hx with hx | hx
      · exact h3 x hx
      · simp at hx; subst hx; exact .tail (h3 _ z.1) e⟩
    split
    · rename_i y; simp at y; exact absurd z.1 y.1
    · exact q
  · split
    · rename_i z
      exact ⟨by rw [List.nodup_append]; exact ⟨h1, by simp, fun a ha b hb => by simp at hb; subst hb; exact fun e => z.2 (e ▸ ha)⟩, by simp [h2], fun x hx => by
      rcases List.mem_append.mp hx with hx | hx
      · exact h3 x hx
      · simp at hx; subst hx; exact .tail (h3 _ z.1) e.symm⟩
    · exact ⟨h1, h2, h3⟩
theorem grow_grp {n : Nat} {all : List Ed} {v : Nat} : ∀ {es : List Ed} {f : List Nat}, (∀ p ∈ es, p ∈ all) → Grp n all v f → Grp n all v (grow es f)
  | [], f, _, h => h
  | p :: es, f, s, h => grow_grp (es := es) (fun q hq => s q (List.mem_cons_of_mem _ hq)) (grow1_grp h (s p (List.mem_cons_self ..)))
theorem grow_len : ∀ {es : List Ed} {f : List Nat}, f.length ≤ (grow es f).length ∧ ((grow es f).length = f.length → grow es f = f ∧ ∀ p ∈ es, p.1 ∈ f ↔ p.2 ∈ f)
  | [], f => ⟨Nat.le_refl _, fun _ => ⟨rfl, fun p hp => absurd hp (List.not_mem_nil)⟩⟩
  | p :: es, f => by
    have a := grow1_len (f := f) (p := p)
    have b := grow_len (es := es) (f := grow1 f p)
    show f.length ≤ (grow es (grow1 f p)).length ∧ ((grow es (grow1 f p)).length = f.length → grow es (grow1 f p) = f ∧ _)
    refine ⟨Nat.le_trans a.1 b.1, fun e => ?_⟩
    have e1 : (grow1 f p).length = f.length := by have := a.1; have := b.1; omega
    have e2 := a.2 e1
    have e3 := b.2 (by omega)
    rw [e2] at e3
    refine ⟨by rw [e2]; exact e3.1, fun q hq => ?_⟩
    rcases List.mem_cons.mp hq with rfl | hq
    · have := grow1_clo (f := f) (p := q)
      rw [e2] at this; exact this
    · exact e3.2 q hq
def Clo (es : List Ed) (f : List Nat) : Prop := ∀ p ∈ es, p.1 ∈ f ↔ p.2 ∈ f
theorem grow1_noop {f : List Nat} {p : Ed} (h : p.1 ∈ f ↔ p.2 ∈ f) : grow1 f p = f := by
  unfold grow1
  simp only
  split
  · rename_i z; exact absurd (h.mp z.1) z.2
  · split
    · rename_i z; exact absurd (h.mpr z.1) z.2
    · rfl
theorem grow_noop : ∀ {es : List Ed} {f : List Nat}, Clo es f → grow es f = f
  | [], f, _ => rfl
  | p :: es, f, h => by
    show grow es (grow1 f p) = f
    rw [grow1_noop (h p (List.mem_cons_self ..))]
    exact grow_noop fun q hq => h q (List.mem_cons_of_mem _ hq)
def grows (es : List Ed) : Nat → List Nat → List Nat
  | 0, f => f
  | k + 1, f => grows es k (grow es f)
theorem grows_ok {n : Nat} {es : List Ed} {v : Nat} (hv : v < n) (hn : ∀ p ∈ es, p.1 < n ∧ p.2 < n) : ∀ (k : Nat) (f : List Nat), Grp n es v f → (Clo es f ∨ n + 1 ≤ f.length + k) → Grp n es v (grows es k f) ∧ Clo es (grows es k f)
  | 0, f, g, h => by
    refine ⟨g, ?_⟩
    rcases h with h | h
    · exact h
    · have := nodup_le n f g.1 fun x hx => cn_in (S := (· < n)) hn hv (g.2.2 x hx)
      omega
  | k + 1, f, g, h => by
    refine grows_ok hv hn k (grow es f) (grow_grp (fun _ => id) g) ?_
    by_cases c : Clo es f
    · rw [grow_noop c]; exact .inl c
    · have a := grow_len (es := es) (f := f)
      rcases h with h | h
      · exact absurd h c
      · refine .inr ?_
        have : (grow es f).length ≠ f.length := fun e => c (a.2 e).2
        have := a.1
        omega
theorem grows_iff {n : Nat} {es : List Ed} {v : Nat} (hv : v < n) (hn : ∀ p ∈ es, p.1 < n ∧ p.2 < n) (w : Nat) : w ∈ grows es n [v] ↔ Cn es v w := by
  have ⟨g, c⟩ := grows_ok hv hn n [v] ⟨by simp, by simp, fun x hx => by simp at hx; subst hx; exact .refl⟩ (.inr (by simp; omega))
  exact ⟨fun h => g.2.2 w h, fun h => (cn_closed (S := (· ∈ grows es n [v])) c h).mp g.2.1⟩
theorem grows_succ (es : List Ed) : ∀ (k : Nat) (f : List Nat), grows es (k + 1) f = grow es (grows es k f)
  | 0, _ => rfl
  | k + 1, f => grows_succ es k (grow es f)
theorem grows_grp {n : Nat} {es : List Ed} {v : Nat} : ∀ (k : Nat) (f : List Nat), Grp n es v f → Grp n es v (grows es k f)
  | 0, _, h => h
  | k + 1, f, h => grows_grp k (grow es f) (grow_grp (fun _ => id) h)
theorem grp_len {n : Nat} {es : List Ed} {v : Nat} {f : List Nat} (hv : v < n) (hn : ∀ p ∈ es, p.1 < n ∧ p.2 < n) (g : Grp n es v f) : f.length ≤ n :=
  nodup_le n f g.1 fun x hx => cn_in (S := (· < n)) hn hv (g.2.2 x hx)
theorem grp_one {n : Nat} {es : List Ed} {v : Nat} : Grp n es v [v] := ⟨by simp, by simp, fun x hx => by simp at hx; subst hx; exact .refl⟩
end FT

/-! EV: how the functions over data are computed, as equations for simp -/
namespace DL
open PySem L2
@[simp] theorem nb_bad {α β : Type} (k : α → Re β) : nb .bad k = .bad := (rfl)
theorem bd_eq_ok {α β : Type} {x : Re α} {k : α → Re β} {b : β} : x.bd k = .ok b ↔ ∃ a, x = .ok a ∧ k a = .ok b := by
  cases x <;> simp
def vOf : Option Sl → Re D
  | some (.sh d) => .ok d
  | _ => .bad
@[simp] theorem vOf_sh (d : D) : vOf (some (.sh d)) = .ok d := (rfl)
@[simp] theorem pV_ap (i : Nat) (δ : En) : pV i δ = vOf δ[i]? := (rfl)
@[simp] theorem pK_ap (d : D) (δ : En) : pK d δ = .ok d := (rfl)
@[simp] theorem Pu_ap {α : Type} (f : En → Re α) (δ : En) : Pu f δ = (f δ).bd fun a => .ok (a, δ) := (rfl)
@[simp] theorem fz_ap (f : En → Re (List D × En)) (δ : En) : fz f δ = (f δ).bd fun p => .ok (.list p.1, p.2) := (rfl)
def eOp2 {α : Type} (g : D → D → Option α) (x : D) (q : D × En) : Re (α × En) := (opt (g x q.1)).bd fun d => .ok (d, q.2)
@[simp] theorem eOp2_ap {α : Type} (g : D → D → Option α) (x y : D) (δ : En) : eOp2 g x (y, δ) = (opt (g x y)).bd fun d => .ok (d, δ) := (rfl)
def eOp1 {α : Type} (g : D → D → Option α) (fb : En → Re (D × En)) (p : D × En) : Re (α × En) := (fb p.2).bd (eOp2 g p.1)
@[simp] theorem eOp1_ap {α : Type} (g : D → D → Option α) (fb : En → Re (D × En)) (x : D) (δ : En) : eOp1 g fb (x, δ) = (fb δ).bd (eOp2 g x) := (rfl)
@[simp] theorem eOp_ap {α : Type} (g : D → D → Option α) (fa fb : En → Re (D × En)) (δ : En) : eOp g fa fb δ = (fa δ).bd (eOp1 g fb) := (rfl)
def pOp2 {α : Type} (g : D → D → Option α) (x y : D) : Re α := opt (g x y)
@[simp] theorem pOp2_ap {α : Type} (g : D → D → Option α) (x y : D) : pOp2 g x y = opt (g x y) := (rfl)
def pOp1 {α : Type} (g : D → D → Option α) (fb : En → Re D) (δ : En) (x : D) : Re α := (fb δ).bd (pOp2 g x)
@[simp] theorem pOp1_ap {α : Type} (g : D → D → Option α) (fb : En → Re D) (δ : En) (x : D) : pOp1 g fb δ x = (fb δ).bd (pOp2 g x) := (rfl)
@[simp] theorem pOp_ap {α : Type} (g : D → D → Option α) (fa fb : En → Re D) (δ : En) : pOp g fa fb δ = (fa δ).bd (pOp1 g fb δ) := (rfl)
@[simp] theorem eUn_ap (g : D → Option D) (fa : En → Re (D × En)) (δ : En) : eUn g fa δ = (fa δ).bd fun p => (opt (g p.1)).bd fun d => .ok (d, p.2) := (rfl)
@[simp] theorem pUn_ap (g : D → Option D) (fa : En → Re D) (δ : En) : pUn g fa δ = (fa δ).bd fun p => opt (g p) := (rfl)
def tru : D → Re Bool
  | .bool b => .ok b
  | _ => .bad
@[simp] theorem tru_b (b : Bool) : tru (.bool b) = .ok b := (rfl)
@[simp] theorem eTe_ap (f : En → Re (D × En)) (δ : En) : eTe f δ = (f δ).bd fun p => (tru p.1).bd fun b => .ok (b, p.2) := by
  unfold eTe; cases f δ with
  | ok x => obtain ⟨d, δ'⟩ := x; cases d <;> rfl
  | _ => rfl
@[simp] theorem pTe_ap (f : En → Re D) (δ : En) : pTe f δ = (f δ).bd tru := by
  unfold pTe; cases f δ with
  | ok x => cases x <;> rfl
  | _ => rfl
@[simp] theorem eNot_ap (f : En → Re (Bool × En)) (δ : En) : eNot f δ = (f δ).bd fun p => .ok (!p.1, p.2) := (rfl)
@[simp] theorem pNot_ap (f : En → Re Bool) (δ : En) : pNot f δ = (f δ).bd fun p => .ok (!p) := (rfl)
def eAnd1 (g : En → Re (Bool × En)) (p : Bool × En) : Re (Bool × En) := if p.1 = true then g p.2 else .ok (false, p.2)
@[simp] theorem eAnd1_ap (g : En → Re (Bool × En)) (b : Bool) (δ : En) : eAnd1 g (b, δ) = if b = true then g δ else .ok (false, δ) := (rfl)
@[simp] theorem eAnd_ap (f g : En → Re (Bool × En)) (δ : En) : eAnd f g δ = (f δ).bd (eAnd1 g) := by
  unfold eAnd; cases f δ with
  | ok x => obtain ⟨b, δ'⟩ := x; cases b <;> rfl
  | _ => rfl
def eOr1 (g : En → Re (Bool × En)) (p : Bool × En) : Re (Bool × En) := if p.1 = true then .ok (true, p.2) else g p.2
@[simp] theorem eOr1_ap (g : En → Re (Bool × En)) (b : Bool) (δ : En) : eOr1 g (b, δ) = if b = true then .ok (true, δ) else g δ := (rfl)
@[simp] theorem eOr_ap (f g : En → Re (Bool × En)) (δ : En) : eOr f g δ = (f δ).bd (eOr1 g) := by
  unfold eOr; cases f δ with
  | ok x => obtain ⟨b, δ'⟩ := x; cases b <;> rfl
  | _ => rfl
def pAnd1 (g : En → Re Bool) (δ : En) (b : Bool) : Re Bool := if b = true then g δ else .ok false
@[simp] theorem pAnd1_ap (g : En → Re Bool) (δ : En) (b : Bool) : pAnd1 g δ b = if b = true then g δ else .ok false := (rfl)
@[simp] theorem pAnd_ap (f g : En → Re Bool) (δ : En) : pAnd f g δ = (f δ).bd (pAnd1 g δ) := by
  unfold pAnd; cases f δ with
  | ok b => cases b <;> rfl
  | _ => rfl
def pOr1 (g : En → Re Bool) (δ : En) (b : Bool) : Re Bool := if b = true then .ok true else g δ
@[simp] theorem pOr1_ap (g : En → Re Bool) (δ : En) (b : Bool) : pOr1 g δ b = if b = true then .ok true else g δ := (rfl)
@[simp] theorem pOr_ap (f g : En → Re Bool) (δ : En) : pOr f g δ = (f δ).bd (pOr1 g δ) := by
  unfold pOr; cases f δ with
  | ok b => cases b <;> rfl
  | _ => rfl
@[simp] theorem eBo_ap (f : En → Re (Bool × En)) (δ : En) : eBo f δ = (f δ).bd fun p => .ok (.bool p.1, p.2) := (rfl)
@[simp] theorem pBo_ap (f : En → Re Bool) (δ : En) : pBo f δ = (f δ).bd fun p => .ok (.bool p) := (rfl)
def eIf1 {α : Type} (fa fb : En → Re (α × En)) (p : Bool × En) : Re (α × En) := if p.1 = true then fa p.2 else fb p.2
@[simp] theorem eIf1_ap {α : Type} (fa fb : En → Re (α × En)) (b : Bool) (δ : En) : eIf1 fa fb (b, δ) = if b = true then fa δ else fb δ := (rfl)
@[simp] theorem eIf_ap {α : Type} (t : En → Re (Bool × En)) (fa fb : En → Re (α × En)) (δ : En) : eIf t fa fb δ = (t δ).bd (eIf1 fa fb) := by
  unfold eIf; cases t δ with
  | ok x => obtain ⟨b, δ'⟩ := x; cases b <;> rfl
  | _ => rfl
def pIf1 {α : Type} (fa fb : En → Re α) (δ : En) (b : Bool) : Re α := if b = true then fa δ else fb δ
@[simp] theorem pIf1_ap {α : Type} (fa fb : En → Re α) (δ : En) (b : Bool) : pIf1 fa fb δ b = if b = true then fa δ else fb δ := (rfl)
@[simp] theorem pIf_ap {α : Type} (t : En → Re Bool) (fa fb : En → Re α) (δ : En) : pIf t fa fb δ = (t δ).bd (pIf1 fa fb δ) := by
  unfold pIf; cases t δ with
  | ok b => cases b <;> rfl
  | _ => rfl
def pCh3 (g' : D → D → Option D) (fc : En → Re D) (δ : En) (q : D) (b : Bool) : Re D := if b = true then (fc δ).bd (pOp2 g' q) else .ok (.bool false)
@[simp] theorem pCh3_ap (g' : D → D → Option D) (fc : En → Re D) (δ : En) (q : D) (b : Bool) : pCh3 g' fc δ q b = if b = true then (fc δ).bd (pOp2 g' q) else .ok (.bool false) := (rfl)
def pCh2 (g g' : D → D → Option D) (fc : En → Re D) (δ : En) (p q : D) : Re D := ((opt (g p q)).bd tru).bd (pCh3 g' fc δ q)
@[simp] theorem pCh2_ap (g g' : D → D → Option D) (fc : En → Re D) (δ : En) (p q : D) : pCh2 g g' fc δ p q = ((opt (g p q)).bd tru).bd (pCh3 g' fc δ q) := (rfl)
def pCh1 (g g' : D → D → Option D) (fb fc : En → Re D) (δ : En) (p : D) : Re D := (fb δ).bd (pCh2 g g' fc δ p)
@[simp] theorem pCh1_ap (g g' : D → D → Option D) (fb fc : En → Re D) (δ : En) (p : D) : pCh1 g g' fb fc δ p = (fb δ).bd (pCh2 g g' fc δ p) := (rfl)
@[simp] theorem pCh_ap (g g' : D → D → Option D) (fa fb fc : En → Re D) (δ : En) : pCh g g' fa fb fc δ = (fa δ).bd (pCh1 g g' fb fc δ) := by
  unfold pCh; cases fa δ with
  | ok x =>
    simp only [Re.bd_ok, pCh1]
    cases fb δ with
    | ok y =>
      simp only [Re.bd_ok, pCh2]
      cases g x y with
      | some z =>
        cases z with
        | bool b => cases b <;> rfl
        | _ => rfl
      | none => rfl
    | _ => rfl
  | _ => rfl
@[simp] theorem eNil_ap (δ : En) : eNil δ = .ok ([], δ) := (rfl)
@[simp] theorem pNil_ap (δ : En) : pNil δ = .ok [] := (rfl)
def eCons2 (x : D) (q : List D × En) : Re (List D × En) := .ok (x :: q.1, q.2)
@[simp] theorem eCons2_ap (x : D) (l : List D) (δ : En) : eCons2 x (l, δ) = .ok (x :: l, δ) := (rfl)
def eCons1 (fr : En → Re (List D × En)) (p : D × En) : Re (List D × En) := (fr p.2).bd (eCons2 p.1)
@[simp] theorem eCons1_ap (fr : En → Re (List D × En)) (x : D) (δ : En) : eCons1 fr (x, δ) = (fr δ).bd (eCons2 x) := (rfl)
@[simp] theorem eCons_ap (fa : En → Re (D × En)) (fr : En → Re (List D × En)) (δ : En) : eCons fa fr δ = (fa δ).bd (eCons1 fr) := (rfl)
def pCons2 (x : D) (q : List D) : Re (List D) := .ok (x :: q)
@[simp] theorem pCons2_ap (x : D) (q : List D) : pCons2 x q = .ok (x :: q) := (rfl)
def pCons1 (fr : En → Re (List D)) (δ : En) (x : D) : Re (List D) := (fr δ).bd (pCons2 x)
@[simp] theorem pCons1_ap (fr : En → Re (List D)) (δ : En) (x : D) : pCons1 fr δ x = (fr δ).bd (pCons2 x) := (rfl)
@[simp] theorem pCons_ap (fa : En → Re D) (fr : En → Re (List D)) (δ : En) : pCons fa fr δ = (fa δ).bd (pCons1 fr δ) := (rfl)
@[simp] theorem eTup_ap (fr : En → Re (List D × En)) (δ : En) : eTup fr δ = (fr δ).bd fun p => if p.1.length ≤ 1000000 then .ok (.tuple p.1, p.2) else .bad := (rfl)
@[simp] theorem pTup_ap (fr : En → Re (List D)) (δ : En) : pTup fr δ = (fr δ).bd fun p => if p.length ≤ 1000000 then .ok (.tuple p) else .bad := (rfl)
@[simp] theorem eLst_ap (fr : En → Re (List D × En)) (δ : En) : eLst fr δ = (fr δ).bd fun p => if p.1.length ≤ 1000000 then .ok p else .bad := (rfl)
@[simp] theorem pLst_ap (fr : En → Re (List D)) (δ : En) : pLst fr δ = (fr δ).bd fun p => if p.length ≤ 1000000 then .ok p else .bad := (rfl)
@[simp] theorem eCa_ap {α : Type} (g : List D → Option α) (fr : En → Re (List D × En)) (δ : En) : eCa g fr δ = (fr δ).bd fun p => (opt (g p.1)).bd fun d => .ok (d, p.2) := (rfl)
@[simp] theorem pCa_ap {α : Type} (g : List D → Option α) (fr : En → Re (List D)) (δ : En) : pCa g fr δ = (fr δ).bd fun p => opt (g p) := (rfl)
@[simp] theorem eCr_ap {α : Type} (F : List D → Re α) (fr : En → Re (List D × En)) (δ : En) : eCr F fr δ = (fr δ).bd fun p => (F p.1).bd fun d => .ok (d, p.2) := (rfl)
@[simp] theorem pCr_ap {α : Type} (F : List D → Re α) (fr : En → Re (List D)) (δ : En) : pCr F fr δ = (fr δ).bd fun p => F p := (rfl)
@[simp] theorem pFz_ap (f : En → Re (List D)) (δ : En) : pFz f δ = (f δ).bd fun ds => .ok (.list ds) := (rfl)
@[simp] theorem eIsi_ap (T : String) (fa : En → Re (D × En)) (δ : En) : eIsi T fa δ = (fa δ).bd fun p => .ok (.bool (isiD p.1 T), p.2) := (rfl)
@[simp] theorem pIsi_ap (T : String) (fa : En → Re D) (δ : En) : pIsi T fa δ = (fa δ).bd fun p => .ok (.bool (isiD p T)) := (rfl)
def lstOf : D → Re (List D)
  | .list ds => .ok ds
  | _ => .bad
@[simp] theorem lstOf_l (ds : List D) : lstOf (.list ds) = .ok ds := (rfl)
def tupOf : D → Re (List D)
  | .tuple ds => .ok ds
  | _ => .bad
@[simp] theorem tupOf_l (ds : List D) : tupOf (.tuple ds) = .ok ds := (rfl)
@[simp] theorem pLi_ap (f : En → Re D) (δ : En) : pLi f δ = (f δ).bd lstOf := by
  unfold pLi; cases f δ with
  | ok x => cases x <;> rfl
  | _ => rfl
@[simp] theorem eLi_ap (f : En → Re (D × En)) (δ : En) : eLi f δ = (f δ).bd fun p => (lstOf p.1).bd fun l => .ok (l, p.2) := by
  unfold eLi; cases f δ with
  | ok x => obtain ⟨d, δ'⟩ := x; cases d <;> rfl
  | _ => rfl
@[simp] theorem pTi_ap (f : En → Re D) (δ : En) : pTi f δ = (f δ).bd tupOf := by
  unfold pTi; cases f δ with
  | ok x => cases x <;> rfl
  | _ => rfl
@[simp] theorem eTi_ap (f : En → Re (D × En)) (δ : En) : eTi f δ = (f δ).bd fun p => (tupOf p.1).bd fun l => .ok (l, p.2) := by
  unfold eTi; cases f δ with
  | ok x => obtain ⟨d, δ'⟩ := x; cases d <;> rfl
  | _ => rfl
def intOf : D → Re Int
  | .int i => .ok i
  | _ => .bad
@[simp] theorem intOf_i (i : Int) : intOf (.int i) = .ok i := (rfl)
@[simp] theorem pNoP_ap (δ : En) : pNoP δ = .ok none := (rfl)
@[simp] theorem pSoP_ap (f : En → Re D) (δ : En) : pSoP f δ = (f δ).bd fun d => (intOf d).bd fun i => .ok (some i) := by
  unfold pSoP; cases f δ with
  | ok x => cases x <;> rfl
  | _ => rfl
@[simp] theorem eSoP_ap (f : En → Re (D × En)) (δ : En) : eSoP f δ = (f δ).bd fun p => (intOf p.1).bd fun i => .ok (some i, p.2) := by
  unfold eSoP; cases f δ with
  | ok x => obtain ⟨d, δ'⟩ := x; cases d <;> rfl
  | _ => rfl
@[simp] theorem pSl_ap {α : Type} (g : D → Option Int → Option Int → Option α) (fa : En → Re D) (fl fh : En → Re (Option Int)) (δ : En) : pSl g fa fl fh δ = (fa δ).bd fun p => (fl δ).bd fun l => (fh δ).bd fun h => opt (g p l h) := (rfl)
@[simp] theorem eSl_ap {α : Type} (g : D → Option Int → Option Int → Option α) (fa : En → Re (D × En)) (fl fh : En → Re (Option Int × En)) (δ : En) : eSl g fa fl fh δ = (fa δ).bd fun p => (fl p.2).bd fun l => (fh l.2).bd fun h => (opt (g p.1 l.1 h.1)).bd fun d => .ok (d, h.2) := (rfl)
/-! owned lists -/
def oOf : Option Sl → Re (List D)
  | some (.ow ds) => .ok ds
  | _ => .bad
@[simp] theorem oOf_ow (ds : List D) : oOf (some (.ow ds)) = .ok ds := (rfl)
@[simp] theorem pIxB_ap (i : Nat) (fi : En → Re D) (δ : En) : pIxB i fi δ = (oOf δ[i]?).bd fun ds => (fi δ).bd fun q => (intOf q).bd fun k => opt (atI ds k) := by
  unfold pIxB
  cases h : δ[i]? with
  | none => rfl
  | some s => cases s with
    | ow ds =>
      simp only [oOf, Re.bd_ok]
      cases fi δ with
      | ok x => cases x <;> rfl
      | _ => rfl
    | _ => rfl
@[simp] theorem pLenB_ap (i : Nat) (δ : En) : pLenB i δ = (oOf δ[i]?).bd fun ds => .ok (.int ds.length) := by
  unfold pLenB
  cases h : δ[i]? with
  | none => rfl
  | some s => cases s <;> rfl
@[simp] theorem pInB_ap (neg : Bool) (fa : En → Re D) (i : Nat) (δ : En) : pInB neg fa i δ = (fa δ).bd fun p => (oOf δ[i]?).bd fun ds => (opt (inD p (.list ds))).bd fun b => .ok (.bool (if neg then !b else b)) := by
  unfold pInB
  cases h : δ[i]? with
  | none => rfl
  | some s => cases s <;> rfl
@[simp] theorem eInB_ap (neg : Bool) (fa : En → Re (D × En)) (i : Nat) (δ : En) : eInB neg fa i δ = (fa δ).bd fun p => (oOf p.2[i]?).bd fun ds => (opt (inD p.1 (.list ds))).bd fun b => .ok (.bool (if neg then !b else b), p.2) := by
  unfold eInB
  cases fa δ with
  | ok x =>
    simp only [Re.bd_ok]
    cases h : x.2[i]? with
    | none => rfl
    | some s => cases s <;> rfl
  | _ => rfl
@[simp] theorem eExt_ap (i : Nat) (fr : En → Re (List D × En)) (δ : En) : eExt i fr δ = (oOf δ[i]?).bd fun _ => (fr δ).bd fun p => (oOf p.2[i]?).bd fun ds => if ds.length + p.1.length ≤ 1000000 then .ok (.none, p.2.set i (.ow (ds ++ p.1))) else .bad := by
  unfold eExt
  cases h : δ[i]? with
  | none => rfl
  | some s => cases s with
    | ow ds =>
      simp only [oOf, Re.bd_ok]
      cases fr δ with
      | ok x =>
        simp only [Re.bd_ok]
        cases h : x.2[i]? with
        | none => rfl
        | some s => cases s <;> rfl
      | _ => rfl
    | _ => rfl
@[simp] theorem eMu_ap (i : Nat) (m : List D → List D → Option (List D × D)) (fr : En → Re (List D × En)) (δ : En) : eMu i m fr δ = (oOf δ[i]?).bd fun _ => (fr δ).bd fun p => (oOf p.2[i]?).bd fun ds => (opt (m ds p.1)).bd fun q => .ok (q.2, p.2.set i (.ow q.1)) := by
  unfold eMu
  cases h : δ[i]? with
  | none => rfl
  | some s => cases s with
    | ow ds =>
      simp only [oOf, Re.bd_ok]
      cases fr δ with
      | ok x =>
        simp only [Re.bd_ok]
        cases h : x.2[i]? with
        | none => rfl
        | some s => cases s <;> rfl
      | _ => rfl
    | _ => rfl
@[simp] theorem eMu0_ap (i : Nat) (m : List D → List D → Option (List D × D)) (δ : En) : eMu0 i m δ = (oOf δ[i]?).bd fun ds => (opt (m ds [])).bd fun q => .ok (q.2, δ.set i (.ow q.1)) := by
  unfold eMu0
  cases h : δ[i]? with
  | none => rfl
  | some s => cases s <;> rfl
@[simp] theorem eCm_ap (i : Nat) (F : List D → List D → Re (D × List D)) (fr : En → Re (List D × En)) (δ : En) : eCm i F fr δ = (oOf δ[i]?).bd fun _ => (fr δ).bd fun p => (oOf p.2[i]?).bd fun ds => (F ds p.1).bd fun q => .ok (q.1, p.2.set i (.ow q.2)) := by
  unfold eCm
  cases h : δ[i]? with
  | none => rfl
  | some s => cases s with
    | ow ds =>
      simp only [oOf, Re.bd_ok]
      cases fr δ with
      | ok x =>
        simp only [Re.bd_ok]
        cases h : x.2[i]? with
        | none => rfl
        | some s => cases s <;> rfl
      | _ => rfl
    | _ => rfl
@[simp] theorem eCmF_ap (i : Nat) (F : List D → List D → Re (List D × List D)) (fr : En → Re (List D × En)) (δ : En) : eCmF i F fr δ = (oOf δ[i]?).bd fun _ => (fr δ).bd fun p => (oOf p.2[i]?).bd fun ds => (F ds p.1).bd fun q => .ok (q.1, p.2.set i (.ow q.2)) := by
  unfold eCmF
  cases h : δ[i]? with
  | none => rfl
  | some s => cases s with
    | ow ds =>
      simp only [oOf, Re.bd_ok]
      cases fr δ with
      | ok x =>
        simp only [Re.bd_ok]
        cases h : x.2[i]? with
        | none => rfl
        | some s => cases s <;> rfl
      | _ => rfl
    | _ => rfl
/-! statements -/
def goOn (B : En → Re Fl) : Fl → Re Fl
  | .nx δ' => B δ'
  | r => .ok r
@[simp] theorem goOn_nx (B : En → Re Fl) (δ : En) : goOn B (.nx δ) = B δ := (rfl)
@[simp] theorem goOn_rt (B : En → Re Fl) (d : D) (δ : En) : goOn B (.rt d δ) = .ok (.rt d δ) := (rfl)
@[simp] theorem goOn_rf (B : En → Re Fl) (d : List D) (δ : En) : goOn B (.rf d δ) = .ok (.rf d δ) := (rfl)
@[simp] theorem goOn_bk (B : En → Re Fl) (δ : En) : goOn B (.bk δ) = .ok (.bk δ) := (rfl)
@[simp] theorem goOn_ct (B : En → Re Fl) (δ : En) : goOn B (.ct δ) = .ok (.ct δ) := (rfl)
@[simp] theorem seqS_ap (A B : En → Re Fl) (δ : En) : seqS A B δ = (A δ).bd (goOn B) := by
  unfold seqS; cases A δ with
  | ok x => cases x <;> rfl
  | _ => rfl
@[simp] theorem nopS_ap (δ : En) : nopS δ = .ok (.nx δ) := (rfl)
@[simp] theorem nevS_ap (δ : En) : nevS δ = .bad := (rfl)
@[simp] theorem bkS_ap (δ : En) : bkS δ = .ok (.bk δ) := (rfl)
@[simp] theorem ctS_ap (δ : En) : ctS δ = .ok (.ct δ) := (rfl)
@[simp] theorem rnS_ap (δ : En) : rnS δ = .ok (.rt .none δ) := (rfl)
@[simp] theorem exS_ap (f : En → Re (D × En)) (δ : En) : exS f δ = (f δ).bd fun p => .ok (.nx p.2) := (rfl)
@[simp] theorem rtS_ap (f : En → Re (D × En)) (δ : En) : rtS f δ = (f δ).bd fun p => .ok (.rt p.1 p.2) := (rfl)
@[simp] theorem rfS_ap (f : En → Re (List D × En)) (δ : En) : rfS f δ = (f δ).bd fun p => .ok (.rf p.1 p.2) := (rfl)
@[simp] theorem roS_ap (i : Nat) (δ : En) : roS i δ = (oOf δ[i]?).bd fun ds => .ok (.rf ds δ) := by
  unfold roS
  cases h : δ[i]? with
  | none => rfl
  | some s => cases s <;> rfl
def ifS1 (A B : En → Re Fl) (p : Bool × En) : Re Fl := if p.1 = true then A p.2 else B p.2
@[simp] theorem ifS1_ap (A B : En → Re Fl) (b : Bool) (δ : En) : ifS1 A B (b, δ) = if b = true then A δ else B δ := (rfl)
@[simp] theorem ifS_ap (t : En → Re (Bool × En)) (A B : En → Re Fl) (δ : En) : ifS t A B δ = (t δ).bd (ifS1 A B) := by
  unfold ifS; cases t δ with
  | ok x => obtain ⟨b, δ'⟩ := x; cases b <;> rfl
  | _ => rfl
@[simp] theorem asS_ap (i : Nat) (f : En → Re (D × En)) (δ : En) : asS i f δ = (f δ).bd fun p => .ok (.nx (p.2.set i (.sh p.1))) := (rfl)
@[simp] theorem owS_ap (i : Nat) (f : En → Re (List D × En)) (δ : En) : owS i f δ = (f δ).bd fun p => .ok (.nx (p.2.set i (.ow p.1))) := (rfl)
@[simp] theorem agS_ap (g : D → En → Option En) (f : En → Re (D × En)) (δ : En) : agS g f δ = (f δ).bd fun p => (opt (g p.1 p.2)).bd fun δ' => .ok (.nx δ') := (rfl)
def twoOf : List D → Re (D × D)
  | [d, e] => .ok (d, e)
  | _ => .bad
@[simp] theorem twoOf_2 (d e : D) : twoOf [d, e] = .ok (d, e) := (rfl)
@[simp] theorem paS_ap (i j : Nat) (fr : En → Re (List D × En)) (δ : En) : paS i j fr δ = (fr δ).bd fun p => (twoOf p.1).bd fun q => .ok (.nx ((p.2.set i (.sh q.1)).set j (.sh q.2))) := by
  unfold paS; cases fr δ with
  | ok x =>
    obtain ⟨l, δ'⟩ := x
    simp only [Re.bd_ok]
    split
    · rfl
    · rename_i h
      have : twoOf l = .bad := by
        unfold twoOf; split
        · rename_i d e; exact absurd rfl (h d e)
        · rfl
      rw [this]; rfl
  | _ => rfl
@[simp] theorem fzE_ow {δ : En} {i : Nat} {ds : List D} (h : δ[i]? = some (.ow ds)) : fzE i δ = δ.set i (.sh (.list ds)) := by unfold fzE; rw [h]
@[simp] theorem fzS_ap (i : Nat) (F : En → Re Fl) (δ : En) : fzS i F δ = F (fzE i δ) := (rfl)
@[simp] theorem stS_ap (k : Nat) (fi fe : En → Re (D × En)) (δ : En) : stS k fi fe δ = (fe δ).bd fun p => (oOf p.2[k]?).bd fun _ => (fi p.2).bd fun q => (intOf q.1).bd fun i => (oOf q.2[k]?).bd fun ds => (opt (ixN ds.length i)).bd fun j => .ok (.nx (q.2.set k (.ow (ds.set j p.1)))) := by
  unfold stS; cases fe δ with
  | ok x =>
    simp only [Re.bd_ok]
    cases h : x.2[k]? with
    | none => rfl
    | some s => cases s with
      | ow ds =>
        simp only [oOf, Re.bd_ok]
        cases fi x.2 with
        | ok y =>
          obtain ⟨d, δ'⟩ := y
          cases d with
          | int i =>
            simp only [Re.bd_ok, intOf]
            cases h : δ'[k]? with
            | none => rfl
            | some s => cases s <;> rfl
          | _ => rfl
        | _ => rfl
      | _ => rfl
  | _ => rfl
def forS1 (g : D → En → Option En) (F : En → Re Fl) (p : List D × En) : Re Fl := forL g F p.1 p.2
@[simp] theorem forS1_ap (g : D → En → Option En) (F : En → Re Fl) (l : List D) (δ : En) : forS1 g F (l, δ) = forL g F l δ := (rfl)
@[simp] theorem forS_ap (fi : En → Re (List D × En)) (g : D → En → Option En) (F : En → Re Fl) (δ : En) : forS fi g F δ = (fi δ).bd (forS1 g F) := (rfl)
@[simp] theorem gNm_ap (i : Nat) (d : D) (δ : En) : gNm i d δ = some (δ.set i (.sh d)) := (rfl)
@[simp] theorem gsNil_ap (δ : En) : gsNil [] δ = some δ := (rfl)
@[simp] theorem gsCons_ap (g : D → En → Option En) (gs : List D → En → Option En) (d : D) (r : List D) (δ : En) : gsCons g gs (d :: r) δ = (g d δ).bind fun δ' => gs r δ' := (rfl)
@[simp] theorem gTpN_ap (n : Nat) (gs : List D → En → Option En) (ds : List D) (δ : En) : gTpN n gs (.tuple ds) δ = if ds.length = n then gs ds δ else none := (rfl)
@[simp] theorem gTpN_li (n : Nat) (gs : List D → En → Option En) (ds : List D) (δ : En) : gTpN n gs (.list ds) δ = if ds.length = n then gs ds δ else none := (rfl)
def resP : Fl → Re D
  | .nx _ => .ok .none
  | .rt d _ => .ok d
  | _ => .bad
@[simp] theorem resP_nx (δ : En) : resP (.nx δ) = .ok .none := (rfl)
@[simp] theorem resP_rt (d : D) (δ : En) : resP (.rt d δ) = .ok d := (rfl)
theorem dfP_ap (np n : Nat) (F : En → Re Fl) (ds : List D) (h : ds.length = np) : dfP np n F ds = (F (en0 n ds)).bd resP := by
  unfold dfP
  rw [if_pos h]
  cases F (en0 n ds) with
  | ok x => cases x <;> rfl
  | _ => rfl
def resPF : Fl → Re (List D)
  | .rf d _ => .ok d
  | _ => .bad
@[simp] theorem resPF_rf (d : List D) (δ : En) : resPF (.rf d δ) = .ok d := (rfl)
theorem dfPF_ap (np n : Nat) (F : En → Re Fl) (ds : List D) (h : ds.length = np) : dfPF np n F ds = (F (en0 n ds)).bd resPF := by
  unfold dfPF
  rw [if_pos h]
  cases F (en0 n ds) with
  | ok x => cases x <;> rfl
  | _ => rfl
def resM : Fl → Re (D × List D)
  | .nx δ => (oOf δ[(0 : Nat)]?).bd fun s => .ok (.none, s)
  | .rt d δ => (oOf δ[(0 : Nat)]?).bd fun s => .ok (d, s)
  | _ => .bad
@[simp] theorem resM_nx (δ : En) : resM (.nx δ) = (oOf δ[(0 : Nat)]?).bd fun s => .ok (.none, s) := (rfl)
@[simp] theorem resM_rt (d : D) (δ : En) : resM (.rt d δ) = (oOf δ[(0 : Nat)]?).bd fun s => .ok (d, s) := (rfl)
theorem fin1_ap (d : D) (δ : En) : fin1 d δ = (oOf δ[(0 : Nat)]?).bd fun s => .ok (d, s) := by
  unfold fin1
  cases δ[(0 : Nat)]? with
  | none => rfl
  | some s => cases s <;> rfl
theorem dfM_ap (np n : Nat) (F : En → Re Fl) (src ds : List D) (h : ds.length = np) : dfM np n F src ds = (F (en1 n src ds)).bd resM := by
  unfold dfM
  rw [if_pos h]
  cases F (en1 n src ds) with
  | ok x => cases x <;> first | rfl | exact fin1_ap _ _
  | _ => rfl
def resMF : Fl → Re (List D × List D)
  | .rf d δ => (oOf δ[(0 : Nat)]?).bd fun s => .ok (d, s)
  | _ => .bad
@[simp] theorem resMF_rf (d : List D) (δ : En) : resMF (.rf d δ) = (oOf δ[(0 : Nat)]?).bd fun s => .ok (d, s) := (rfl)
theorem fin1F_ap (d : List D) (δ : En) : fin1F d δ = (oOf δ[(0 : Nat)]?).bd fun s => .ok (d, s) := by
  unfold fin1F
  cases δ[(0 : Nat)]? with
  | none => rfl
  | some s => cases s <;> rfl
theorem dfMF_ap (np n : Nat) (F : En → Re Fl) (src ds : List D) (h : ds.length = np) : dfMF np n F src ds = (F (en1 n src ds)).bd resMF := by
  unfold dfMF
  rw [if_pos h]
  cases F (en1 n src ds) with
  | ok x => cases x <;> first | rfl | exact fin1F_ap _ _
  | _ => rfl
theorem runP {np n : Nat} {F : En → Re Fl} {ds : List D} {r : Re D} (h : ds.length = np) (e : (F (en0 n ds)).bd resP = r) : dfP np n F ds = r := by rw [dfP_ap _ _ _ _ h, e]
theorem runPF {np n : Nat} {F : En → Re Fl} {ds : List D} {r : Re (List D)} (h : ds.length = np) (e : (F (en0 n ds)).bd resPF = r) : dfPF np n F ds = r := by rw [dfPF_ap _ _ _ _ h, e]
theorem runM {np n : Nat} {F : En → Re Fl} {src ds : List D} {r : Re (D × List D)} (h : ds.length = np) (e : (F (en1 n src ds)).bd resM = r) : dfM np n F src ds = r := by rw [dfM_ap _ _ _ _ _ h, e]
theorem runMF {np n : Nat} {F : En → Re Fl} {src ds : List D} {r : Re (List D × List D)} (h : ds.length = np) (e : (F (en1 n src ds)).bd resMF = r) : dfMF np n F src ds = r := by rw [dfMF_ap _ _ _ _ _ h, e]
end DL

/-! DP: data that stand for numbers, edges, lists; loops -/
namespace DL
open PySem L2
def nD (k : Nat) : D := .int (k : Int)
def eD (p : FT.Ed) : D := .tuple [.int (p.1 : Int), .int (p.2 : Int)]
def nsD (l : List Nat) : D := .list (l.map nD)
def esD (l : List FT.Ed) : D := .list (l.map eD)
@[simp] theorem gAdd_int (i j : Int) : gAdd (.int i) (.int j) = some (.int (i + j)) := (rfl)
@[simp] theorem gSub_int (i j : Int) : gSub (.int i) (.int j) = some (.int (i - j)) := (rfl)
theorem gMul_int {i j : Int} (h : i.natAbs.log2 + j.natAbs.log2 < 1000000) : gMul (.int i) (.int j) = some (.int (i * j)) := if_pos h
theorem gMod_int {i j : Int} (h : 0 < j) : gMod (.int i) (.int j) = some (.int (i % j)) := if_pos h
theorem gDiv_int {i j : Int} (h : 0 < j) (k : j.natAbs.log2 < 9000) : gDiv (.int i) (.int j) = some (.int (i / j)) := if_pos ⟨h, k⟩
theorem gPow_int {i j : Int} (h : 0 ≤ j) (k : (Builtin.Int.intBits i : Int) * j ≤ 2 ^ 27) : gPow (.int i) (.int j) = some (.int (i ^ j.toNat)) := if_pos ⟨h, k⟩
@[simp] theorem gLt_int (i j : Int) : gLt (.int i) (.int j) = some (.bool (decide (i < j))) := (rfl)
@[simp] theorem gLe_int (i j : Int) : gLe (.int i) (.int j) = some (.bool (decide (i ≤ j))) := by unfold gLe; rfl
@[simp] theorem gGt_int (i j : Int) : gGt (.int i) (.int j) = some (.bool (decide (i > j))) := by unfold gGt; rfl
@[simp] theorem gGe_int (i j : Int) : gGe (.int i) (.int j) = some (.bool (decide (i ≥ j))) := by unfold gGe; rfl
@[simp] theorem gEq_int (i j : Int) : gEq (.int i) (.int j) = some (.bool (decide (i = j))) := (rfl)
@[simp] theorem gNe_int (i j : Int) : gNe (.int i) (.int j) = some (.bool (!decide (i = j))) := (rfl)
@[simp] theorem gEq_bool (i j : Bool) : gEq (.bool i) (.bool j) = some (.bool (i == j)) := by cases i <;> cases j <;> rfl
@[simp] theorem gNe_bool (i j : Bool) : gNe (.bool i) (.bool j) = some (.bool (!(i == j))) := by cases i <;> cases j <;> rfl
@[simp] theorem gIs_bool (i j : Bool) : gIs (.bool i) (.bool j) = some (.bool (decide (i = j))) := (rfl)
@[simp] theorem gIs_n (d : D) : gIs d .none = some (.bool (isN d)) := by unfold gIs; rfl
@[simp] theorem gIsN_n (d : D) : gIsN d .none = some (.bool (!isN d)) := by unfold gIsN; rw [gIs_n]
@[simp] theorem gLen_list (xs : List D) : gLen [.list xs] = some (.int xs.length) := (rfl)
@[simp] theorem gLen_tuple (xs : List D) : gLen [.tuple xs] = some (.int xs.length) := (rfl)
@[simp] theorem gAbs_int (i : Int) : gAbs [.int i] = some (.int (if i < 0 then -i else i)) := (rfl)
@[simp] theorem gMax_int (i j : Int) : gMax [.int i, .int j] = some (.int (if j > i then j else i)) := (rfl)
@[simp] theorem gMin_int (i j : Int) : gMin [.int i, .int j] = some (.int (if j < i then j else i)) := (rfl)
@[simp] theorem gList_list (xs : List D) : gList [.list xs] = some xs := (rfl)
@[simp] theorem gList_tuple (xs : List D) : gList [.tuple xs] = some xs := (rfl)
@[simp] theorem gTuple_list (xs : List D) : gTuple [.list xs] = some (.tuple xs) := (rfl)
@[simp] theorem gIx_list (xs : List D) (i : Int) : gIx (.list xs) (.int i) = atI xs i := (rfl)
@[simp] theorem gIx_tuple (xs : List D) (i : Int) : gIx (.tuple xs) (.int i) = atI xs i := (rfl)
theorem ixN_nat {n k : Nat} (h : k < n) : ixN n (k : Int) = some k := by
  unfold ixN
  rw [if_pos (Int.natCast_nonneg k), if_pos (Int.ofNat_lt.mpr h)]; rfl
@[simp] theorem atI_k {α : Type} (xs : List α) (k : Nat) : atI xs (k : Int) = xs[k]? := by
  unfold atI
  by_cases h : k < xs.length
  · rw [ixN_nat h]; rfl
  · unfold ixN
    rw [if_pos (Int.natCast_nonneg k), if_neg (by omega)]
    rw [List.getElem?_eq_none (by omega)]; rfl
@[simp] theorem atI_0 {α : Type} (xs : List α) : atI xs 0 = xs[(0 : Nat)]? := atI_k xs 0
@[simp] theorem atI_1 {α : Type} (xs : List α) : atI xs 1 = xs[(1 : Nat)]? := atI_k xs 1
@[simp] theorem atI_2 {α : Type} (xs : List α) : atI xs 2 = xs[(2 : Nat)]? := atI_k xs 2
@[simp] theorem atI_3 {α : Type} (xs : List α) : atI xs 3 = xs[(3 : Nat)]? := atI_k xs 3
theorem atI_of {α : Type} {xs : List α} {i : Int} (h : 0 ≤ i) : atI xs i = xs[i.toNat]? := by
  have := atI_k xs i.toNat
  rwa [Int.toNat_of_nonneg h] at this
theorem atI_nsD {l : List Nat} {k : Nat} (h : k < l.length) : atI (l.map nD) (k : Int) = some (nD l[k]) := by simp [h]
@[simp] theorem gZip_list (xs ys : List D) : gZip [.list xs, .list ys] = some (List.zipWith (fun x y => .tuple [x, y]) xs ys) := (rfl)
@[simp] theorem gRevd_list (xs : List D) : gRevd [.list xs] = some xs.reverse := (rfl)
theorem rgD_nat (n : Nat) : rgD 0 (n : Int) = (List.range n).map nD := by
  unfold rgD nD; simp
theorem gRg1_nat {n : Nat} (h : n < 2 ^ 62) : gRg1 [.int (n : Int)] = some ((List.range n).map nD) := by
  simp only [gRg1]
  rw [if_pos (by omega), rgD_nat]
theorem gLr1_nat {n : Nat} (h : n ≤ 16777216) : gLr1 [.int (n : Int)] = some ((List.range n).map nD) := by
  show (if 0 ≤ (n : Int) ∧ (n : Int) ≤ 16777216 then some (rgD 0 n) else none) = _
  rw [if_pos (by omega), rgD_nat]
theorem rgD_nat2 (a b : Nat) : rgD (a : Int) (b : Int) = (List.range (b - a)).map fun k => nD (a + k) := by
  unfold rgD nD
  have : ((b : Int) - (a : Int)).toNat = b - a := by omega
  rw [this]; simp
theorem gRg2_nat {a b : Nat} (h : a < 2 ^ 62) (k : b < 2 ^ 62) : gRg2 [.int (a : Int), .int (b : Int)] = some ((List.range (b - a)).map fun k => nD (a + k)) := by
  simp only [gRg2]
  rw [if_pos (by omega), rgD_nat2]
theorem boolsOf_mapf {α : Type} (f : α → Bool) (l : List α) : boolsOf (l.map fun a => .bool (f a)) = some (l.map f) := by
  induction l with
  | nil => rfl
  | cons a l ih => simp only [List.map_cons, boolsOf, ih, Option.map_some]
theorem gAll_map {α : Type} (f : α → Bool) (l : List α) : gAll [.list (l.map fun a => .bool (f a))] = some (.bool (l.all f)) := by
  show (boolsOf (l.map fun a => .bool (f a))).map (fun bs => PyData.bool (bs.all id)) = _
  rw [boolsOf_mapf, Option.map_some, List.all_map]; rfl
@[simp] theorem isi_tuple (xs : List D) : isiD (.tuple xs) "tuple" = true := (rfl)
@[simp] theorem isi_list (xs : List D) : isiD (.list xs) "list" = true := (rfl)
@[simp] theorem isi_int (i : Int) : isiD (.int i) "int" = true := (rfl)
@[simp] theorem isi_intb (i : Int) : isiD (.int i) "bool" = false := (rfl)
@[simp] theorem mApp_1 (ds : List D) (d : D) : mApp ds [d] = if ds.length < 1000000 then some (ds ++ [d], .none) else none := (rfl)
theorem noer_ok {α β : Type} {F : α → Re β} {a : α} {b : β} (h : F a = .ok b) : noer F a = .ok b := by unfold noer; rw [h]
theorem noer2_ok {α β γ : Type} {F : α → β → Re γ} {a : α} {b : β} {c : γ} (h : F a b = .ok c) : noer2 F a b = .ok c := by unfold noer2; rw [h]
/-! equality and being in a list -/
theorem eqv_eD (p q : FT.Ed) : PyData.eqv (eD p) (eD q) = decide (p = q) := by
  obtain ⟨a, b⟩ := p
  obtain ⟨c, d⟩ := q
  have e1 : ((a : Int) == (c : Int)) = decide (a = c) := by rw [Bool.beq_eq_decide_eq]; exact decide_eq_decide.mpr (by omega)
  have e2 : ((b : Int) == (d : Int)) = decide (b = d) := by rw [Bool.beq_eq_decide_eq]; exact decide_eq_decide.mpr (by omega)
  simp only [eD, PyData.eqv, PyData.eqvAll, Prod.mk.injEq, e1, e2, Bool.and_true, Bool.decide_and]
theorem eqv_nD (p q : Nat) : PyData.eqv (nD p) (nD q) = decide (p = q) := by
  simp only [nD, PyData.eqv]
  rw [Bool.beq_eq_decide_eq]; exact decide_eq_decide.mpr (by omega)
theorem depthAll_le {n : Nat} : ∀ {xs : List D}, (∀ x ∈ xs, x.depth ≤ n) → PyData.depthAll xs ≤ n
  | [], _ => by simp [PyData.depthAll]
  | x :: xs, h => by
    simp only [PyData.depthAll]
    have := h x (List.mem_cons_self ..)
    have := depthAll_le (xs := xs) fun y hy => h y (List.mem_cons_of_mem _ hy)
    omega
theorem canAll {xs : List D} : (∀ x ∈ xs, x.canLay0 = true) → PyData.canLayAll0 xs = true := by
  induction xs with
  | nil => intro _; simp [PyData.canLayAll0]
  | cons x xs ih =>
    intro h
    simp only [PyData.canLayAll0, Bool.and_eq_true]
    exact ⟨h x (List.mem_cons_self ..), ih fun y hy => h y (List.mem_cons_of_mem _ hy)⟩
theorem shaped_list {xs : List D} (h1 : ∀ x ∈ xs, x.canLay0 = true) (h2 : ∀ x ∈ xs, x.depth ≤ 63) : SeqAt.shaped (.list xs) = true := by
  unfold SeqAt.shaped
  simp only [PyData.canLay0, PyData.depth, Bool.and_eq_true, decide_eq_true_eq]
  exact ⟨canAll h1, decide_eq_true (Nat.succ_le_succ (depthAll_le h2))⟩
theorem can_eD (p : FT.Ed) : (eD p).canLay0 = true := rfl
theorem depth_eD (p : FT.Ed) : (eD p).depth = 1 := rfl
theorem shaped_eD (p : FT.Ed) : SeqAt.shaped (eD p) = true := rfl
theorem shaped_nD (p : Nat) : SeqAt.shaped (nD p) = true := rfl
theorem shaped_esD (l : List FT.Ed) : SeqAt.shaped (.list (l.map eD)) = true := shaped_list (fun x hx => by
  obtain ⟨p, _, rfl⟩ := List.mem_map.mp hx; rfl) fun x hx => by
  obtain ⟨p, _, rfl⟩ := List.mem_map.mp hx; rw [depth_eD]; decide
theorem shaped_nsD (l : List Nat) : SeqAt.shaped (.list (l.map nD)) = true := shaped_list (fun x hx => by
  obtain ⟨p, _, rfl⟩ := List.mem_map.mp hx; rfl) fun x hx => by
  obtain ⟨p, _, rfl⟩ := List.mem_map.mp hx; exact Nat.zero_le _
theorem any_eqv {α : Type} [DecidableEq α] {f : α → D} (hf : ∀ a b, PyData.eqv (f a) (f b) = decide (a = b)) (l : List α) (x : α) : ((l.map f).any fun z => PyData.eqv z (f x)) = decide (x ∈ l) := by
  induction l with
  | nil => rfl
  | cons a l ih =>
    simp only [List.map_cons, List.any_cons, ih, hf, List.mem_cons]
    by_cases h : a = x
    · subst h; simp
    · have h' : x ≠ a := fun e => h e.symm
      simp [h, h']
theorem inD_eD (p : FT.Ed) (l : List FT.Ed) : inD (eD p) (.list (l.map eD)) = some (decide (p ∈ l)) := by
  unfold inD
  simp only [shaped_eD, shaped_esD, Bool.and_self, if_true]
  rw [any_eqv eqv_eD]
  simp
theorem inD_nD (p : Nat) (l : List Nat) : inD (nD p) (.list (l.map nD)) = some (decide (p ∈ l)) := by
  unfold inD
  simp only [shaped_nD, shaped_nsD, Bool.and_self, if_true]
  rw [any_eqv eqv_nD]
theorem eqD_eD (p q : FT.Ed) : eqD (eD p) (eD q) = some (decide (p = q)) := by
  show (if SeqAt.shaped (eD p) && SeqAt.shaped (eD q) then some (PyData.eqv (eD p) (eD q)) else none) = _
  rw [shaped_eD, shaped_eD, eqv_eD]; rfl
theorem eqvAll_map {α : Type} [DecidableEq α] {f : α → D} (hf : ∀ a b, PyData.eqv (f a) (f b) = decide (a = b)) : ∀ (l m : List α), PyData.eqvAll (l.map f) (m.map f) = decide (l = m)
  | [], [] => by simp [PyData.eqvAll]
  | [], _ :: _ => by simp [PyData.eqvAll]
  | _ :: _, [] => by simp [PyData.eqvAll]
  | a :: l, b :: m => by
    simp only [List.map_cons, PyData.eqvAll, hf, eqvAll_map hf l m, List.cons.injEq]
    by_cases h1 : a = b <;> by_cases h2 : l = m <;> simp [h1, h2]
theorem eqD_list {xs ys : List D} (h1 : SeqAt.shaped (.list xs) = true) (h2 : SeqAt.shaped (.list ys) = true) : eqD (.list xs) (.list ys) = some (PyData.eqvAll xs ys) := by
  show (if SeqAt.shaped (.list xs) && SeqAt.shaped (.list ys) then some (PyData.eqv (.list xs) (.list ys)) else none) = _
  rw [h1, h2]; simp [PyData.eqv]
theorem eqD_esD (l m : List FT.Ed) : eqD (.list (l.map eD)) (.list (m.map eD)) = some (decide (l = m)) := by
  rw [eqD_list (shaped_esD l) (shaped_esD m), eqvAll_map eqv_eD]
theorem eqD_nsD (l m : List Nat) : eqD (.list (l.map nD)) (.list (m.map nD)) = some (decide (l = m)) := by
  rw [eqD_list (shaped_nsD l) (shaped_nsD m), eqvAll_map eqv_nD]
/-! sorting -/
def eLe (p q : FT.Ed) : Bool := decide (p.1 < q.1 ∨ (p.1 = q.1 ∧ p.2 ≤ q.2))
def eLt (p q : FT.Ed) : Bool := decide (p.1 < q.1 ∨ (p.1 = q.1 ∧ p.2 < q.2))
theorem dle_eD (p q : FT.Ed) : PySem.W.dataLe false id (eD p) (eD q) = eLe p q := by
  have h := congrFun (congrFun (PySem.W.dataLe_ii (β := FT.Ed) (fun p => (p.1 : Int)) fun p => (p.2 : Int)) p) q
  have e : PySem.W.dataLe false id (eD p) (eD q) = PySem.W.dataLe false (fun b : FT.Ed => .tuple [.int (b.1 : Int), .int (b.2 : Int)]) p q := rfl
  rw [e, h]
  unfold eLe
  exact decide_eq_decide.mpr (by omega)
theorem dle_nD (p q : Nat) : PySem.W.dataLe false id (nD p) (nD q) = decide (p ≤ q) := by
  have h := congrFun (congrFun (PySem.W.dataLe_int (β := Nat) (fun p => (p : Int))) p) q
  have e : PySem.W.dataLe false id (nD p) (nD q) = PySem.W.dataLe false (fun b : Nat => .int (b : Int)) p q := rfl
  rw [e, h]
  exact decide_eq_decide.mpr (by omega)
theorem srt_map {α : Type} {f : α → D} {le : α → α → Bool} (h : ∀ a b, PySem.W.dataLe false id (f a) (f b) = le a b) (l : List α) : srt (l.map f) = (l.mergeSort le).map f := by
  unfold srt
  rw [List.map_mergeSort]
  intro a _ b _
  exact (h a b).symm
def sortE (l : List FT.Ed) : List FT.Ed := l.mergeSort eLe
def sortN (l : List Nat) : List Nat := l.mergeSort fun a b => decide (a ≤ b)
theorem alike_eD (p q : FT.Ed) : PySem.W.alike (eD p) (eD q) = true := rfl
theorem srtOk_map {α : Type} {f : α → D} {l : List α} (h1 : ∀ a b, PySem.W.alike (f a) (f b) = true) (h2 : (∀ a, ∃ x r, f a = .tuple (x :: r)) ∨ (∀ a, ∃ i, f a = .int i)) (h3 : l.length ≤ 1000000) (h4 : ∀ a, (f a).depth ≤ 64) : srtOk (l.map f) = true := by
  unfold srtOk alk srtb
  simp only [Bool.and_eq_true, List.all_eq_true, decide_eq_true_eq, Bool.or_eq_true, List.length_map]
  refine ⟨⟨⟨fun x hx y hy => ?_, ?_⟩, h3⟩, fun x hx => ?_⟩
  · obtain ⟨a, _, rfl⟩ := List.mem_map.mp hx
    obtain ⟨b, _, rfl⟩ := List.mem_map.mp hy
    exact h1 a b
  · rcases h2 with h2 | h2
    · refine .inl fun x hx => ?_
      obtain ⟨a, _, rfl⟩ := List.mem_map.mp hx
      obtain ⟨y, r, e⟩ := h2 a
      rw [e]
    · refine .inr fun x hx => ?_
      obtain ⟨a, _, rfl⟩ := List.mem_map.mp hx
      obtain ⟨i, e⟩ := h2 a
      rw [e]
  · obtain ⟨a, _, rfl⟩ := List.mem_map.mp hx
    exact h4 a
theorem gSort_esD {l : List FT.Ed} (h : l.length ≤ 1000000) : gSort [.list (l.map eD)] = some ((sortE l).map eD) := by
  show (if srtOk (l.map eD) then some (srt (l.map eD)) else none) = _
  rw [srtOk_map alike_eD (.inl fun a => ⟨_, _, rfl⟩) h (fun a => by rw [depth_eD]; decide), srt_map dle_eD]; rfl
theorem gSort_nsD {l : List Nat} (h : l.length ≤ 1000000) : gSort [.list (l.map nD)] = some ((sortN l).map nD) := by
  show (if srtOk (l.map nD) then some (srt (l.map nD)) else none) = _
  rw [srtOk_map (f := nD) (fun _ _ => rfl) (.inr fun a => ⟨(a : Int), rfl⟩) h (fun a => Nat.zero_le _), srt_map dle_nD]; rfl
theorem gSortT_nsD {l : List Nat} (h : l.length ≤ 1000000) : gSort [.tuple (l.map nD)] = some ((sortN l).map nD) := by
  show (if srtOk (l.map nD) then some (srt (l.map nD)) else none) = _
  rw [srtOk_map (f := nD) (fun _ _ => rfl) (.inr fun a => ⟨(a : Int), rfl⟩) h (fun a => Nat.zero_le _), srt_map dle_nD]; rfl
theorem sortE_perm (l : List FT.Ed) : (sortE l).Perm l := List.mergeSort_perm l eLe
theorem sortN_perm (l : List Nat) : (sortN l).Perm l := List.mergeSort_perm l _
theorem eLe_trans (a b c : FT.Ed) : eLe a b = true → eLe b c = true → eLe a c = true := by
  unfold eLe; simp only [decide_eq_true_eq]; omega
theorem eLe_total (a b : FT.Ed) : (eLe a b || eLe b a) = true := by
  unfold eLe; simp only [Bool.or_eq_true, decide_eq_true_eq]; omega
theorem sortE_sorted (l : List FT.Ed) : (sortE l).Pairwise fun a b => eLe a b = true := List.pairwise_mergeSort eLe_trans eLe_total l
theorem sortN_sorted (l : List Nat) : (sortN l).Pairwise fun a b => a ≤ b := by
  have := List.pairwise_mergeSort (le := fun a b : Nat => decide (a ≤ b)) (fun a b c => by simp; omega) (fun a b => by simp; omega) l
  exact this.imp fun h => by simpa using h
theorem sortE_strict {l : List FT.Ed} (h : l.Nodup) : (sortE l).Pairwise fun a b => eLt a b = true := by
  have h1 := sortE_sorted l
  have h2 : (sortE l).Nodup := (sortE_perm l).symm.nodup h
  exact h1.imp₂ (S := fun a b => a ≠ b) (fun a b p q => by
    obtain ⟨a1, a2⟩ := a
    obtain ⟨b1, b2⟩ := b
    unfold eLe at p
    unfold eLt
    simp only [decide_eq_true_eq, ne_eq, Prod.mk.injEq] at p q ⊢
    omega) h2
theorem gLt_eD (p q : FT.Ed) : gLt (eD p) (eD q) = some (.bool (eLt p q)) := by
  show (match intsOf [.int (p.1 : Int), .int (p.2 : Int)], intsOf [.int (q.1 : Int), .int (q.2 : Int)] with
    | some ns, some ms => some (PyData.bool (HT.lexLt ns ms))
    | _, _ => none) = _
  simp only [intsOf_cons, intsOf_nil, Option.map_some]
  rw [HT.lexLt_cons, HT.lexLt_cons, HT.lexLt_nil_nil]
  unfold eLt
  congr 1
  by_cases h1 : (p.1 : Int) = q.1
  · rw [if_pos h1]
    by_cases h2 : (p.2 : Int) = q.2
    · rw [if_pos h2]; symm; simp; omega
    · rw [if_neg h2]; congr 1; exact decide_eq_decide.mpr (by omega)
  · rw [if_neg h1]; congr 1; exact decide_eq_decide.mpr (by omega)
/-! loops -/
theorem forL_inv {g : D → En → Option En} {F : En → Re Fl} (I : Nat → En → Prop) : ∀ (ds : List D) (k : Nat) (δ : En), I k δ →
    (∀ i d δ, ds[i]? = some d → I (k + i) δ → ∃ δ1 δ2, g d δ = some δ1 ∧ (F δ1 = .ok (.nx δ2) ∨ F δ1 = .ok (.ct δ2)) ∧ I (k + i + 1) δ2) → ∃ δ', forL g F ds δ = .ok (.nx δ') ∧ I (k + ds.length) δ'
  | [], k, δ, h0, _ => ⟨δ, rfl, h0⟩
  | d :: ds, k, δ, h0, hs => by
    obtain ⟨δ1, δ2, e1, e2, h2⟩ := hs 0 d δ rfl h0
    obtain ⟨δ', e3, h3⟩ := forL_inv I ds (k + 1) δ2 h2 fun i d δ hi h => by
      obtain ⟨a, b, q1, q2, q3⟩ := hs (i + 1) d δ (by simpa using hi) (by rw [show k + (i + 1) = k + 1 + i by omega]; exact h)
      exact ⟨a, b, q1, q2, by rw [show k + 1 + i + 1 = k + (i + 1) + 1 by omega]; exact q3⟩
    refine ⟨δ', ?_, by rw [List.length_cons, show k + (ds.length + 1) = k + 1 + ds.length by omega]; exact h3⟩
    unfold forL
    rw [e1]
    rcases e2 with e2 | e2 <;> simp only [opt_some, Re.bd_ok, e2] <;> exact e3
/-- .. with items that stand for something -/
theorem forL_map {α : Type} {f : α → D} {g : D → En → Option En} {F : En → Re Fl} (I : Nat → En → Prop) (l : List α) (δ : En) (h0 : I 0 δ)
    (hs : ∀ i a δ, l[i]? = some a → I i δ → ∃ δ1 δ2, g (f a) δ = some δ1 ∧ (F δ1 = .ok (.nx δ2) ∨ F δ1 = .ok (.ct δ2)) ∧ I (i + 1) δ2) : ∃ δ', forL g F (l.map f) δ = .ok (.nx δ') ∧ I l.length δ' := by
  have := forL_inv (g := g) (F := F) I (l.map f) 0 δ h0 fun i d δ hi h => by
    rw [List.getElem?_map] at hi
    obtain ⟨a, ha, rfl⟩ := Option.map_eq_some_iff.mp hi
    rw [Nat.zero_add] at h ⊢
    exact hs i a δ ha h
  simpa using this
/-- .. that may end early: hands back d -/
theorem forL_find {α : Type} {f : α → D} {g : D → En → Option En} {F : En → Re Fl} (I : Nat → En → Prop) (R : D → En → Prop) : ∀ (l : List α) (k : Nat) (δ : En), I k δ →
    (∀ i a δ, l[i]? = some a → I (k + i) δ → ∃ δ1, g (f a) δ = some δ1 ∧ ((∃ δ2, (F δ1 = .ok (.nx δ2) ∨ F δ1 = .ok (.ct δ2)) ∧ I (k + i + 1) δ2) ∨ ∃ d δ2, F δ1 = .ok (.rt d δ2) ∧ R d δ2)) →
    (∃ δ', forL g F (l.map f) δ = .ok (.nx δ') ∧ I (k + l.length) δ') ∨ ∃ d δ', forL g F (l.map f) δ = .ok (.rt d δ') ∧ R d δ'
  | [], k, δ, h0, _ => .inl ⟨δ, rfl, h0⟩
  | a :: l, k, δ, h0, hs => by
    obtain ⟨δ1, e1, h⟩ := hs 0 a δ rfl h0
    rw [List.map_cons]
    unfold forL
    rw [e1]
    simp only [opt_some, Re.bd_ok]
    rcases h with ⟨δ2, e2, h2⟩ | ⟨d, δ2, e2, r⟩
    · have := forL_find (g := g) (F := F) I R l (k + 1) δ2 h2 fun i a δ hi h => by
        obtain ⟨δ1, q1, q2⟩ := hs (i + 1) a δ (by simpa using hi) (by rw [show k + (i + 1) = k + 1 + i by omega]; exact h)
        refine ⟨δ1, q1, ?_⟩
        rw [show k + 1 + i + 1 = k + (i + 1) + 1 by omega]; exact q2
      rw [List.length_cons, show k + (l.length + 1) = k + 1 + l.length by omega]
      rcases e2 with e2 | e2 <;> simp only [e2] <;> exact this
    · refine .inr ⟨d, δ2, ?_, r⟩
      simp only [e2]
/-! comprehensions without effects -/
theorem lcP_all {α : Type} {f : α → D} {g : D → En → Option En} {t : En → Re Bool} {e : En → Re D} {δ : En} {p : α → Bool} {h : α → D} : ∀ (l : List α), (∀ a ∈ l, ∃ δ1, g (f a) δ = some δ1 ∧ t δ1 = .ok (p a) ∧ (p a = true → e δ1 = .ok (h a))) → lcP g t e (l.map f) δ = .ok ((l.filter p).map h)
  | [], _ => rfl
  | a :: l, hs => by
    obtain ⟨δ1, e1, e2, e3⟩ := hs a (List.mem_cons_self ..)
    have ih := lcP_all l fun b hb => hs b (List.mem_cons_of_mem _ hb)
    rw [List.map_cons]
    unfold lcP
    simp only [e1, e2, nb_ok]
    cases hp : p a with
    | true => simp only [e3 hp, nb_ok, ih, List.filter_cons, hp, if_true, List.map_cons]
    | false => simp only [ih, List.filter_cons, hp, Bool.false_eq_true, if_false]
theorem pLc_all {α : Type} {f : α → D} {fi : En → Re (List D)} {vs : List Nat} {g : D → En → Option En} {t : En → Re Bool} {e : En → Re D} {δ : En} {p : α → Bool} {h : α → D} {l : List α} (hi : fi δ = .ok (l.map f)) (hl : l.length ≤ 1000000) (hc : chk δ vs = true)
    (hs : ∀ a ∈ l, ∃ δ1, g (f a) (wp δ vs) = some δ1 ∧ t δ1 = .ok (p a) ∧ (p a = true → e δ1 = .ok (h a))) : pLc fi vs g t e δ = .ok ((l.filter p).map h) := by
  unfold pLc
  rw [hi]
  simp only [Re.bd_ok]
  rw [if_pos ⟨by rw [List.length_map]; exact hl, hc⟩, lcP_all l hs]; rfl
theorem pLc_map {α : Type} {f : α → D} {fi : En → Re (List D)} {vs : List Nat} {g : D → En → Option En} {e : En → Re D} {δ : En} {h : α → D} {l : List α} (hi : fi δ = .ok (l.map f)) (hl : l.length ≤ 1000000) (hc : chk δ vs = true)
    (hs : ∀ a ∈ l, ∃ δ1, g (f a) (wp δ vs) = some δ1 ∧ e δ1 = .ok (h a)) : pLc fi vs g (fun _ => .ok true) e δ = .ok (l.map h) := by
  rw [pLc_all (p := fun _ => true) hi hl hc fun a ha => by
    obtain ⟨δ1, e1, e2⟩ := hs a ha
    exact ⟨δ1, e1, rfl, fun _ => e2⟩, List.filter_eq_self.mpr fun _ _ => rfl]
theorem lcL_pure {vs : List Nat} {g : D → En → Option En} {t : En → Re Bool} {e : En → Re D} {δ : En} (hg : ∀ d δ1, g d δ = some δ1 → wp δ1 vs = δ) : ∀ (ds : List D), lcL vs g (Pu t) (Pu e) ds δ = nb (lcP g t e ds δ) fun r => .ok (r, δ)
  | [] => rfl
  | d :: ds => by
    unfold lcL lcP
    cases h : g d δ with
    | none => rfl
    | some δ1 =>
      simp only [Pu_ap]
      cases ht : t δ1 with
      | ok b =>
        simp only [Re.bd_ok, nb_ok]
        cases b with
        | true =>
          simp only
          cases he : e δ1 with
          | ok x =>
            simp only [Re.bd_ok, nb_ok]
            rw [hg d δ1 h, lcL_pure hg ds]
            cases lcP g t e ds δ <;> rfl
          | _ => rfl
        | false =>
          simp only
          rw [hg d δ1 h, lcL_pure hg ds]
      | _ => rfl
/-! comprehensions, for simp -/
def okSl : Option Sl → Bool
  | some (.sh _) => true
  | some .no => true
  | _ => false
@[simp] theorem okSl_sh (d : D) : okSl (some (.sh d)) = true := (rfl)
@[simp] theorem okSl_no : okSl (some .no) = true := (rfl)
@[simp] theorem chk_nil (δ : En) : chk δ [] = true := (rfl)
@[simp] theorem chk_cons (δ : En) (v : Nat) (vs : List Nat) : chk δ (v :: vs) = (okSl δ[v]? && chk δ vs) := (rfl)
@[simp] theorem wp_nil (δ : En) : wp δ [] = δ := (rfl)
@[simp] theorem wp_cons (δ : En) (v : Nat) (vs : List Nat) : wp δ (v :: vs) = (wp δ vs).set v .no := (rfl)
@[simp] theorem rs_nil (δ0 δ : En) : rs δ0 δ [] = δ := (rfl)
@[simp] theorem rs_cons (δ0 δ : En) (v : Nat) (vs : List Nat) : rs δ0 δ (v :: vs) = rs δ0 (δ.set v (δ0.getD v .no)) vs := (rfl)
theorem nb_lcP {g : D → En → Option En} {t : En → Re Bool} {e : En → Re D} {δ : En} : ∀ (ds : List D), nb (lcP g t e ds δ) .ok = lcP g t e ds δ
  | [] => rfl
  | d :: ds => by
    have ih := nb_lcP (g := g) (t := t) (e := e) (δ := δ) ds
    unfold lcP
    cases g d δ with
    | none => rfl
    | some δ1 =>
      simp only
      cases t δ1 with
      | ok b =>
        simp only [nb_ok]
        cases b with
        | true =>
          simp only
          cases e δ1 with
          | ok x =>
            simp only [nb_ok]
            cases lcP g t e ds δ <;> rfl
          | _ => rfl
        | false => exact ih
      | _ => rfl
def pLc1 (vs : List Nat) (g : D → En → Option En) (t : En → Re Bool) (f : En → Re D) (δ : En) (ds : List D) : Re (List D) := if ds.length ≤ 1000000 ∧ chk δ vs = true then lcP g t f ds (wp δ vs) else .bad
@[simp] theorem pLc1_ap (vs : List Nat) (g : D → En → Option En) (t : En → Re Bool) (f : En → Re D) (δ : En) (ds : List D) : pLc1 vs g t f δ ds = if ds.length ≤ 1000000 ∧ chk δ vs = true then lcP g t f ds (wp δ vs) else .bad := (rfl)
@[simp] theorem pLc_ap (fi : En → Re (List D)) (vs : List Nat) (g : D → En → Option En) (t : En → Re Bool) (f : En → Re D) (δ : En) : pLc fi vs g t f δ = (fi δ).bd (pLc1 vs g t f δ) := by
  unfold pLc pLc1
  congr 1
  funext ds
  rw [nb_lcP]
def eLc2 (vs : List Nat) (δ : En) (q : List D × En) : Re (List D × En) := .ok (q.1, rs δ q.2 vs)
@[simp] theorem eLc2_ap (vs : List Nat) (δ δ' : En) (l : List D) : eLc2 vs δ (l, δ') = .ok (l, rs δ δ' vs) := (rfl)
def eLc1 (vs : List Nat) (g : D → En → Option En) (t : En → Re (Bool × En)) (f : En → Re (D × En)) (p : List D × En) : Re (List D × En) := if p.1.length ≤ 1000000 ∧ chk p.2 vs = true then nb (lcL vs g t f p.1 (wp p.2 vs)) (eLc2 vs p.2) else .bad
@[simp] theorem eLc1_ap (vs : List Nat) (g : D → En → Option En) (t : En → Re (Bool × En)) (f : En → Re (D × En)) (ds : List D) (δ : En) : eLc1 vs g t f (ds, δ) = if ds.length ≤ 1000000 ∧ chk δ vs = true then nb (lcL vs g t f ds (wp δ vs)) (eLc2 vs δ) else .bad := (rfl)
@[simp] theorem eLc_ap (fi : En → Re (List D × En)) (vs : List Nat) (g : D → En → Option En) (t : En → Re (Bool × En)) (f : En → Re (D × En)) (δ : En) : eLc fi vs g t f δ = (fi δ).bd (eLc1 vs g t f) := (rfl)
@[simp] theorem lcP_nil (g : D → En → Option En) (t : En → Re Bool) (e : En → Re D) (δ : En) : lcP g t e [] δ = .ok [] := (rfl)
def lcP3 (x : D) (r : List D) : Re (List D) := .ok (x :: r)
@[simp] theorem lcP3_ap (x : D) (r : List D) : lcP3 x r = .ok (x :: r) := (rfl)
theorem lcP_map {α : Type} {f : α → D} {g : D → En → Option En} {e : En → Re D} {δ : En} (h : α → D) (l : List α) (hs : ∀ a ∈ l, ∃ δ1, g (f a) δ = some δ1 ∧ e δ1 = .ok (h a)) : lcP g (fun _ => .ok true) e (l.map f) δ = .ok (l.map h) := by
  rw [lcP_all (p := fun _ => true) l fun a ha => by
    obtain ⟨δ1, e1, e2⟩ := hs a ha
    exact ⟨δ1, e1, rfl, fun _ => e2⟩, List.filter_eq_self.mpr fun _ _ => rfl]
theorem lcL_all {α : Type} {f : α → D} {vs : List Nat} {g : D → En → Option En} {t : En → Re Bool} {e : En → Re D} {δ : En} (p : α → Bool) (h : α → D) : ∀ (l : List α), (∀ a ∈ l, ∃ δ1, g (f a) δ = some δ1 ∧ wp δ1 vs = δ ∧ t δ1 = .ok (p a) ∧ (p a = true → e δ1 = .ok (h a))) → lcL vs g (Pu t) (Pu e) (l.map f) δ = .ok ((l.filter p).map h, δ)
  | [], _ => rfl
  | a :: l, hs => by
    obtain ⟨δ1, e1, e4, e2, e3⟩ := hs a (List.mem_cons_self ..)
    have ih := lcL_all (vs := vs) (g := g) (t := t) (e := e) p h l fun b hb => hs b (List.mem_cons_of_mem _ hb)
    rw [List.map_cons]
    unfold lcL
    simp only [e1, Pu_ap, e2, Re.bd_ok, nb_ok]
    cases hp : p a with
    | true => simp only [e3 hp, Re.bd_ok, nb_ok, e4, ih, List.filter_cons, hp, if_true, List.map_cons]
    | false => simp only [e4, ih, List.filter_cons, hp, Bool.false_eq_true, if_false]
theorem lcL_map {α : Type} {f : α → D} {vs : List Nat} {g : D → En → Option En} {e : En → Re D} {δ : En} (h : α → D) (l : List α) (hs : ∀ a ∈ l, ∃ δ1, g (f a) δ = some δ1 ∧ wp δ1 vs = δ ∧ e δ1 = .ok (h a)) : lcL vs g (Pu fun _ => .ok true) (Pu e) (l.map f) δ = .ok (l.map h, δ) := by
  rw [lcL_all (fun _ => true) h l fun a ha => by
    obtain ⟨δ1, e1, e2, e3⟩ := hs a ha
    exact ⟨δ1, e1, e2, rfl, fun _ => e3⟩, List.filter_eq_self.mpr fun _ _ => rfl]
/-- .. with effects on other slots: an invariant of what has been made and of the state -/
theorem lcL_inv {α : Type} {f : α → D} {vs : List Nat} {g : D → En → Option En} {e : En → Re (D × En)} (I : Nat → List D → En → Prop) : ∀ (l : List α) (k : Nat) (out : List D) (δ : En), I k out δ →
    (∀ i a out δ, l[i]? = some a → I (k + i) out δ → ∃ δ1 d δ2, g (f a) δ = some δ1 ∧ e δ1 = .ok (d, δ2) ∧ I (k + i + 1) (out ++ [d]) (wp δ2 vs)) → ∃ r δ', lcL vs g (Pu fun _ => .ok true) e (l.map f) δ = .ok (r, δ') ∧ I (k + l.length) (out ++ r) δ'
  | [], k, out, δ, h0, _ => ⟨[], δ, rfl, by simpa using h0⟩
  | a :: l, k, out, δ, h0, hs => by
    obtain ⟨δ1, d, δ2, e1, e2, h2⟩ := hs 0 a out δ rfl h0
    obtain ⟨r, δ', e3, h3⟩ := lcL_inv (g := g) (e := e) I l (k + 1) (out ++ [d]) (wp δ2 vs) h2 fun i a out δ hi h => by
      have := hs (i + 1) a out δ (by simpa using hi) (by rw [show k + (i + 1) = k + 1 + i by omega]; exact h)
      rw [show k + 1 + i + 1 = k + (i + 1) + 1 by omega]; exact this
    refine ⟨d :: r, δ', ?_, by rw [List.length_cons, show k + (l.length + 1) = k + 1 + l.length by omega, show out ++ d :: r = out ++ [d] ++ r by simp]; exact h3⟩
    rw [List.map_cons]
    unfold lcL
    simp only [e1, Pu_ap, Re.bd_ok, nb_ok, e2, e3]
/-! what a computation ends with -/
def Wr {α : Type} (r : Re α) (Q : α → Prop) : Prop := ∃ a, r = .ok a ∧ Q a
@[simp] theorem Wr_ok {α : Type} (a : α) (Q : α → Prop) : Wr (.ok a) Q ↔ Q a := ⟨fun ⟨_, e, q⟩ => by cases e; exact q, fun q => ⟨a, rfl, q⟩⟩
theorem Wr_bd {α β : Type} {x : Re α} {k : α → Re β} {Q : β → Prop} : Wr (x.bd k) Q ↔ Wr x fun a => Wr (k a) Q := by
  cases x with
  | ok a => simp
  | bad => exact ⟨fun ⟨_, e, _⟩ => (nomatch e), fun ⟨_, e, _⟩ => (nomatch e)⟩
  | er e => exact ⟨fun ⟨_, e, _⟩ => (nomatch e), fun ⟨_, e, _⟩ => (nomatch e)⟩
theorem Wr_nb {α β : Type} {x : Re α} {k : α → Re β} {Q : β → Prop} : Wr (nb x k) Q ↔ Wr x fun a => Wr (k a) Q := by
  cases x with
  | ok a => simp
  | bad => exact ⟨fun ⟨_, e, _⟩ => (nomatch e), fun ⟨_, e, _⟩ => (nomatch e)⟩
  | er e => exact ⟨fun ⟨_, e, _⟩ => (nomatch e), fun ⟨_, e, _⟩ => (nomatch e)⟩
theorem Wr.imp {α : Type} {r : Re α} {Q Q' : α → Prop} (h : Wr r Q) (w : ∀ a, Q a → Q' a) : Wr r Q' := by
  obtain ⟨a, e, q⟩ := h; exact ⟨a, e, w a q⟩
theorem Wr.of {α : Type} {r : Re α} {a : α} {Q : α → Prop} (e : r = .ok a) (q : Q a) : Wr r Q := ⟨a, e, q⟩
theorem Wr.eq {α : Type} {r : Re α} {a : α} : Wr r (fun x => x = a) ↔ r = .ok a := ⟨fun ⟨_, e, q⟩ => q ▸ e, fun e => ⟨a, e, rfl⟩⟩
def InL (I : En → Prop) (Q : Fl → Prop) : Fl → Prop
  | .nx δ => I δ
  | .ct δ => I δ
  | .bk δ => Q (.nx δ)
  | .rt d δ => Q (.rt d δ)
  | .rf d δ => Q (.rf d δ)
@[simp] theorem InL_nx (I : En → Prop) (Q : Fl → Prop) (δ : En) : InL I Q (.nx δ) = I δ := (rfl)
@[simp] theorem InL_ct (I : En → Prop) (Q : Fl → Prop) (δ : En) : InL I Q (.ct δ) = I δ := (rfl)
@[simp] theorem InL_bk (I : En → Prop) (Q : Fl → Prop) (δ : En) : InL I Q (.bk δ) = Q (.nx δ) := (rfl)
@[simp] theorem InL_rt (I : En → Prop) (Q : Fl → Prop) (d : D) (δ : En) : InL I Q (.rt d δ) = Q (.rt d δ) := (rfl)
@[simp] theorem InL_rf (I : En → Prop) (Q : Fl → Prop) (d : List D) (δ : En) : InL I Q (.rf d δ) = Q (.rf d δ) := (rfl)
theorem Wr_for {α : Type} {f : α → D} {g : D → En → Option En} {F : En → Re Fl} {Q : Fl → Prop} (I : Nat → En → Prop) : ∀ (l : List α) (k : Nat) (δ : En), I k δ →
    (∀ i a δ, l[i]? = some a → I (k + i) δ → Wr (opt (g (f a) δ)) fun δ1 => Wr (F δ1) (InL (I (k + i + 1)) Q)) → (∀ δ, I (k + l.length) δ → Q (.nx δ)) → Wr (forL g F (l.map f) δ) Q
  | [], k, δ, h0, _, hq => ⟨_, rfl, hq δ h0⟩
  | a :: l, k, δ, h0, hs, hq => by
    obtain ⟨δ1, e1, fl, e2, h2⟩ := hs 0 a δ rfl h0
    have e1' : g (f a) δ = some δ1 := by
      cases h : g (f a) δ with
      | none => rw [h] at e1; cases e1
      | some x => rw [h] at e1; cases e1; rfl
    have go : ∀ δ2, I (k + 1) δ2 → Wr (forL g F (l.map f) δ2) Q := fun δ2 h2 => Wr_for I l (k + 1) δ2 h2 (fun i a δ hi h => by
      have := hs (i + 1) a δ (by simpa using hi) (by rw [show k + (i + 1) = k + 1 + i by omega]; exact h)
      rw [show k + 1 + i + 1 = k + (i + 1) + 1 by omega]; exact this) fun δ h => hq δ (by rw [List.length_cons, show k + (l.length + 1) = k + 1 + l.length by omega]; exact h)
    rw [List.map_cons]
    unfold forL
    rw [e1']
    simp only [opt_some, Re.bd_ok, e2]
    cases fl with
    | nx δ2 => exact go δ2 h2
    | ct δ2 => exact go δ2 h2
    | bk δ2 => exact ⟨_, rfl, h2⟩
    | rt d δ2 => exact ⟨_, rfl, h2⟩
    | rf d δ2 => exact ⟨_, rfl, h2⟩
theorem Wr_for0 {α : Type} {f : α → D} {g : D → En → Option En} {F : En → Re Fl} {Q : Fl → Prop} {l : List α} {δ : En} (I : Nat → En → Prop) (h0 : I 0 δ)
    (hs : ∀ i a δ, l[i]? = some a → I i δ → Wr (opt (g (f a) δ)) fun δ1 => Wr (F δ1) (InL (I (i + 1)) Q)) (hq : ∀ δ, I l.length δ → Q (.nx δ)) : Wr (forL g F (l.map f) δ) Q :=
  Wr_for I l 0 δ h0 (fun i a δ hi h => by rw [Nat.zero_add] at h ⊢; exact hs i a δ hi h) fun δ h => hq δ (by simpa using h)
theorem Wr_lcL {α : Type} {f : α → D} {vs : List Nat} {g : D → En → Option En} {e : En → Re (D × En)} {l : List α} {δ : En} {Q : List D × En → Prop} (I : Nat → List D → En → Prop) (h0 : I 0 [] δ)
    (hs : ∀ i a out δ, l[i]? = some a → I i out δ → Wr (opt (g (f a) δ)) fun δ1 => Wr (e δ1) fun q => I (i + 1) (out ++ [q.1]) (wp q.2 vs)) (hq : ∀ r δ, I l.length r δ → Q (r, δ)) : Wr (lcL vs g (Pu fun _ => .ok true) e (l.map f) δ) Q := by
  obtain ⟨r, δ', e1, h⟩ := lcL_inv (f := f) (vs := vs) (g := g) (e := e) I l 0 [] δ h0 fun i a out δ hi h => by
    rw [Nat.zero_add] at h ⊢
    obtain ⟨δ1, e1, q, e2, h2⟩ := hs i a out δ hi h
    refine ⟨δ1, q.1, q.2, ?_, e2, h2⟩
    cases h : g (f a) δ with
    | none => rw [h] at e1; cases e1
    | some x => rw [h] at e1; cases e1; rfl
  exact ⟨_, e1, hq _ _ (by simpa using h)⟩
theorem Wr_P {np n : Nat} {F : En → Re Fl} {ds : List D} {Q : D → Prop} (h : ds.length = np) (w : Wr (F (en0 n ds)) fun fl => Wr (resP fl) Q) : Wr (dfP np n F ds) Q := by rw [dfP_ap _ _ _ _ h, Wr_bd]; exact w
theorem Wr_PF {np n : Nat} {F : En → Re Fl} {ds : List D} {Q : List D → Prop} (h : ds.length = np) (w : Wr (F (en0 n ds)) fun fl => Wr (resPF fl) Q) : Wr (dfPF np n F ds) Q := by rw [dfPF_ap _ _ _ _ h, Wr_bd]; exact w
theorem Wr_M {np n : Nat} {F : En → Re Fl} {src ds : List D} {Q : D × List D → Prop} (h : ds.length = np) (w : Wr (F (en1 n src ds)) fun fl => Wr (resM fl) Q) : Wr (dfM np n F src ds) Q := by rw [dfM_ap _ _ _ _ _ h, Wr_bd]; exact w
theorem Wr_MF {np n : Nat} {F : En → Re Fl} {src ds : List D} {Q : List D × List D → Prop} (h : ds.length = np) (w : Wr (F (en1 n src ds)) fun fl => Wr (resMF fl) Q) : Wr (dfMF np n F src ds) Q := by rw [dfMF_ap _ _ _ _ _ h, Wr_bd]; exact w
theorem dle_int (p q : Int) : PySem.W.dataLe false id (.int p) (.int q) = decide (p ≤ q) := by
  have h := congrFun (congrFun (PySem.W.dataLe_int (β := Int) (fun p => p)) p) q
  exact h
theorem mergeSort2 {α : Type} (le : α → α → Bool) (a b : α) : [a, b].mergeSort le = if le a b = true then [a, b] else [b, a] := by
  simp [List.mergeSort, List.MergeSort.Internal.splitInTwo, List.merge]
theorem gSort2 (a b : Int) : gSort [.tuple [.int a, .int b]] = some (if a ≤ b then [.int a, .int b] else [.int b, .int a]) := by
  show (if srtOk [.int a, .int b] then some (srt [.int a, .int b]) else none) = _
  have e : srtOk [.int a, .int b] = true := by
    have := srtOk_map (f := fun i : Int => PyData.int i) (l := [a, b]) (fun _ _ => rfl) (.inr fun a => ⟨a, rfl⟩) (show 2 ≤ 1000000 by decide) (fun a => Nat.zero_le _)
    exact this
  rw [e]
  unfold srt
  rw [mergeSort2, dle_int]
  by_cases h : a ≤ b <;> simp [h]
theorem gSort2n (a b : Nat) : ∃ k g : Nat, gSort [.tuple [.int (a : Int), .int (b : Int)]] = some [.int (k : Int), .int (g : Int)] ∧ ((k = a ∧ g = b) ∨ (k = b ∧ g = a)) := by
  rw [gSort2]
  by_cases h : (a : Int) ≤ b
  · exact ⟨a, b, by rw [if_pos h], .inl ⟨rfl, rfl⟩⟩
  · exact ⟨b, a, by rw [if_neg h], .inr ⟨rfl, rfl⟩⟩
theorem cutD_from (xs : List D) (k : Nat) : cutD xs (some (k : Int)) none = xs.drop k := by
  unfold cutD
  rw [HT.sIx_nat, HT.sIx_none]
  by_cases h : k ≤ xs.length
  · rw [Nat.min_eq_left h, List.take_of_length_le (by rw [List.length_drop]; omega)]
  · rw [Nat.min_eq_right (by omega), List.drop_length, List.drop_eq_nil_of_le (by omega)]; simp
theorem cutD_to (xs : List D) (k : Nat) : cutD xs none (some (k : Int)) = xs.take k := by
  unfold cutD
  rw [HT.sIx_nat, HT.sIx_none]
  by_cases h : k ≤ xs.length
  · rw [Nat.min_eq_left h]; simp
  · rw [Nat.min_eq_right (by omega), List.take_of_length_le (show xs.length ≤ k by omega)]; simp
@[simp] theorem gSl_from1 (xs : List D) : gSl (.list xs) (some 1) none = some (.list xs.tail) := by
  show some (PyData.list (cutD xs (some ((1 : Nat) : Int)) none)) = _
  rw [cutD_from, List.drop_one]
@[simp] theorem gSl_from (xs : List D) (k : Nat) : gSl (.list xs) (some (k : Int)) none = some (.list (xs.drop k)) := by
  show some (PyData.list (cutD xs _ none)) = _
  rw [cutD_from]
@[simp] theorem gSl_to (xs : List D) (k : Nat) : gSl (.list xs) none (some (k : Int)) = some (.list (xs.take k)) := by
  show some (PyData.list (cutD xs none _)) = _
  rw [cutD_to]
theorem zip_map {α β : Type} (f : α → D) (h : β → D) (l : List α) (m : List β) : List.zipWith (fun x y => PyData.tuple [x, y]) (l.map f) (m.map h) = (l.zip m).map fun q => .tuple [f q.1, h q.2] := by
  rw [List.zipWith_map, List.zip, List.map_zipWith]
theorem gAll_true {α : Type} (l : List α) : gAll [.list (l.map fun _ => PyData.bool true)] = some (.bool true) := by
  rw [gAll_map (fun _ : α => true)]; simp
theorem mPopAt_nat {ds : List D} {r : Nat} (h : r < ds.length) (hl : ds.length ≤ 2 ^ 60) : mPopAt ds [.int (r : Int)] = some (ds.eraseIdx r, ds[r]) := by
  have e : seqIndex? (r : Int) ds.length = some r := (ixN_seq (ixN_nat h)).1
  unfold mPopAt
  simp only
  rw [if_pos (by omega), e]
  simp [h]
theorem map_erase {α : Type} (f : α → D) : ∀ (l : List α) (r : Nat), (l.map f).eraseIdx r = (l.eraseIdx r).map f
  | [], _ => rfl
  | _ :: _, 0 => rfl
  | a :: l, r + 1 => by simp [map_erase f l r]
theorem erase_perm {α : Type} : ∀ {l : List α} {r : Nat} (h : r < l.length), (l[r] :: l.eraseIdx r).Perm l
  | [], _, h => absurd h (Nat.not_lt_zero _)
  | _ :: _, 0, _ => List.Perm.refl _
  | a :: l, r + 1, h => by
    simp only [List.getElem_cons_succ, List.eraseIdx_cons_succ]
    exact (List.Perm.swap _ _ _).trans (List.Perm.cons a (erase_perm (by simpa using h)))
theorem gAdd_list {a b : List D} (h : a.length + b.length ≤ 1000000) : gAdd (.list a) (.list b) = some (.list (a ++ b)) := if_pos h
theorem good_sort {n : Nat} {ps : List FT.Ed} (h : ∀ p ∈ ps, p.1 < p.2 ∧ p.2 < n) (hd : ps.Nodup) : (∀ p ∈ sortE ps, p.1 < p.2 ∧ p.2 < n) ∧ (sortE ps).Pairwise fun a b => eLt a b = true :=
  ⟨fun p hp => h p ((sortE_perm ps).mem_iff.mp hp), sortE_strict hd⟩
theorem minmax (x y : Nat) : (if (y : Int) < (x : Int) then (y : Int) else (x : Int)) = ((min x y : Nat) : Int) ∧ (if (y : Int) > (x : Int) then (y : Int) else (x : Int)) = ((max x y : Nat) : Int) := by
  constructor <;> split <;> omega
@[simp] theorem gIx_eD0 (p : FT.Ed) : gIx (eD p) (.int 0) = some (.int (p.1 : Int)) := (rfl)
@[simp] theorem gIx_eD1 (p : FT.Ed) : gIx (eD p) (.int 1) = some (.int (p.2 : Int)) := (rfl)
theorem gNotIn_eD (p : FT.Ed) (l : List FT.Ed) : gNotIn (eD p) (.list (l.map eD)) = some (.bool (!decide (p ∈ l))) := by unfold gNotIn; rw [inD_eD]; rfl
theorem gIn_eD (p : FT.Ed) (l : List FT.Ed) : gIn (eD p) (.list (l.map eD)) = some (.bool (decide (p ∈ l))) := by unfold gIn; rw [inD_eD]; rfl
theorem gNotIn_nD (p : Nat) (l : List Nat) : gNotIn (.int (p : Int)) (.list (l.map nD)) = some (.bool (!decide (p ∈ l))) := by
  unfold gNotIn
  rw [show (PyData.int (p : Int)) = nD p from rfl, inD_nD]; rfl
theorem gIn_nD (p : Nat) (l : List Nat) : gIn (.int (p : Int)) (.list (l.map nD)) = some (.bool (decide (p ∈ l))) := by
  unfold gIn
  rw [show (PyData.int (p : Int)) = nD p from rfl, inD_nD]; rfl
theorem gNe_eD (p q : FT.Ed) : gNe (eD p) (eD q) = some (.bool (!decide (p = q))) := by unfold gNe; rw [eqD_eD]; rfl
theorem gEq_eD (p q : FT.Ed) : gEq (eD p) (eD q) = some (.bool (decide (p = q))) := by unfold gEq; rw [eqD_eD]; rfl
theorem gEq_esD (p q : List FT.Ed) : gEq (.list (p.map eD)) (.list (q.map eD)) = some (.bool (decide (p = q))) := by unfold gEq; rw [eqD_esD]; rfl
theorem gEq_nil : gEq (.list []) (.list []) = some (.bool true) := (rfl)
theorem gSort_add {l : List FT.Ed} (p : FT.Ed) (h : l.length + 1 ≤ 1000000) : gSort [.list (l.map eD ++ [eD p])] = some ((sortE (l ++ [p])).map eD) := by
  have := gSort_esD (l := l ++ [p]) (by simpa using h)
  rw [List.map_append] at this; exact this
end DL

/-! EV2: equations for simp: texts, lending, keywords -/
namespace DL
open PySem L2
def strOf : D → Re Str
  | .str a => .ok a
  | _ => .bad
@[simp] theorem strOf_s (a : Str) : strOf (.str a) = .ok a := (rfl)
def pM12 {α : Type} (g : Str → D → Option α) (a : Str) (q : D) : Re α := opt (g a q)
@[simp] theorem pM12_ap {α : Type} (g : Str → D → Option α) (a : Str) (q : D) : pM12 g a q = opt (g a q) := (rfl)
def pM11 {α : Type} (g : Str → D → Option α) (fe : En → Re D) (δ : En) (a : Str) : Re α := (fe δ).bd (pM12 g a)
@[simp] theorem pM11_ap {α : Type} (g : Str → D → Option α) (fe : En → Re D) (δ : En) (a : Str) : pM11 g fe δ a = (fe δ).bd (pM12 g a) := (rfl)
@[simp] theorem pM1_ap {α : Type} (g : Str → D → Option α) (fo fe : En → Re D) (δ : En) : pM1 g fo fe δ = ((fo δ).bd strOf).bd (pM11 g fe δ) := by
  unfold pM1
  cases fo δ with
  | ok x => cases x <;> rfl
  | _ => rfl
def strIt : D → Re (List D)
  | .str z => .ok (z.cps.toList.map fun k => .str ⟨#[k]⟩)
  | _ => .bad
@[simp] theorem strIt_s (z : Str) : strIt (.str z) = .ok (z.cps.toList.map fun k => .str ⟨#[k]⟩) := (rfl)
@[simp] theorem pSi_ap (f : En → Re D) (δ : En) : pSi f δ = (f δ).bd strIt := by
  unfold pSi; cases f δ with
  | ok x => cases x <;> rfl
  | _ => rfl
@[simp] theorem pIsi2_ap (T U : String) (fa : En → Re D) (δ : En) : pIsi2 T U fa δ = (fa δ).bd fun p => .ok (.bool (isiD p T || isiD p U)) := (rfl)
@[simp] theorem eIsi2_ap (T U : String) (fa : En → Re (D × En)) (δ : En) : eIsi2 T U fa δ = (fa δ).bd fun p => .ok (.bool (isiD p.1 T || isiD p.1 U), p.2) := (rfl)
def pRep1 (fb : En → Re D) (δ : En) (p : List D) : Re (List D) := (fb δ).bd fun q => opt (gRep p q)
@[simp] theorem pRep1_ap (fb : En → Re D) (δ : En) (p : List D) : pRep1 fb δ p = (fb δ).bd fun q => opt (gRep p q) := (rfl)
@[simp] theorem pRep_ap (ga : En → Re (List D)) (fb : En → Re D) (δ : En) : pRep ga fb δ = (ga δ).bd (pRep1 fb δ) := (rfl)
def pCk2 {α : Type} (m n : Nat) (ix : List Nat) (F : List D → Re α) (p q : List D) : Re α := if p.length = m ∧ q.length = n then F (pick ix (p ++ q)) else .bad
@[simp] theorem pCk2_ap {α : Type} (m n : Nat) (ix : List Nat) (F : List D → Re α) (p q : List D) : pCk2 m n ix F p q = if p.length = m ∧ q.length = n then F (pick ix (p ++ q)) else .bad := (rfl)
def pCk1 {α : Type} (m n : Nat) (ix : List Nat) (F : List D → Re α) (f2 : En → Re (List D)) (δ : En) (p : List D) : Re α := (f2 δ).bd (pCk2 m n ix F p)
@[simp] theorem pCk1_ap {α : Type} (m n : Nat) (ix : List Nat) (F : List D → Re α) (f2 : En → Re (List D)) (δ : En) (p : List D) : pCk1 m n ix F f2 δ p = (f2 δ).bd (pCk2 m n ix F p) := (rfl)
@[simp] theorem pCk_ap {α : Type} (m n : Nat) (ix : List Nat) (F : List D → Re α) (f1 f2 : En → Re (List D)) (δ : En) : pCk m n ix F f1 f2 δ = (f1 δ).bd (pCk1 m n ix F f2 δ) := (rfl)
@[simp] theorem pick_nil {α : Type} (l : List α) : pick [] l = [] := (rfl)
@[simp] theorem pick_0 {α : Type} (ix : List Nat) (a : α) (l : List α) : pick (0 :: ix) (a :: l) = a :: pick ix (a :: l) := (rfl)
@[simp] theorem pick_1 {α : Type} (ix : List Nat) (a b : α) (l : List α) : pick (1 :: ix) (a :: b :: l) = b :: pick ix (a :: b :: l) := (rfl)
@[simp] theorem pick_2 {α : Type} (ix : List Nat) (a b c : α) (l : List α) : pick (2 :: ix) (a :: b :: c :: l) = c :: pick ix (a :: b :: c :: l) := (rfl)
def borR : Re D → Re D
  | .ok d => if scal d then .ok d else .bad
  | _ => .bad
@[simp] theorem borR_ok (d : D) : borR (.ok d) = if scal d then .ok d else .bad := (rfl)
def lendA (is : List Nat) (k : Nat) : En → En
  | [] => []
  | s :: δ => lend1 is k s :: lendA is (k + 1) δ
theorem lendA_eq (is : List Nat) : ∀ (δ : En) (k : Nat), lendA is k δ = δ.mapIdx fun i s => lend1 is (k + i) s
  | [], k => rfl
  | s :: δ, k => by
    rw [List.mapIdx_cons, lendA, lendA_eq is δ (k + 1)]
    congr 1
    congr 1
    funext i s
    congr 1
    omega
theorem lend_A (is : List Nat) (δ : En) : lend is δ = lendA is 0 δ := by
  rw [lendA_eq]; unfold lend
  congr 1
  funext i s
  rw [Nat.zero_add]
@[simp] theorem lendA_nil (is : List Nat) (k : Nat) : lendA is k [] = [] := (rfl)
@[simp] theorem lendA_cons (is : List Nat) (k : Nat) (s : Sl) (δ : En) : lendA is k (s :: δ) = lend1 is k s :: lendA is (k + 1) δ := (rfl)
@[simp] theorem lend1_o (is : List Nat) (i : Nat) (ds : List D) : lend1 is i (.ow ds) = if i ∈ is then .sh (.list ds) else .no := (rfl)
@[simp] theorem lend1_s (is : List Nat) (i : Nat) (d : D) : lend1 is i (.sh d) = .sh d := (rfl)
@[simp] theorem lend1_n (is : List Nat) (i : Nat) : lend1 is i .no = .no := (rfl)
@[simp] theorem bor_ap (is : List Nat) (f : En → Re D) (δ : En) : bor is f δ = borR (f (lendA is 0 δ)) := by
  unfold bor borR; rw [lend_A]; try (cases f (lendA is 0 δ) <;> rfl)
@[simp] theorem scal_b (b : Bool) : scal (.bool b) = true := (rfl)
@[simp] theorem scal_s (b : Str) : scal (.str b) = true := (rfl)
@[simp] theorem scal_i (b : Int) : scal (.int b) = true := (rfl)
@[simp] theorem scal_n : scal .none = true := (rfl)
def paFF2 (i j : Nat) (p q : List D × En) : Re Fl := .ok (.nx ((q.2.set i (.ow p.1)).set j (.ow q.1)))
@[simp] theorem paFF2_ap (i j : Nat) (p q : List D × En) : paFF2 i j p q = .ok (.nx ((q.2.set i (.ow p.1)).set j (.ow q.1))) := (rfl)
def paFF1 (i j : Nat) (gb : En → Re (List D × En)) (p : List D × En) : Re Fl := (gb p.2).bd (paFF2 i j p)
@[simp] theorem paFF1_ap (i j : Nat) (gb : En → Re (List D × En)) (l : List D) (δ : En) : paFF1 i j gb (l, δ) = (gb δ).bd (paFF2 i j (l, δ)) := (rfl)
@[simp] theorem paFF_ap (i j : Nat) (ga gb : En → Re (List D × En)) (δ : En) : paFF i j ga gb δ = (ga δ).bd (paFF1 i j gb) := (rfl)
@[simp] theorem mClr_ap (ds : List D) : mClr ds [] = some ([], .none) := (rfl)
@[simp] theorem mRev_ap (ds : List D) : mRev ds [] = some (ds.reverse, .none) := (rfl)
/-! texts -/
theorem gJoin_strs (a : Str) (ys : List Str) (h : (ys.map (·.length)).sum + ys.length * a.length ≤ 16777216) : gJoin a (.list (ys.map .str)) = some (.str (Txt.join a ys)) := by
  simp only [gJoin, strsOf_map]
  exact if_pos h
theorem gSplit_str (a b : Str) (h1 : (b.length == 0) = false) (h : a.length + 2 ≤ 1000000) : gSplit a (.str b) = some ((Txt.split a b).map .str) := if_pos ⟨h1, h⟩
@[simp] theorem gEq_str (x y : Str) : gEq (.str x) (.str y) = some (.bool (decide (x = y))) := (rfl)
@[simp] theorem gNe_str (x y : Str) : gNe (.str x) (.str y) = some (.bool (!decide (x = y))) := (rfl)
theorem gAdd_str {x y : Str} (h : x.length + y.length ≤ 1000000) : gAdd (.str x) (.str y) = some (.str (x ++ y)) := if_pos h
@[simp] theorem isi_str (x : Str) : isiD (.str x) "str" = true := (rfl)
theorem gLen_str {z : Str} (h : z.length ≤ 1000000) : gLen [.str z] = some (.int z.length) := if_pos h
theorem gIn_sign (k : Nat) (z : Str) : gIn (.str ⟨#[k]⟩) (.str z) = some (.bool (decide (k ∈ z.cps.toList))) := (rfl)
theorem gIx_str {z : Str} (h : z.length ≤ 1000000) (i : Int) : gIx (.str z) (.int i) = (atI z.cps.toList i).map fun k => .str ⟨#[k]⟩ := if_pos h
@[simp] theorem gEnum_l (xs : List D) : gEnum [.list xs] = some (xs.mapIdx fun i x => .tuple [.int (i : Nat), x]) := (rfl)
theorem mapIdx_map {α : Type} (f : α → D) (l : List α) : ((l.map f).mapIdx fun i x => PyData.tuple [.int (i : Nat), x]) = l.zipIdx.map fun p => PyData.tuple [.int (p.2 : Nat), f p.1] := by
  rw [List.mapIdx_eq_zipIdx_map, List.zipIdx_map, List.map_map]; rfl
end DL

/-! DL15: len(set(xs)) of texts -/
namespace DL
open PySem PySem.Spec PyProof.Rows
/-- how many different texts stand among the first i -/
def met (xs : List Str) : Nat → Nat
  | 0 => 0
  | i + 1 => if (xs.take i).any (· == xs.getD i Str.empty) then met xs i else met xs i + 1
theorem met_le (xs : List Str) : ∀ i, met xs i ≤ i
  | 0 => Nat.le_refl _
  | i + 1 => by
    have := met_le xs i
    unfold met
    split <;> omega
section
variable {prog : Program} {w : World} {A : Around} {R : Result → Shared → Prop} {I : Addr} {fp wr : List Addr} {G : Array GenState → Array GenState → Prop} {n : Nat} {P : Nat → Value → Prop} {St : Nat → Shared → Prop}
def TxtSet (prog : Program) (w : World) (h : Heap) (S : Addr) (xs : List Str) (i : Nat) : Prop := h.SetOf (PySem.strKind prog w) S (fun y => (xs.take i).any (· == y)) (met xs i)
theorem loopTxt (W : WalksS prog w A.in1 I fp wr G n P St) (S : Addr) (off : S ∉ fp) (xs : List Str) (num : xs.length = n) (few : n + 1 < scanBound) (texts : ∀ i v, P i v → ∃ t, v = .str (xs.getD i Str.empty) t) :
    ∀ (k i : Nat) (s : Shared), n - i = k → i ≤ n → St i s → TxtSet prog w s.heap S xs i → (∀ s', Moved (S :: wr) G s s' → TxtSet prog w s'.heap S xs n → R (.ok (.ret .none)) s') →
      codeAny (model prog w) A (.builtin "set.update.loop" ⟨[.ref S, .ref I], []⟩) R s
  | 0, i, s, hk, hi, st, hS, fin => by
    have noS : S ∉ wr := fun z => off (W.sub _ z)
    obtain rfl : i = n := by omega
    refine codeAny_builtin PyProof.Rows.F.entry_set_update_loop ?_
    rw [Around.under_plainId PyProof.Rows.F.plain_set_update_loop _]
    show wpAny _ A.in1 (pyNext (.ref I) >>= _) _ _ s
    refine wpAny_bind (W.done s _ _ st fun s' mv => wpAny_pure ?_)
    obtain ⟨o, es, ep, t, ho, more⟩ := hS
    exact fin s' (mv.mono fun b hb => List.mem_cons_of_mem _ hb) ⟨o, es, ep, t, mv.heap S _ noS ho, more⟩
  | k + 1, i, s, hk, hi, st, hS, fin => by
    have noS : S ∉ wr := fun z => off (W.sub _ z)
    have lt : i < n := by omega
    have lt' : i < xs.length := by omega
    refine codeAny_builtin PyProof.Rows.F.entry_set_update_loop ?_
    rw [Around.under_plainId PyProof.Rows.F.plain_set_update_loop _]
    show wpAny _ A.in1 (pyNext (.ref I) >>= _) _ _ s
    refine wpAny_bind (W.item i s _ _ lt st fun v s' pv st' mv => ?_)
    obtain ⟨t, rfl⟩ := texts i v pv
    have hS' : TxtSet prog w s'.heap S xs i := by
      obtain ⟨o, es, ep, tb, ho, more⟩ := hS
      exact ⟨o, es, ep, tb, mv.heap S _ noS ho, more⟩
    show wpAny _ A.in1 (holding [Value.str (xs.getD i Str.empty) t] (setAdd S (.str (xs.getD i Str.empty) t)) >>= _) _ _ s'
    refine wpAny_bind (wpAny_holding ?_)
    unfold setAdd
    refine wpAny_holding (wpAny_bind ((PySem.strKind prog w).pyHash (k := xs.getD i Str.empty) (strKind_is _ _ _ _) ?_))
    have small := met_le xs i
    refine wpAny_setAddHashed_of (knd := PySem.strKind prog w) (s := { s' with toks := s'.toks + 1 }) (strKind_is _ _ _ _) rfl hS' (by omega) fun h' but grown => ?_
    have next : TxtSet prog w h' S xs (i + 1) := by
      refine SetOf_congr grown (fun y => ?_) rfl
      have et : xs.take (i + 1) = xs.take i ++ [xs.getD i Str.empty] := by
        rw [List.take_succ, List.getElem?_eq_getElem lt', List.getD_eq_getElem?_getD, List.getElem?_eq_getElem lt']; rfl
      rw [et, List.any_append]
      congr 1
      by_cases z : y = xs.getD i Str.empty
      · rw [z]; simp
      · have z' : (xs.getD i Str.empty == y) = false := by
          rw [beq_eq_false_iff_ne]; exact fun q => z q.symm
        simp only [List.any_cons, List.any_nil, z', Bool.or_false, decide_eq_false z]
    refine wpAny_pure ⟨plainId_quiet PyProof.Rows.F.plain_set_update_loop _, loopTxt W S off xs num few texts k (i + 1) _ (by omega) lt (W.frame _ s' _ _ st' (Nat.le_succ _) fun b hb o z => ?_) next fun s2 mv2 hS2 => ?_⟩
    · rw [but.2 b (fun q : b = S => off (by rw [← q]; exact hb))]; exact z
    · refine fin s2 (Moved.trans W.gtrans ((mv.mono fun b hb => List.mem_cons_of_mem _ hb).then_heap (Nat.le_succ _) fun b o hb z => ?_) mv2) hS2
      rw [but.2 b (fun q : b = S => hb (by rw [q]; exact List.mem_cons_self))]; exact z
end
section
variable {prog : Program} {w : World} {A : Around} {E : Value → Shared → Prop} {s : Shared}
def set0 (led : Bool) : Obj := { cls := .type "set", dict := none, data := .set #[] 0 (.fresh 0 0 led) }
theorem set_texts {l : Addr} {items : Array Value} {xs : List Str} {Q : Value → Shared → Prop} (free : A.handled = none) (isl : s.heap.IsList l items) (are : PyProof.Rows.StrsAre items.toList xs) (num : xs.length = items.size) (few : items.size + 1 < scanBound)
    (out : ∀ (h' : Heap) (tk : Nat), TxtSet prog w h' s.heap.objs.size xs items.size → (∀ b o, b < s.heap.objs.size → s.heap.get? b = some o → h'.get? b = some o) → Q (.ref s.heap.objs.size) { s with heap := h', toks := tk }) :
    wpAny (model prog w) A (call (.type "set") [.ref l]) Q E s := by
  obtain ⟨c, tl, mro⟩ := PySem.F.called_set.mro
  have made := PySem.F.called_set.made
  have subs := PySem.F.called_set.sub
  refine wpAny_call (codeAny_of_tree ?_)
  show wpAny _ _ (callAny (.type "set") _) _ _ _
  refine wpAny_pure ⟨Code.quiet_builtin _ (by decide +kernel), codeAny_builtin PySem.F.entry_type_call ?_⟩
  rw [Around.under_plain (weight_type_call_type "set" [.ref l] []) rfl]
  have f1 := PySem.F.called_set.notType
  have f2 := PySem.F.called_set.canCreate
  have f3 := PySem.F.typeCall_set_1 (.ref l)
  repeat (any_goals (first | assumption | wp_step))

  refine codeAny_mono (code_set_new_1 (.ref l) (E := E) (Q₁ := fun obj t => ∃ led : Bool, obj = .ref s.heap.objs.size ∧ t = { s with heap := s.heap.push (set0 led) }) fun led => ⟨led, rfl, rfl⟩) fun r t hr => ?_
  cases r with
  | error e => exact hr
  | ok fl =>
    cases fl with
    | ret obj =>
      obtain ⟨led, rfl, rfl⟩ := hr
      have at0 : (s.heap.push (set0 led)).get? s.heap.objs.size = some (set0 led) := Heap.get?_push_size _ rfl
      have ty : Shared.TypeIs { s with heap := s.heap.push (set0 led) } (.ref s.heap.objs.size) "set" := ⟨_, at0, rfl⟩
      have g1 := PySem.F.called_set.init.lookup
      have g2 := PySem.F.called_set.init.bind (.ref s.heap.objs.size)
      repeat (any_goals (first | assumption | wp_step))

      refine codeAny_mono (codeAny_call_builtin (R := wants (fun r u => r = .none ∧ ∃ h' tk, u = { s with heap := h', toks := tk } ∧ TxtSet prog w h' s.heap.objs.size xs items.size ∧ (∀ b o, b < s.heap.objs.size → s.heap.get? b = some o → h'.get? b = some o)) E) PySem.F.called_set.init.plain PySem.F.entry_set_init (check_set_init_1 ty ?_)) fun r2 u hr2 => ?_
      · obtain ⟨ol, hol, hcl, nl, hdl⟩ := isl
        obtain ⟨ocls, odict, odata, oslots⟩ := ol
        simp only at hcl hdl
        subst hcl hdl
        have at1 : (s.heap.push (set0 led)).get? l = some { cls := .type "list", dict := odict, data := .seq items nl, slots := oslots } := Heap.get?_push_of_some _ hol
        have n1 := PySem.F.sub_list_set
        have n2 := PySem.F.sub_list_frozenset
        have n3 : (Value.type "list" == Value.type "dict") = false := by decide
        have il : (s.heap.push (set0 led)).IsList l items := ⟨_, at1, rfl, nl, rfl⟩
        unfold Builtin.«set.__init__» noKeywords Builtin.Frozenset.updateFrom
        generalize hPI : pyIter = PI
        wp_walk
        subst hPI

        refine wpAny_pyIter_list il (wpAny_bind (wpAny_runValue ?_))
        have ls : l < s.heap.objs.size := Heap.lt_size hol
        have free3 : A.in1.in1.in1.handled = none := by simp [free]
        have ne1 : l ≠ (s.heap.push (set0 led)).objs.size := by
          rw [Heap.size_push]; exact Nat.ne_of_lt (Nat.lt_succ_of_lt ls)
        have off : s.heap.objs.size ∉ [(s.heap.push (set0 led)).objs.size, l] := by
          rw [Heap.size_push]
          simp only [List.mem_cons, List.not_mem_nil, or_false, not_or]
          exact ⟨Nat.ne_of_lt (Nat.lt_succ_self _), Nat.ne_of_gt ls⟩
        have texts : ∀ (i : Nat) (v : Value), items[i]? = some v → ∃ t, v = .str (xs.getD i Str.empty) t := fun i v hv => SS.strs_at are i v (by rw [Array.getElem?_toList]; exact hv)
        refine loopTxt ((Walks.list free3 _ l ne1 items).toS) s.heap.objs.size off xs num few texts (items.size - 0) 0 _ (by omega) (Nat.zero_le _) ⟨⟨_, Heap.get?_push_size _ rfl, rfl, rfl⟩, (il.push _)⟩ ?hS0 ?hR
        case hS0 =>
          have at2 : ((s.heap.push (set0 led)).push { cls := .type "list_iterator", data := .fields #[.ref l, .int 0 0] }).get? s.heap.objs.size = some (set0 led) := Heap.get?_push_of_some _ at0
          exact SetOf_congr ((setObjOf_fresh (knd := PySem.strKind prog w) led).setOf at2 (by unfold scanBound; omega)) (fun _ => rfl) rfl
        case hR =>
          rintro ⟨h', g', d', tk', os'⟩ mv hS'
          cases (show g' = s.gens from mv.gens)
          cases (show d' = s.drawn from mv.drawn)
          cases (show os' = s.os from mv.os)
          show wpAny _ _ _ _ _ _
          refine wpAny_pure ?_
          show wpAny _ _ (ret Value.none) _ _ _
          refine wpAny_pure ⟨rfl, h', tk', rfl, hS', fun b o hb z => mv.heap b o ?_ (Heap.get?_push_of_some _ (Heap.get?_push_of_some _ z))⟩
          simp only [List.mem_cons, List.not_mem_nil, or_false, not_or]
          exact ⟨Nat.ne_of_lt hb, by rw [Heap.size_push]; exact Nat.ne_of_lt (Nat.lt_succ_of_lt hb)⟩
      · cases r2 with
        | error e => exact hr2
        | ok fl2 =>
          cases fl2 with
          | ret r =>
            obtain ⟨rfl, h', tk, rfl, hS', kept⟩ := hr2
            repeat (any_goals (first | assumption | wp_step))
            exact out _ _ hS' kept
          | _ => exact hr2.elim
    | _ => exact hr.elim
end
end DL

/-! DL16: len(set(xs)) of texts, over data -/
namespace DL
open PySem L2
def gLenSet : D → Option D
  | .list ds => match strsOf ds with
    | some ys => if ys.length ≤ 4000 then some (.int (met ys ys.length)) else none
    | none => none
  | _ => none
section
variable {X : Cx} {c : DC} {E : XK} {a : Expr} {p p2 q pos : Pos} {fa : En → Re (D × En)}
theorem pe_lenSetTxt {ta : TE} (hc : X.calm = true) (hg : Gl X "len") (hm : X.mg "len" = none) (hg2 : Gl X "set") (hm2 : X.mg "set" = none) (ha : PE X a ta) (na : starEach [a] X.env = (false, eval a X.env) :: starEach [] X.env := by rfl) :
    PE X (.Call (.Name "len" p) [.Call (.Name "set" p2) [a] [] q] [] pos) (fun σ H Q => ta σ H fun x H1 => ∃ (l : Addr) (xs : List Str), x = .ref l ∧ SqL X.K H1 l (xs.map V.str) ∧ xs.length ≤ 4000 ∧ Q (.int (met xs xs.length)) H1) where
  run := fun pins s σ H Q I h => by
    refine PyProof.Rows.Call_ (ld_blt I hg hm boot_len (PyProof.Rows.callWith_builtin1 (PyProof.Rows.args_cons ?_ rfl) rfl rfl))
    refine PyProof.Rows.Call_ (ld_blt I hg2 hm2 PyProof.Rows.boot_set ?_)
    refine PyProof.Rows.callWith_type1 (PyProof.Rows.args_cons (thn (ha.run pins s σ H _ I h) fun v s1 ⟨x, H1, I1, r1, q1⟩ => PyProof.Rows.args_nil ?_) na) na rfl
    obtain ⟨l, xs, rfl, sq, few, q1⟩ := q1
    cases r1
    obtain ⟨its, r, pl, _⟩ := I1.list sq
    have num : its.toArray.size = xs.length := by rw [List.size_toArray, ← r.length, List.length_map]
    refine set_texts (I1.ok.hd hc) pl.isList (xs := xs) (by simpa using strsAre_of r) num.symm (by unfold PySem.scanBound; omega) fun h' tk hS kept => PyProof.Rows.args_nil ?_
    rw [num] at hS
    obtain ⟨o, es, ep, t, ho, hex, hd, _, _, _, hf, hn⟩ := hS
    have I2 : Inv X pins σ H1 { s1 with heap := h', toks := tk } := I1.kept fun b o z => kept b o (Heap.lt_size z) z
    have small := met_le xs xs.length
    exact call_len_set ho hex hd hf (by rw [hn]; omega) ⟨.int (met xs xs.length), H1, I2.tok _, ⟨_, by rw [hn]⟩, q1⟩
theorem e_lenSet (hm : X.mg "len" = none) (hm2 : X.mg "set" = none) (ha : PE X a (tD c E fa)) (hc : X.calm = true := by rfl) (hK : c.K = X.K := by rfl) (hg : Gl X "len" := by rfl) (hg2 : Gl X "set" := by rfl) (na : starEach [a] X.env = (false, eval a X.env) :: starEach [] X.env := by rfl) :
    PE X (.Call (.Name "len" p) [.Call (.Name "set" p2) [a] [] q] [] pos) (tD c E (eUn gLenSet fa)) := PE.imp (pe_lenSetTxt hc hg hm hg2 hm2 ha na) fun σ H Q ⟨Hs, G, δ, S, q⟩ =>
  ⟨Hs, G, δ, S, PoG.seq q fun d δ1 Hs1 H1 s1 q1 v S1 r1 => by
    obtain ⟨d2, hd, q3⟩ := PoG.last (k := fun d => (d, δ1)) q1
    unfold gLenSet at hd
    cases r1 with
    | @lst l vs ds h1 h2 =>
      simp only at hd
      cases hy : strsOf ds with
      | none => rw [hy] at hd; cases hd
      | some ys =>
        rw [hy] at hd
        simp only at hd
        split at hd
        · rename_i few
          cases hd
          have e := rpa_strsOf h2 hy
          subst e
          exact ⟨l, ys, rfl, by rw [← hK]; exact same_l S1.sh h1, few, q3 Hs1 H1 (Same.refl _) _ S1 (.int _)⟩
        · cases hd
    | _ => cases hd⟩
end
end DL

/-! DL17: methods of texts without values -/
namespace DL
open PySem L2
section
variable {X : Cx} {c : DC} {E : XK} {o e : Expr} {pos : Pos} {fo : En → Re (D × En)}
def gUpper : D → Option D
  | .str a => if a.length ≤ 1000000 then some (.str (Txt.upper a)) else none
  | _ => none
theorem e_upper {apos : Pos} (ho : PE X o (tD c E fo)) (hbase : attributeBase o "upper" X.env (eval o X.env) = eval o X.env := by rfl) (hline : (apos.endLine == pos.line) = true := by rfl) : PE X (.Call (.Attribute o "upper" apos) [] [] pos) (tD c E (eUn gUpper fo)) := PE.imp (pe_upper ho hbase hline) fun σ H Q ⟨Hs, G, δ, S, q⟩ =>
  ⟨Hs, G, δ, S, PoG.seq q fun d δ1 Hs1 H1 s1 q1 v S1 r1 => by
    obtain ⟨d2, hd, q3⟩ := PoG.last (k := fun d => (d, δ1)) q1
    unfold gUpper at hd
    cases r1 with
    | str a =>
      simp only at hd
      split at hd
      · rename_i few
        cases hd
        exact ⟨⟨a, rfl⟩, a, rfl, rfl, Nat.le_trans few (by decide), q3 Hs1 H1 (Same.refl _) _ S1 (.str _)⟩
      · cases hd
    | _ => cases hd⟩
/-- x[::-1] of a list: a new one -/
def eUnF (g : D → Option (List D)) (fa : En → Re (D × En)) : En → Re (List D × En) := fun δ => (fa δ).bd fun p => (opt (g p.1)).bd fun d => .ok (d, p.2)
def pUnF (g : D → Option (List D)) (fa : En → Re D) : En → Re (List D) := fun δ => (fa δ).bd fun p => opt (g p)
theorem eUnF_pu (g : D → Option (List D)) (fa : En → Re D) : eUnF g (Pu fa) = Pu (pUnF g fa) := by
  funext δ; unfold eUnF Pu pUnF
  cases fa δ with
  | ok x => simp only [Re.bd_ok]
  | _ => rfl
theorem uUnF {g : D → Option (List D)} {fa : En → Re D} (h : PE X e (tF c E (eUnF g (Pu fa)))) : PE X e (tF c E (Pu (pUnF g fa))) := eUnF_pu g fa ▸ h
def gRevL : D → Option (List D)
  | .list ds => some ds.reverse
  | _ => none
theorem e_revL {k : Nat} {p1 p2 p3 : Pos} (ho : PE X o (tD c E fo)) (hK : c.K = X.K := by rfl) : PE X (.Subscript o (.Slice none none (some (.UnaryOp .USub (.Constant (.int 1) k p1) p2)) p3) pos) (tF c E (eUnF gRevL fo)) := PE.imp (pe_revL ho) fun σ H Q ⟨Hs, G, δ, S, q⟩ =>
  ⟨Hs, G, δ, S, PoG.seq q fun d δ1 Hs1 H1 s1 q1 v S1 r1 => by
    obtain ⟨d2, hd, q3⟩ := PoG.last (k := fun d => (d, δ1)) q1
    unfold gRevL at hd
    cases r1 with
    | @lst l vs ds h1 h2 =>
      cases hd
      exact ⟨l, vs, rfl, by rw [← hK]; exact same_l S1.sh h1, fun p hp => q3 Hs1 _ (Same.refl _) p _ (S1.loose hp) (S1.loose_of hp) upd_same (dpa_reverse h2)⟩
    | _ => cases hd⟩
end
end DL

/-! EV3: equations for simp: sets of texts, repr, upper, [::-1] -/
namespace DL
open PySem L2
@[simp] theorem pUnF_ap (g : D → Option (List D)) (fa : En → Re D) (δ : En) : pUnF g fa δ = (fa δ).bd fun p => opt (g p) := (rfl)
@[simp] theorem eUnF_ap (g : D → Option (List D)) (fa : En → Re (D × En)) (δ : En) : eUnF g fa δ = (fa δ).bd fun p => (opt (g p.1)).bd fun d => .ok (d, p.2) := (rfl)
@[simp] theorem gRevL_l (ds : List D) : gRevL (.list ds) = some ds.reverse := (rfl)
theorem gUpper_s {a : Str} (h : a.length ≤ 1000000) : gUpper (.str a) = some (.str (Txt.upper a)) := if_pos h
theorem gRepr_ok {d : D} (h : rpOk d = true) : gRepr [d] = some (.str d.shown) := if_pos h
theorem gLenSet_strs {ys : List Str} (h : ys.length ≤ 4000) : gLenSet (.list (ys.map .str)) = some (.int (met ys ys.length)) := by
  simp only [gLenSet, strsOf_map]
  exact if_pos h
/-- all different: exactly if as many as there are -/
theorem met_full (xs : List Str) : ∀ i, i ≤ xs.length → (met xs i = i ↔ (xs.take i).Nodup)
  | 0, _ => by simp [met]
  | i + 1, h => by
    have ih := met_full xs i (by omega)
    have le := met_le xs i
    have lt : i < xs.length := by omega
    have et : xs.take (i + 1) = xs.take i ++ [xs[i]] := by rw [List.take_succ, List.getElem?_eq_getElem lt]; rfl
    have eg : xs.getD i Str.empty = xs[i] := by rw [List.getD_eq_getElem?_getD, List.getElem?_eq_getElem lt]; rfl
    unfold met
    rw [et, List.nodup_append, eg]
    have any_iff : (xs.take i).any (· == xs[i]) = true ↔ xs[i] ∈ xs.take i := by
      rw [List.any_eq_true]
      exact ⟨fun ⟨x, hx, e⟩ => (beq_iff_eq.mp e) ▸ hx, fun h => ⟨_, h, by simp⟩⟩
    by_cases c : (xs.take i).any (· == xs[i]) = true
    · rw [if_pos c]
      refine ⟨fun e => by omega, fun ⟨_, _, z⟩ => absurd rfl (z _ (any_iff.mp c) _ (List.mem_singleton_self _))⟩
    · rw [if_neg c]
      refine ⟨fun e => ⟨ih.mp (by omega), by simp, fun a ha b hb e => ?_⟩, fun ⟨z, _, _⟩ => by rw [ih.mpr z]⟩
      rw [List.mem_singleton] at hb
      subst hb e
      exact c (any_iff.mpr ha)
end DL

/-! TD: tame data (depth, weight, texts of true signs, numbers of few digits): repr, ==, in need it -/
namespace DL
open PySem L2
structure Td (k w : Nat) (d : D) : Prop where
  can : d.canLay0 = true
  shw : d.showable = true
  lvs : d.leavesShort 80 = true
  dep : d.depth ≤ k
  wgt : d.weight ≤ w
theorem Td.mono {k w k' w' : Nat} {d : D} (h : Td k w d) (hk : k ≤ k') (hw : w ≤ w') : Td k' w' d := ⟨h.can, h.shw, h.lvs, Nat.le_trans h.dep hk, Nat.le_trans h.wgt hw⟩
structure TdA (k w : Nat) (xs : List D) : Prop where
  can : PyData.canLayAll0 xs = true
  shw : PyData.showableAll xs = true
  lvs : PyData.leavesShortAll 80 xs = true
  dep : PyData.depthAll xs ≤ k
  wgt : PyData.weightAll xs ≤ xs.length * (w + 1)
theorem tdA {k w : Nat} : ∀ {xs : List D}, (∀ x ∈ xs, Td k w x) → TdA k w xs
  | [], _ => ⟨rfl, rfl, rfl, Nat.zero_le _, Nat.zero_le _⟩
  | x :: xs, h => by
    have h1 := h x (List.mem_cons_self ..)
    have h2 := tdA (xs := xs) fun y hy => h y (List.mem_cons_of_mem _ hy)
    refine ⟨?_, ?_, ?_, ?_, ?_⟩
    · simp only [PyData.canLayAll0, h1.can, h2.can, Bool.and_self]
    · simp only [PyData.showableAll, h1.shw, h2.shw, Bool.and_self]
    · simp only [PyData.leavesShortAll, h1.lvs, h2.lvs, Bool.and_self]
    · simp only [PyData.depthAll]; exact Nat.max_le.mpr ⟨h1.dep, h2.dep⟩
    · simp only [PyData.weightAll, List.length_cons]
      have := h1.wgt
      have := h2.wgt
      rw [Nat.add_mul]; omega
theorem td_list {k w n : Nat} {xs : List D} (h : ∀ x ∈ xs, Td k w x) (hl : xs.length ≤ n) : Td (k + 1) (n * (w + 1)) (.list xs) := by
  have a := tdA h
  refine ⟨by simp only [PyData.canLay0, a.can], by simp only [PyData.showable, a.shw], by simp only [PyData.leavesShort, a.lvs], by simp only [PyData.depth]; exact Nat.succ_le_succ a.dep, ?_⟩
  simp only [PyData.weight]
  exact Nat.le_trans a.wgt (Nat.mul_le_mul_right _ hl)
theorem td_tuple {k w n : Nat} {xs : List D} (h : ∀ x ∈ xs, Td k w x) (hl : xs.length ≤ n) : Td (k + 1) (n * (w + 1)) (.tuple xs) := by
  have a := tdA h
  refine ⟨by simp only [PyData.canLay0, a.can], by simp only [PyData.showable, a.shw], by simp only [PyData.leavesShort, a.lvs], by simp only [PyData.depth]; exact Nat.succ_le_succ a.dep, ?_⟩
  simp only [PyData.weight]
  exact Nat.le_trans a.wgt (Nat.mul_le_mul_right _ hl)
theorem td_none (k w : Nat) : Td k w .none := ⟨rfl, rfl, rfl, Nat.zero_le _, Nat.zero_le _⟩
theorem td_bool (k w : Nat) (b : Bool) : Td k w (.bool b) := ⟨rfl, rfl, rfl, Nat.zero_le _, Nat.zero_le _⟩
theorem td_str {w : Nat} {x : Str} (k : Nat) (h : x.length ≤ w) (c : ∀ s ∈ x.cps.toList, s < 1114112) : Td k w (.str x) := by
  refine ⟨?_, rfl, ?_, Nat.zero_le _, h⟩
  · show x.cps.all (· < 0x110000) = true
    rw [Array.all_eq_true']
    intro s hs
    exact decide_eq_true (c s (Array.mem_toList_iff.mpr hs))
  · show (x.cps.toList.all fun c => decide (c < 16 ^ 8)) = true
    rw [List.all_eq_true]
    intro s hs
    have := c s hs
    exact decide_eq_true (by omega)
theorem td_int {i : Int} (k : Nat) (h : i.natAbs < 10 ^ 60) : Td k 200 (.int i) := by
  have hl : i.natAbs.log2 < 200 := by
    by_cases z : i.natAbs = 0
    · rw [z]; decide
    · exact (Nat.log2_lt z).mpr (Nat.lt_of_lt_of_le h (by decide +kernel))
  refine ⟨rfl, ?_, ?_, Nat.zero_le _, ?_⟩
  · simp only [PyData.showable]; exact decide_eq_true (by omega)
  · simp only [PyData.leavesShort, PyData.shown]
    have := int_text_length_le10 (a := i) (k := 60) (by decide) h
    refine decide_eq_true ?_
    show (Str.ofString (toString i)).length ≤ 80
    rw [ofString_length]; omega
  · simp only [PyData.weight]
    split
    · exact Nat.zero_le _
    · omega
theorem Td.rp {k w : Nat} {d : D} (h : Td k w d) (hk : k ≤ 60) (hw : w ≤ 12000) : rpOk d = true := by
  unfold rpOk
  have a := PyData.shown_le 80 (by decide) d h.lvs
  have b := h.wgt
  have c := h.dep
  rw [h.shw, PyData.hasDict_of_canLay d h.can]
  simp only [Bool.not_false, Bool.and_self, Bool.true_and, Bool.and_eq_true, decide_eq_true_eq]
  omega
theorem Td.shaped {k w : Nat} {d : D} (h : Td k w d) (hk : k ≤ 60) : SeqAt.shaped d = true := by
  unfold SeqAt.shaped
  have := h.dep
  rw [h.can, Bool.true_and]
  exact decide_eq_true (by omega)
theorem tdA_mem {k w : Nat} : ∀ {xs : List D}, PyData.canLayAll0 xs = true → PyData.showableAll xs = true → PyData.leavesShortAll 80 xs = true → PyData.depthAll xs ≤ k → PyData.weightAll xs ≤ w → ∀ x ∈ xs, Td k w x
  | [], _, _, _, _, _, x, hx => by cases hx
  | y :: xs, h1, h2, h3, h4, h5, x, hx => by
    simp only [PyData.canLayAll0, Bool.and_eq_true] at h1
    simp only [PyData.showableAll, Bool.and_eq_true] at h2
    simp only [PyData.leavesShortAll, Bool.and_eq_true] at h3
    simp only [PyData.depthAll] at h4
    simp only [PyData.weightAll] at h5
    rcases List.mem_cons.mp hx with e | e
    · subst e; exact ⟨h1.1, h2.1, h3.1, by omega, by omega⟩
    · exact tdA_mem h1.2 h2.2 h3.2 (by omega) (by omega) x e
theorem weightAll_len : ∀ xs : List D, xs.length ≤ PyData.weightAll xs
  | [] => Nat.le_refl _
  | x :: xs => by
    have := weightAll_len xs
    simp only [PyData.weightAll, List.length_cons]; omega
theorem Td.list {k w : Nat} {xs : List D} (h : Td k w (.list xs)) : (∀ x ∈ xs, Td k w x) ∧ xs.length ≤ w := by
  obtain ⟨h1, h2, h3, h4, h5⟩ := h
  simp only [PyData.canLay0] at h1
  simp only [PyData.showable] at h2
  simp only [PyData.leavesShort] at h3
  simp only [PyData.depth] at h4
  simp only [PyData.weight] at h5
  exact ⟨tdA_mem h1 h2 h3 (by omega) h5, Nat.le_trans (weightAll_len xs) h5⟩
theorem Td.tuple {k w : Nat} {xs : List D} (h : Td k w (.tuple xs)) : (∀ x ∈ xs, Td k w x) ∧ xs.length ≤ w := by
  obtain ⟨h1, h2, h3, h4, h5⟩ := h
  simp only [PyData.canLay0] at h1
  simp only [PyData.showable] at h2
  simp only [PyData.leavesShort] at h3
  simp only [PyData.depth] at h4
  simp only [PyData.weight] at h5
  exact ⟨tdA_mem h1 h2 h3 (by omega) h5, Nat.le_trans (weightAll_len xs) h5⟩
theorem Td.str {k w : Nat} {x : Str} (h : Td k w (.str x)) : x.length ≤ w ∧ (PyData.str x).canLay0 = true := ⟨h.wgt, h.can⟩
theorem Td.gRepr {k w : Nat} {d : D} (h : Td k w d) (hk : k ≤ 60 := by omega) (hw : w ≤ 12000 := by omega) : gRepr [d] = some (.str d.shown) := gRepr_ok (h.rp hk hw)
/-- one of the entries -/
theorem Wr_at {β : Type} {xs : List D} {r : Nat} {P : D → Prop} {K : D → Re β} {Q : β → Prop} (h : r < xs.length) (a : ∀ x ∈ xs, P x) (k : ∀ x, P x → Wr (K x) Q) : Wr ((opt xs[r]?).bd K) Q := by
  rw [List.getElem?_eq_getElem h]
  exact k _ (a _ (List.getElem_mem h))
theorem any_at {xs : List D} {r : Nat} {P : D → Prop} (h : r < xs.length) (a : ∀ x ∈ xs, P x) : ∃ x, xs[r]? = some x ∧ P x := ⟨_, List.getElem?_eq_getElem h, a _ (List.getElem_mem h)⟩
def tdb (k w : Nat) (d : D) : Bool := d.canLay0 && d.showable && d.leavesShort 80 && decide (d.depth ≤ k) && decide (d.weight ≤ w)
theorem td0 {k w : Nat} {d : D} (h : tdb k w d = true) : Td k w d := by
  unfold tdb at h
  simp only [Bool.and_eq_true, decide_eq_true_eq] at h
  exact ⟨h.1.1.1.1, h.1.1.1.2, h.1.1.2, h.1.2, h.2⟩
theorem td0s {k w : Nat} {xs : List D} (h : xs.all (tdb k w) = true) : ∀ x ∈ xs, Td k w x := fun x hx => td0 (List.all_eq_true.mp h x hx)
theorem Wr_add {A B : List D} {P : D → Prop} {Q : D → Prop} (h : A.length + B.length ≤ 1000000) (a : ∀ x ∈ A, P x) (b : ∀ x ∈ B, P x) (k : ∀ C : List D, C.length = A.length + B.length → (∀ x ∈ C, P x) → Q (.list C)) : Wr (opt (gAdd (.list A) (.list B))) Q := by
  rw [gAdd_list h, opt_some, Wr_ok]
  refine k _ (by simp) fun x hx => ?_
  rcases List.mem_append.mp hx with z | z
  · exact a x z
  · exact b x z
theorem Wr_ix {A : List D} {r : Nat} {P : D → Prop} {Q : D → Prop} (h : r < A.length) (a : ∀ x ∈ A, P x) (k : ∀ x : D, P x → Q x) : Wr (opt (gIx (.list A) (.int (r : Int)))) Q := by
  rw [gIx_list, atI_k, List.getElem?_eq_getElem h, opt_some, Wr_ok]
  exact k _ (a _ (List.getElem_mem h))
theorem Wr_ix' {A : List D} {r : Nat} {P : D → Prop} {Q : D → Prop} (h : r < A.length) (a : ∀ x ∈ A, P x) (k : ∀ x : D, P x → Q x) : Wr (opt A[r]?) Q := by
  rw [List.getElem?_eq_getElem h, opt_some, Wr_ok]
  exact k _ (a _ (List.getElem_mem h))
theorem add_all {A B : List D} {P : D → Prop} {n m : Nat} (hA : ∀ x ∈ A, P x) (hB : ∀ x ∈ B, P x) (lA : A.length ≤ n) (lB : B.length ≤ m) (h : n + m ≤ 1000000 := by omega) : ∃ C, gAdd (.list A) (.list B) = some (.list C) ∧ (∀ x ∈ C, P x) ∧ C.length ≤ n + m :=
  ⟨A ++ B, gAdd_list (by omega), fun x hx => (List.mem_append.mp hx).elim (hA x) (hB x), by rw [List.length_append]; omega⟩
theorem app_cps (x y : Str) : (x ++ y).cps = x.cps ++ y.cps := rfl
theorem app_len (x y : Str) : (x ++ y).length = x.length + y.length := by
  show (x.cps ++ y.cps).size = _
  rw [Array.size_append]; rfl
theorem txt_join_fold (a x : Str) (r : List Str) : Txt.join a (x :: r) = r.foldl (fun p w => p ++ a ++ w) x := by
  show (⟨r.foldl (fun acc p => acc ++ a.cps ++ p.cps) x.cps⟩ : Str) = _
  induction r generalizing x with
  | nil => rfl
  | cons w r ih =>
    rw [List.foldl_cons, List.foldl_cons, ← ih]; rfl
theorem fold_bound {a : Str} {m : Nat} (la : a.length ≤ 1) : ∀ (r : List Str) (x : Str), (∀ w ∈ r, w.length ≤ m) → (r.foldl (fun p w => p ++ a ++ w) x).length ≤ x.length + r.length * (m + 1)
  | [], x, _ => by simp
  | w :: r, x, h => by
    have ih := fold_bound la r (x ++ a ++ w) fun y hy => h y (List.mem_cons_of_mem _ hy)
    have hw := h w (List.mem_cons_self ..)
    rw [app_len, app_len] at ih
    rw [List.foldl_cons, List.length_cons, Nat.add_mul]
    omega
theorem fold_signs {a : Str} {P : Nat → Prop} (ha : ∀ k ∈ a.cps.toList, P k) : ∀ (r : List Str) (x : Str), (∀ k ∈ x.cps.toList, P k) → (∀ w ∈ r, ∀ k ∈ w.cps.toList, P k) → ∀ k ∈ (r.foldl (fun p w => p ++ a ++ w) x).cps.toList, P k
  | [], x, hx, _ => hx
  | w :: r, x, hx, h => by
    rw [List.foldl_cons]
    refine fold_signs ha r _ (fun k hk => ?_) fun y hy => h y (List.mem_cons_of_mem _ hy)
    rw [app_cps, app_cps, Array.toList_append, Array.toList_append, List.mem_append, List.mem_append] at hk
    rcases hk with (z | z) | z
    · exact hx k z
    · exact ha k z
    · exact h w (List.mem_cons_self ..) k z
theorem join_len {a : Str} {m : Nat} (la : a.length ≤ 1) (ys : List Str) (h : ∀ w ∈ ys, w.length ≤ m) : (Txt.join a ys).length ≤ ys.length * (m + 1) := by
  cases ys with
  | nil => exact Nat.zero_le _
  | cons x r =>
    rw [txt_join_fold]
    have := fold_bound la r x fun w hw => h w (List.mem_cons_of_mem _ hw)
    have := h x (List.mem_cons_self ..)
    rw [List.length_cons, Nat.add_mul]; omega
theorem join_signs {a : Str} {P : Nat → Prop} (ha : ∀ k ∈ a.cps.toList, P k) (ys : List Str) (h : ∀ w ∈ ys, ∀ k ∈ w.cps.toList, P k) : ∀ k ∈ (Txt.join a ys).cps.toList, P k := by
  cases ys with
  | nil => intro k hk; cases hk
  | cons x r =>
    rw [txt_join_fold]
    exact fold_signs ha r x (h x (List.mem_cons_self ..)) fun w hw => h w (List.mem_cons_of_mem _ hw)
theorem sum_len {m : Nat} : ∀ l : List Str, (∀ w ∈ l, w.length ≤ m) → (l.map (·.length)).sum ≤ m * l.length
  | [], _ => by simp
  | a :: l, h => by
    have := sum_len l fun w hw => h w (List.mem_cons_of_mem _ hw)
    have := h a (List.mem_cons_self ..)
    simp only [List.map_cons, List.sum_cons, List.length_cons, Nat.mul_add]
    omega
theorem join_td {a : Str} {m n : Nat} (la : a.length ≤ 1) (ha : ∀ k ∈ a.cps.toList, k < 1114112) (ys : List Str) (h : ∀ w ∈ ys, w.length ≤ m) (h2 : ∀ w ∈ ys, ∀ k ∈ w.cps.toList, k < 1114112) (hn : ys.length ≤ n) (hm : n * (m + 1) ≤ 1000000) :
    gJoin a (.list (ys.map .str)) = some (.str (Txt.join a ys)) ∧ Td 0 (n * (m + 1)) (.str (Txt.join a ys)) := by
  have q : ys.length * (m + 1) ≤ n * (m + 1) := Nat.mul_le_mul_right _ hn
  refine ⟨gJoin_strs _ _ ?_, td_str 0 (Nat.le_trans (join_len la ys h) q) (join_signs ha ys h2)⟩
  have e := sum_len ys h
  have e2 : m * ys.length = ys.length * m := Nat.mul_comm ..
  have e3 : ys.length * a.length ≤ ys.length * 1 := Nat.mul_le_mul_left _ la
  rw [Nat.mul_add] at q
  omega
end DL

/-! printed by gen.py: the defs of the text over data -/
namespace Law
open PySem L2 DL
def top (i : Nat) : Stmt := PySem.Challenge.pw_onceswapped_k07_arrangements_recognized.main.body.getD i (.Pass ⟨0, 0, 0, 0⟩)
structure Txt (mg : Str → Option Value) : Prop where
  b_abs : mg "abs" = none
  b_all : mg "all" = none
  b_isinstance : mg "isinstance" = none
  b_len : mg "len" = none
  b_list : mg "list" = none
  b_max : mg "max" = none
  b_min : mg "min" = none
  b_range : mg "range" = none
  b_repr : mg "repr" = none
  b_set : mg "set" = none
  b_str : mg "str" = none
  b_tuple : mg "tuple" = none
  g_LETTERS : ∃ t, mg "LETTERS" = some (.str "abcdefghijklmnopqrstuvwxyz" t)
  g_MOST_LETTERS : ∃ t, mg "MOST_LETTERS" = some (.int 8 t)
/-! is_item -/
abbrev s_is_item : Stmt := top 3
theorem sc_is_item : FnScope ["thing", "letter"] ["thing"] (defScope s_is_item) := ⟨rfl, rfl, rfl, by decide +kernel, rfl, by decide +kernel, by decide +kernel⟩
def F_is_item : En → Re Fl := (seqS (ifS (Pu (pOr (pNot (pTe (pIsi "str" (pV 0)))) (pNot (pTe (pCh gLe gLe (pK (.int 1)) (pCa gLen (pCons (pV 0) (pNil))) (pK (.int 8))))))) (rtS (Pu (pK (.bool false)))) nopS) (rtS (Pu (pCa gAll (pCons (pFz (pLc (pSi (pV 0)) [1] (gNm 1) (fun _ => .ok true) (pOp gIn (pV 1) (pK (.str "abcdefghijklmnopqrstuvwxyz"))))) (pNil))))))
def f_is_item : List D → Re D := dfP 1 2 F_is_item
theorem ok_is_item {P : Program} {w : World} {K : PySem.W.Frag} {mg : Str → Option Value} {base : Heap} {f : Addr} {fd : FuncData} (T : Txt mg) (F : Fun K "is_item" "is_item" s_is_item f fd) : FnOkG P w K mg base (L2.CX P w) 1 f fd ["thing"] (spP K mg f_is_item) :=
  fn_P (Fb := F_is_item) F sc_is_item fun cdv A outer s H E Hin Hb ma hr => by
  have hx : Passes (L2.CX P w) (cxOf (L2.CX P w) P w K mg base ["thing", "letter"] "is_item" (defScope s_is_item) f cdv A outer s H E) E := passes_call (takes_of rfl rfl rfl rfl) (fun _ _ _ _ h => h)
  exact (dss_cons (ds_if (PW.pt (uOr (de_or (uNot (de_not (uTe (de_test (uIsi (de_isi (T := "str") (dp_var (pv 0)) (by decide +kernel) rfl rfl T.b_isinstance (by decide +kernel) rfl T.b_str (by decide +kernel))))))) (de_or1 (uNot (de_not (uTh (t_lele dp_int (uCa (e_len T.b_len (uCons (da_cons (dp_var (pv 0)) da_nil)))) (e_globI rfl T.g_MOST_LETTERS))))))))) (dss_one (ds_ret dp_bl)) dss_nil) (dss_one (ds_ret (uCa (e_all T.b_all (uCons (da_cons (uFz (uLc (gok_nm (show 1 ∈ ([1] : List Nat) by decide)) (de_lc (own := [("letter", 1)]) rfl sc_is_item.nd (show ([1] : List Nat).Nodup by decide) (show ∀ v ∈ ([1] : List Nat), v ∉ ([] : List Nat) by decide) (show ∀ t ∈ ([1] : List Nat), t ∈ ([1] : List Nat) by decide) (uSi (di_str (dp_var (pv 0)))) (blkOk_by (by dsimp only [cxOf, L2.Cx.blk, relE, envE]; decide +kernel)) (fun _ _ _ _ _ => (dg_name (i := 1) (show 1 ∉ ([] : List Nat) by decide) sc_is_item.nd rfl (Or.inl rfl))) (fun _ _ _ _ _ => dts_nil) (fun _ _ _ _ _ => (uOp (e_in hr (dp_var (pv 1)) (e_globS rfl T.g_LETTERS))))))) da_nil)))))))
/-! is_arrangement -/
abbrev s_is_arrangement : Stmt := top 4
theorem sc_is_arrangement : FnScope ["n", "thing", "item"] ["n", "thing"] (defScope s_is_arrangement) := ⟨rfl, rfl, rfl, by decide +kernel, rfl, by decide +kernel, by decide +kernel⟩
def F_is_arrangement : En → Re Fl := (seqS (ifS (Pu (pOr (pNot (pTe (pIsi "list" (pV 1)))) (pOr (pTe (pOp gNe (pCa gLen (pCons (pV 1) (pNil))) (pV 0))) (pNot (pTe (pCa gAll (pCons (pFz (pLc (pLi (pV 1)) [2] (gNm 2) (fun _ => .ok true) (pCr (noer f_is_item) (pCons (pV 2) (pNil))))) (pNil)))))))) (rtS (Pu (pK (.bool false)))) nopS) (rtS (Pu (pOp gEq (pUn gLenSet (pV 1)) (pV 0)))))
def f_is_arrangement : List D → Re D := dfP 2 3 F_is_arrangement
theorem ok_is_arrangement {P : Program} {w : World} {K : PySem.W.Frag} {mg : Str → Option Value} {base : Heap} {f : Addr} {fd : FuncData} (T : Txt mg) (D_is_item : Dn P w K mg base 1 "is_item" ["thing"] (spP K mg f_is_item)) (F : Fun K "is_arrangement" "is_arrangement" s_is_arrangement f fd) : FnOkG P w K mg base (L2.CX P w) 2 f fd ["n", "thing"] (spP K mg f_is_arrangement) :=
  fn_P (Fb := F_is_arrangement) F sc_is_arrangement fun cdv A outer s H E Hin Hb ma hr => by
  have hx : Passes (L2.CX P w) (cxOf (L2.CX P w) P w K mg base ["n", "thing", "item"] "is_arrangement" (defScope s_is_arrangement) f cdv A outer s H E) E := passes_call (takes_of rfl rfl rfl rfl) (fun _ _ _ _ h => h)
  exact (dss_cons (ds_if (PW.pt (uOr (de_or (uNot (de_not (uTe (de_test (uIsi (de_isi (T := "list") (dp_var (pv 1)) (by decide +kernel) rfl rfl T.b_isinstance (by decide +kernel) rfl T.b_list (by decide +kernel))))))) (uOr (de_or (uTo (t_ne hr (uCa (e_len T.b_len (uCons (da_cons (dp_var (pv 1)) da_nil)))) (dp_var (pv 0)))) (de_or1 (uNot (de_not (uTe (de_test (uCa (e_all T.b_all (uCons (da_cons (uFz (uLc (gok_nm (show 2 ∈ ([2] : List Nat) by decide)) (de_lc (own := [("item", 2)]) rfl sc_is_arrangement.nd (show ([2] : List Nat).Nodup by decide) (show ∀ v ∈ ([2] : List Nat), v ∉ ([] : List Nat) by decide) (show ∀ t ∈ ([2] : List Nat), t ∈ ([2] : List Nat) by decide) (uLi (di_list rfl (dp_var (pv 1)))) (blkOk_by (by dsimp only [cxOf, L2.Cx.blk, relE, envE]; decide +kernel)) (fun _ _ _ _ _ => (dg_name (i := 2) (show 2 ∉ ([] : List Nat) by decide) sc_is_arrangement.nd rfl (Or.inl rfl))) (fun _ _ _ _ _ => dts_nil) (fun _ _ _ _ _ => (uCr (de_cr0 D_is_item hr rfl rfl rfl (uCons (da_cons (dp_var (pv 2)) da_nil)))))))) da_nil)))))))))))))) (dss_one (ds_ret dp_bl)) dss_nil) (dss_one (ds_ret (uOp (e_eq hr (uUn (e_lenSet T.b_len T.b_set (dp_var (pv 1)))) (dp_var (pv 0)))))))
/-! _law_source -/
abbrev s__law_source : Stmt := top 6
theorem sc__law_source : FnScope ["script", "k", "cell"] ["script", "k"] (defScope s__law_source) := ⟨rfl, rfl, rfl, by decide +kernel, rfl, by decide +kernel, by decide +kernel⟩
def F__law_source : En → Re Fl := (seqS (asS 2 (Pu (pIf (pTe (pOp gLt (pV 1) (pCa gLen (pCons (pV 0) (pNil))))) (pOp gIx (pV 0) (pV 1)) (pK (.int 0))))) (rfS (Pu (pLst (pCons (pCa gMax (pCons (pK (.int 0)) (pCons (pOp gSub (pCa gAbs (pCons (pV 2) (pNil))) (pOp gPow (pK (.int 10)) (pK (.int 18)))) (pNil)))) (pCons (pOp gAdd (pOp gAdd (pOp gMul (pOp gMod (pCa gAbs (pCons (pV 2) (pNil))) (pOp gAdd (pOp gPow (pK (.int 10)) (pK (.int 36))) (pK (.int 67)))) (pK (.int 128))) (pV 1)) (pK (.int 5))) (pCons (pK (.int 0)) (pNil))))))))
def f__law_source : List D → Re (List D) := dfPF 2 3 F__law_source
theorem ok__law_source {P : Program} {w : World} {K : PySem.W.Frag} {mg : Str → Option Value} {base : Heap} {f : Addr} {fd : FuncData} (T : Txt mg) (F : Fun K "_law_source" "_law_source" s__law_source f fd) : FnOkG P w K mg base (L2.CX P w) 1 f fd ["script", "k"] (spPF K mg f__law_source) :=
  fn_PF (Fb := F__law_source) F sc__law_source fun cdv A outer s H E Hin Hb ma hr => by
  have hx : Passes (L2.CX P w) (cxOf (L2.CX P w) P w K mg base ["script", "k", "cell"] "_law_source" (defScope s__law_source) f cdv A outer s H E) E := passes_call (takes_of rfl rfl rfl rfl) (fun _ _ _ _ h => h)
  exact (dss_cons (ds_set (i := 2) (show 2 ∉ ([] : List Nat) by decide) sc__law_source.nd rfl (Or.inl rfl) (uIf (de_ifExp (uTo (t_lt hr (dp_var (pv 1)) (uCa (e_len T.b_len (uCons (da_cons (dp_var (pv 0)) da_nil)))))) (uOp (e_ix (dp_var (pv 0)) (dp_var (pv 1)))) dp_int))) (dss_one (ds_retF (uLst (de_lst (uCons (da_cons (uCa (e_max T.b_max (uCons (da_cons dp_int (uCons (da_cons (uOp (e_sub (uCa (e_abs T.b_abs (uCons (da_cons (dp_var (pv 2)) da_nil)))) (uOp (e_pow dp_int dp_int)))) da_nil)))))) (uCons (da_cons (uOp (e_add (uOp (e_add (uOp (e_mul (uOp (e_mod (uCa (e_abs T.b_abs (uCons (da_cons (dp_var (pv 2)) da_nil)))) (uOp (e_add (uOp (e_pow dp_int dp_int)) dp_int)))) dp_int)) (dp_var (pv 1)))) dp_int)) (uCons (da_cons dp_int da_nil)))))))))))
/-! _law_pick -/
abbrev s__law_pick : Stmt := top 7
theorem sc__law_pick : FnScope ["source", "count", "found", "mixed"] ["source", "count"] (defScope s__law_pick) := ⟨rfl, rfl, rfl, by decide +kernel, rfl, by decide +kernel, by decide +kernel⟩
def F__law_pick : En → Re Fl := (seqS (ifS (Pu (pTe (pOp gGt (pIxB 0 (pK (.int 0))) (pK (.int 0))))) (seqS (asS 2 (Pu (pOp gMod (pIxB 0 (pK (.int 0))) (pV 1)))) (seqS (stS 0 (Pu (pK (.int 0))) (Pu (pOp gDiv (pIxB 0 (pK (.int 0))) (pV 1)))) (rtS (Pu (pV 2))))) nopS) (seqS (stS 0 (Pu (pK (.int 2))) (Pu (pOp gAdd (pIxB 0 (pK (.int 2))) (pK (.int 1))))) (seqS (asS 3 (Pu (pOp gMod (pOp gPow (pOp gAdd (pIxB 0 (pK (.int 1))) (pOp gMul (pK (.int 49979687)) (pIxB 0 (pK (.int 2))))) (pK (.int 3))) (pOp gAdd (pOp gPow (pK (.int 10)) (pK (.int 38))) (pK (.int 133)))))) (seqS (asS 3 (Pu (pOp gMod (pOp gPow (pOp gAdd (pV 3) (pOp gMul (pK (.int 32452843)) (pIxB 0 (pK (.int 2))))) (pK (.int 3))) (pOp gAdd (pOp gPow (pK (.int 10)) (pK (.int 37))) (pK (.int 43)))))) (rtS (Pu (pOp gMod (pOp gDiv (pV 3) (pK (.int 131071))) (pV 1))))))))
def f__law_pick : List D → List D → Re (D × List D) := dfM 1 4 F__law_pick
theorem ok__law_pick {P : Program} {w : World} {K : PySem.W.Frag} {mg : Str → Option Value} {base : Heap} {f : Addr} {fd : FuncData} (T : Txt mg) (F : Fun K "_law_pick" "_law_pick" s__law_pick f fd) : FnOkG P w K mg base (L2.CX P w) 1 f fd ["source", "count"] (spM K mg f__law_pick) :=
  fn_M (Fb := F__law_pick) F sc__law_pick fun cdv A outer s H E Hin Hb ma hr => by
  have hx : Passes (L2.CX P w) (cxOf (L2.CX P w) P w K mg base ["source", "count", "found", "mixed"] "_law_pick" (defScope s__law_pick) f cdv A outer s H E) E := passes_call (takes_of rfl rfl rfl rfl) (fun _ _ _ _ h => h)
  exact (dss_cons (ds_if (uTo (t_gt (e_ixB (pv 0) dp_int) dp_int)) (dss_cons (ds_set (i := 2) (show 2 ∉ ([0] : List Nat) by decide) sc__law_pick.nd rfl (Or.inl rfl) (uOp (e_mod (e_ixB (pv 0) dp_int) (dp_var (pv 1))))) (dss_cons (ds_store (pv 0) dp_int (uOp (e_div (e_ixB (pv 0) dp_int) (dp_var (pv 1))))) (dss_one (ds_ret (dp_var (pv 2)))))) dss_nil) (dss_cons (ds_store (pv 0) dp_int (uOp (e_add (e_ixB (pv 0) dp_int) dp_int))) (dss_cons (ds_set (i := 3) (show 3 ∉ ([0] : List Nat) by decide) sc__law_pick.nd rfl (Or.inl rfl) (uOp (e_mod (uOp (e_pow (uOp (e_add (e_ixB (pv 0) dp_int) (uOp (e_mul dp_int (e_ixB (pv 0) dp_int))))) dp_int)) (uOp (e_add (uOp (e_pow dp_int dp_int)) dp_int))))) (dss_cons (ds_set (i := 3) (show 3 ∉ ([0] : List Nat) by decide) sc__law_pick.nd rfl (Or.inl rfl) (uOp (e_mod (uOp (e_pow (uOp (e_add (dp_var (pv 3)) (uOp (e_mul dp_int (e_ixB (pv 0) dp_int))))) dp_int)) (uOp (e_add (uOp (e_pow dp_int dp_int)) dp_int))))) (dss_one (ds_ret (uOp (e_mod (uOp (e_div (dp_var (pv 3)) dp_int)) (dp_var (pv 1))))))))))
/-! _law_shuffled -/
abbrev s__law_shuffled : Stmt := top 8
theorem sc__law_shuffled : FnScope ["source", "row", "left", "k"] ["source", "row"] (defScope s__law_shuffled) := ⟨rfl, rfl, rfl, by decide +kernel, rfl, by decide +kernel, by decide +kernel⟩
def F__law_shuffled : En → Re Fl := (seqS (owS 2 (Pu (pCa gList (pCons (pV 1) (pNil))))) (rtS (fz (eLc (Pu (pCa gRg1 (pCons (pCa gLen (pCons (pV 1) (pNil))) (pNil)))) [3] (gNm 3) (Pu (fun _ => .ok true)) (eMu 2 mPopAt (eCons (eCm 0 (noer2 f__law_pick) (Pu (pCons (pLenB 2) (pNil)))) (Pu (pNil))))))))
def f__law_shuffled : List D → List D → Re (D × List D) := dfM 1 4 F__law_shuffled
theorem ok__law_shuffled {P : Program} {w : World} {K : PySem.W.Frag} {mg : Str → Option Value} {base : Heap} {f : Addr} {fd : FuncData} (T : Txt mg) (D__law_pick : Dn P w K mg base 1 "_law_pick" ["source", "count"] (spM K mg f__law_pick)) (F : Fun K "_law_shuffled" "_law_shuffled" s__law_shuffled f fd) : FnOkG P w K mg base (L2.CX P w) 2 f fd ["source", "row"] (spM K mg f__law_shuffled) :=
  fn_M (Fb := F__law_shuffled) F sc__law_shuffled fun cdv A outer s H E Hin Hb ma hr => by
  have hx : Passes (L2.CX P w) (cxOf (L2.CX P w) P w K mg base ["source", "row", "left", "k"] "_law_shuffled" (defScope s__law_shuffled) f cdv A outer s H E) E := passes_call (takes_of rfl rfl rfl rfl) (fun _ _ _ _ h => h)
  exact (dss_cons (ds_own (i := 2) (show 2 ∉ ([0] : List Nat) by decide) sc__law_shuffled.nd rfl (Or.inr rfl) (uCaF (e_list T.b_list (uCons (da_cons (dp_var (pv 1)) da_nil))))) (dss_one (ds_ret (de_frz (de_lc (own := [("k", 3)]) rfl sc__law_shuffled.nd (show ([3] : List Nat).Nodup by decide) (show ∀ v ∈ ([3] : List Nat), v ∉ ([0] : List Nat) by decide) (show ∀ t ∈ ([3] : List Nat), t ∈ ([3] : List Nat) by decide) (uCi (di_range1 rfl T.b_range (uCons (da_cons (uCa (e_len T.b_len (uCons (da_cons (dp_var (pv 1)) da_nil)))) da_nil)))) (blkOk_by (by dsimp only [cxOf, L2.Cx.blk, relE, envE]; decide +kernel)) (fun _ _ _ _ _ => (dg_name (i := 3) (show 3 ∉ ([0] : List Nat) by decide) sc__law_shuffled.nd rfl (Or.inl rfl))) (fun _ _ _ _ _ => dts_nil) (fun _ _ _ _ _ => (de_mu PySem.F.slot_list_pop PySem.F.type_list_pop mt_popAt vPopAt (pv 2) (da_cons (de_cm0 D__law_pick hr rfl rfl rfl (pv 0) (uCons (da_cons (e_lenB T.b_len (pv 2)) da_nil))) da_nil))))))))
/-! _law_names -/
abbrev s__law_names : Stmt := top 9
theorem sc__law_names : FnScope ["source", "size", "letters", "style", "found", "k", "tail"] ["source", "size"] (defScope s__law_names) := ⟨rfl, rfl, rfl, by decide +kernel, rfl, by decide +kernel, by decide +kernel⟩
def F__law_names : En → Re Fl := (seqS (asS 2 (Pu (pK (.str "abcdefghijklmnopqrstuvwxyz")))) (seqS (asS 3 (eCm 0 f__law_pick (Pu (pCons (pK (.int 3)) (pNil))))) (seqS (owS 4 (Pu (pLst (pNil)))) (seqS (forS (Pu (pCa gRg1 (pCons (pV 1) (pNil)))) (gNm 5) (seqS (asS 6 (Pu (pOp gAdd (pOp gIx (pV 2) (pOp gDiv (pV 5) (pK (.int 26)))) (pOp gIx (pV 2) (pOp gMod (pV 5) (pK (.int 26))))))) (exS (eMu 4 mApp (Pu (pCons (pOp gIx (pFz (pLst (pCons (pV 6) (pCons (pOp gAdd (pK (.str "abcdef")) (pV 6)) (pCons (pOp gMulA (pOp gIx (pV 2) (pOp gMod (pV 5) (pK (.int 26)))) (pOp gAdd (pK (.int 1)) (pOp gDiv (pV 5) (pK (.int 26))))) (pNil)))))) (pV 3)) (pNil))))))) (fzS 4 (rtS (eCm 0 f__law_shuffled (Pu (pCons (pV 4) (pNil))))))))))
def f__law_names : List D → List D → Re (D × List D) := dfM 1 7 F__law_names
theorem ok__law_names {P : Program} {w : World} {K : PySem.W.Frag} {mg : Str → Option Value} {base : Heap} {f : Addr} {fd : FuncData} (T : Txt mg) (D__law_pick : Dn P w K mg base 1 "_law_pick" ["source", "count"] (spM K mg f__law_pick)) (D__law_shuffled : Dn P w K mg base 2 "_law_shuffled" ["source", "row"] (spM K mg f__law_shuffled)) (F : Fun K "_law_names" "_law_names" s__law_names f fd) : FnOkG P w K mg base (L2.CX P w) 3 f fd ["source", "size"] (spM K mg f__law_names) :=
  fn_M (Fb := F__law_names) F sc__law_names fun cdv A outer s H E Hin Hb ma hr => by
  have hx : Passes (L2.CX P w) (cxOf (L2.CX P w) P w K mg base ["source", "size", "letters", "style", "found", "k", "tail"] "_law_names" (defScope s__law_names) f cdv A outer s H E) E := passes_call (takes_of rfl rfl rfl rfl) (fun _ _ _ _ h => h)
  exact (dss_cons (ds_set (i := 2) (show 2 ∉ ([0] : List Nat) by decide) sc__law_names.nd rfl (Or.inl rfl) dp_str) (dss_cons (ds_set (i := 3) (show 3 ∉ ([0] : List Nat) by decide) sc__law_names.nd rfl (Or.inl rfl) (de_cm D__law_pick (hr.mono (show 1 ≤ 2 by decide)) rfl hx rfl rfl (pv 0) (uCons (da_cons dp_int da_nil)))) (dss_cons (ds_own (i := 4) (show 4 ∉ ([0] : List Nat) by decide) sc__law_names.nd rfl (Or.inl rfl) (uLst (de_lst da_nil))) (dss_cons (ds_for (passes_of rfl) rfl (uCi (di_range1 rfl T.b_range (uCons (da_cons (dp_var (pv 1)) da_nil)))) (dg_name (i := 5) (show 5 ∉ ([0] : List Nat) by decide) sc__law_names.nd rfl (Or.inl rfl)) (dss_cons (ds_set (i := 6) (show 6 ∉ ([0] : List Nat) by decide) sc__law_names.nd rfl (Or.inl rfl) (uOp (e_add (uOp (e_ix (dp_var (pv 2)) (uOp (e_div (dp_var (pv 5)) dp_int)))) (uOp (e_ix (dp_var (pv 2)) (uOp (e_mod (dp_var (pv 5)) dp_int))))))) (dss_one (ds_expr (de_mu PySem.F.slot_list_append PySem.F.type_list_append mt_append vApp (pv 4) (uCons (da_cons (uOp (e_ix (uFz (uLst (de_lst (uCons (da_cons (dp_var (pv 6)) (uCons (da_cons (uOp (e_add dp_str (dp_var (pv 6)))) (uCons (da_cons (uOp (e_mulA (uOp (e_ix (dp_var (pv 2)) (uOp (e_mod (dp_var (pv 5)) dp_int)))) (uOp (e_add dp_int (uOp (e_div (dp_var (pv 5)) dp_int)))))) da_nil))))))))) (dp_var (pv 3)))) da_nil))))))) (dss_fz (show 4 ∉ ([0] : List Nat) by decide) (dss_one (ds_ret (de_cm D__law_shuffled hr rfl hx rfl rfl (pv 0) (uCons (da_cons (dp_var (pv 4)) da_nil))))))))))
/-! _law_is_name -/
abbrev s__law_is_name : Stmt := top 10
theorem sc__law_is_name : FnScope ["value", "sign"] ["value"] (defScope s__law_is_name) := ⟨rfl, rfl, rfl, by decide +kernel, rfl, by decide +kernel, by decide +kernel⟩
def F__law_is_name : En → Re Fl := (seqS (ifS (Pu (pOr (pNot (pTe (pIsi "str" (pV 0)))) (pNot (pTe (pCh gLe gLe (pK (.int 1)) (pCa gLen (pCons (pV 0) (pNil))) (pK (.int 8))))))) (rtS (Pu (pK (.bool false)))) nopS) (rtS (Pu (pOp gEq (pFz (pLc (pSi (pV 0)) [1] (gNm 1) (pTe (pOp gNotIn (pV 1) (pK (.str "abcdefghijklmnopqrstuvwxyz")))) (pV 1))) (pFz (pLst (pNil)))))))
def f__law_is_name : List D → Re D := dfP 1 2 F__law_is_name
theorem ok__law_is_name {P : Program} {w : World} {K : PySem.W.Frag} {mg : Str → Option Value} {base : Heap} {f : Addr} {fd : FuncData} (T : Txt mg) (F : Fun K "_law_is_name" "_law_is_name" s__law_is_name f fd) : FnOkG P w K mg base (L2.CX P w) 1 f fd ["value"] (spP K mg f__law_is_name) :=
  fn_P (Fb := F__law_is_name) F sc__law_is_name fun cdv A outer s H E Hin Hb ma hr => by
  have hx : Passes (L2.CX P w) (cxOf (L2.CX P w) P w K mg base ["value", "sign"] "_law_is_name" (defScope s__law_is_name) f cdv A outer s H E) E := passes_call (takes_of rfl rfl rfl rfl) (fun _ _ _ _ h => h)
  exact (dss_cons (ds_if (PW.pt (uOr (de_or (uNot (de_not (uTe (de_test (uIsi (de_isi (T := "str") (dp_var (pv 0)) (by decide +kernel) rfl rfl T.b_isinstance (by decide +kernel) rfl T.b_str (by decide +kernel))))))) (de_or1 (uNot (de_not (uTh (t_lele dp_int (uCa (e_len T.b_len (uCons (da_cons (dp_var (pv 0)) da_nil)))) dp_int)))))))) (dss_one (ds_ret dp_bl)) dss_nil) (dss_one (ds_ret (uOp (e_eq hr (uFz (uLc (gok_nm (show 1 ∈ ([1] : List Nat) by decide)) (de_lc (own := [("sign", 1)]) rfl sc__law_is_name.nd (show ([1] : List Nat).Nodup by decide) (show ∀ v ∈ ([1] : List Nat), v ∉ ([] : List Nat) by decide) (show ∀ t ∈ ([1] : List Nat), t ∈ ([1] : List Nat) by decide) (uSi (di_str (dp_var (pv 0)))) (blkOk_by (by dsimp only [cxOf, L2.Cx.blk, relE, envE]; decide +kernel)) (fun _ _ _ _ _ => (dg_name (i := 1) (show 1 ∉ ([] : List Nat) by decide) sc__law_is_name.nd rfl (Or.inl rfl))) (fun _ _ _ _ _ => (dts_one (uTo (t_nin hr (dp_var (pv 1)) dp_str)))) (fun _ _ _ _ _ => (dp_var (pv 1)))))) (uFz (uLst (de_lst da_nil))))))))
/-! _law_is_row -/
abbrev s__law_is_row : Stmt := top 11
theorem sc__law_is_row : FnScope ["size", "value", "spot"] ["size", "value"] (defScope s__law_is_row) := ⟨rfl, rfl, rfl, by decide +kernel, rfl, by decide +kernel, by decide +kernel⟩
def F__law_is_row : En → Re Fl := (seqS (ifS (Pu (pOr (pNot (pTe (pIsi "list" (pV 1)))) (pTe (pOp gNe (pCa gLen (pCons (pV 1) (pNil))) (pV 0))))) (rtS (Pu (pK (.bool false)))) nopS) (seqS (forS (Pu (pCa gRg1 (pCons (pV 0) (pNil)))) (gNm 2) (ifS (Pu (pOr (pNot (pTe (pCr f__law_is_name (pCons (pOp gIx (pV 1) (pV 2)) (pNil))))) (pTe (pOp gIn (pOp gIx (pV 1) (pV 2)) (pSl gSl (pV 1) (pNoP) (pSoP (pV 2))))))) (rtS (Pu (pK (.bool false)))) nopS)) (rtS (Pu (pK (.bool true))))))
def f__law_is_row : List D → Re D := dfP 2 3 F__law_is_row
theorem ok__law_is_row {P : Program} {w : World} {K : PySem.W.Frag} {mg : Str → Option Value} {base : Heap} {f : Addr} {fd : FuncData} (T : Txt mg) (D__law_is_name : Dn P w K mg base 1 "_law_is_name" ["value"] (spP K mg f__law_is_name)) (F : Fun K "_law_is_row" "_law_is_row" s__law_is_row f fd) : FnOkG P w K mg base (L2.CX P w) 2 f fd ["size", "value"] (spP K mg f__law_is_row) :=
  fn_P (Fb := F__law_is_row) F sc__law_is_row fun cdv A outer s H E Hin Hb ma hr => by
  have hx : Passes (L2.CX P w) (cxOf (L2.CX P w) P w K mg base ["size", "value", "spot"] "_law_is_row" (defScope s__law_is_row) f cdv A outer s H E) E := passes_call (takes_of rfl rfl rfl rfl) (fun _ _ _ _ h => h)
  exact (dss_cons (ds_if (PW.pt (uOr (de_or (uNot (de_not (uTe (de_test (uIsi (de_isi (T := "list") (dp_var (pv 1)) (by decide +kernel) rfl rfl T.b_isinstance (by decide +kernel) rfl T.b_list (by decide +kernel))))))) (de_or1 (uTo (t_ne hr (uCa (e_len T.b_len (uCons (da_cons (dp_var (pv 1)) da_nil)))) (dp_var (pv 0)))))))) (dss_one (ds_ret dp_bl)) dss_nil) (dss_cons (ds_for (passes_of rfl) rfl (uCi (di_range1 rfl T.b_range (uCons (da_cons (dp_var (pv 0)) da_nil)))) (dg_name (i := 2) (show 2 ∉ ([] : List Nat) by decide) sc__law_is_row.nd rfl (Or.inl rfl)) (dss_one (ds_if (PW.pt (uOr (de_or (uNot (de_not (uTe (de_test (uCr (de_cr D__law_is_name hr rfl hx rfl rfl (uCons (da_cons (uOp (e_ix (dp_var (pv 1)) (dp_var (pv 2)))) da_nil)))))))) (de_or1 (uTo (t_in hr (uOp (e_ix (dp_var (pv 1)) (dp_var (pv 2)))) (uSl (de_sl (dp_var (pv 1)) do_none (uSo (do_some (dp_var (pv 2)))) rfl)))))))) (dss_one (ds_ret dp_bl)) dss_nil))) (dss_one (ds_ret dp_bl))))
/-! _law_changed -/
abbrev s__law_changed : Stmt := top 12
theorem sc__law_changed : FnScope ["source", "row", "size", "at", "odd", "one", "some"] ["source", "row"] (defScope s__law_changed) := ⟨rfl, rfl, rfl, by decide +kernel, rfl, by decide +kernel, by decide +kernel⟩
def F__law_changed : En → Re Fl := (seqS (asS 2 (Pu (pCa gLen (pCons (pV 1) (pNil))))) (seqS (asS 3 (eCm 0 f__law_pick (Pu (pCons (pV 2) (pNil))))) (seqS (asS 4 (Pu (pFz (pLst (pCons (pK (.str "")) (pCons (pK (.str "a")) (pCons (pK (.str "z")) (pCons (pK (.str "abcdefgh")) (pCons (pK (.str "abcdefghi")) (pCons (pK (.str "A")) (pCons (pK (.str "aB")) (pCons (pK (.str "a b")) (pCons (pK (.str "a1")) (pCons (pK (.str "?")) (pCons (pK (.str "-")) (pCons (pK (.str "a-b")) (pCons (pK (.str " a")) (pCons (pK (.str "a\n")) (pCons (pK .none) (pCons (pK (.int 0)) (pCons (pK (.bool true)) (pNil)))))))))))))))))))))) (seqS (asS 4 (Pu (pOp gAdd (pV 4) (pFz (pLst (pCons (pFz (pLst (pCons (pK (.str "a")) (pNil)))) (pCons (pTup (pCons (pK (.str "a")) (pNil))) (pCons (pFz (pLst (pNil))) (pCons (pOp gIx (pV 1) (pK (.int 0))) (pCons (pOp gAdd (pOp gIx (pV 1) (pV 3)) (pK (.str "a"))) (pCons (pSl gSl (pOp gIx (pV 1) (pV 3)) (pNoP) (pSoP (pUn gNeg (pK (.int 1))))) (pCons (pUn gUpper (pOp gIx (pV 1) (pV 3))) (pCons (pOp gMulA (pK (.str "a")) (pK (.int 60))) (pCons (pK (.str "`")) (pCons (pK (.str "{")) (pNil)))))))))))))))) (seqS (asS 5 (eOp gIx (Pu (pV 4)) (eCm 0 f__law_pick (Pu (pCons (pK (.int 27)) (pNil)))))) (seqS (asS 6 (Pu (pFz (pLst (pCons (pOp gAdd (pOp gAdd (pSl gSl (pV 1) (pNoP) (pSoP (pV 3))) (pFz (pLst (pCons (pV 5) (pNil))))) (pSl gSl (pV 1) (pSoP (pOp gAdd (pV 3) (pK (.int 1)))) (pNoP))) (pCons (pOp gAdd (pOp gAdd (pSl gSl (pV 1) (pNoP) (pSoP (pV 3))) (pFz (pLst (pCons (pV 5) (pNil))))) (pSl gSl (pV 1) (pSoP (pV 3)) (pNoP))) (pCons (pOp gAdd (pV 1) (pFz (pLst (pCons (pV 5) (pNil))))) (pCons (pOp gAdd (pSl gSl (pV 1) (pNoP) (pSoP (pV 3))) (pSl gSl (pV 1) (pSoP (pOp gAdd (pV 3) (pK (.int 1)))) (pNoP))) (pNil))))))))) (seqS (asS 6 (Pu (pOp gAdd (pV 6) (pFz (pLst (pCons (pOp gAdd (pV 1) (pSl gSl (pV 1) (pNoP) (pSoP (pK (.int 1))))) (pCons (pCa gTuple (pCons (pV 1) (pNil))) (pCons (pM1 gJoin (pK (.str " ")) (pV 1)) (pCons (pFz (pUnF gRevL (pV 1))) (pCons (pFz (pLst (pCons (pV 1) (pNil)))) (pCons (pK .none) (pCons (pK (.bool true)) (pCons (pV 2) (pCons (pOp gIx (pV 1) (pK (.int 0))) (pCons (pFz (pLst (pNil))) (pNil)))))))))))))))) (rtS (eOp gIx (Pu (pV 6)) (eIf (eTe (eOp gGt (eCm 0 f__law_pick (Pu (pCons (pK (.int 3)) (pNil)))) (Pu (pK (.int 0))))) (eOp gIx (Pu (pFz (pLst (pCons (pK (.int 0)) (pCons (pK (.int 0)) (pCons (pK (.int 0)) (pCons (pK (.int 1)) (pCons (pK (.int 2)) (pCons (pK (.int 3)) (pNil)))))))))) (eCm 0 f__law_pick (Pu (pCons (pK (.int 6)) (pNil))))) (eCm 0 f__law_pick (Pu (pCons (pK (.int 14)) (pNil))))))))))))))
def f__law_changed : List D → List D → Re (D × List D) := dfM 1 7 F__law_changed
theorem ok__law_changed {P : Program} {w : World} {K : PySem.W.Frag} {mg : Str → Option Value} {base : Heap} {f : Addr} {fd : FuncData} (T : Txt mg) (D__law_pick : Dn P w K mg base 1 "_law_pick" ["source", "count"] (spM K mg f__law_pick)) (F : Fun K "_law_changed" "_law_changed" s__law_changed f fd) : FnOkG P w K mg base (L2.CX P w) 2 f fd ["source", "row"] (spM K mg f__law_changed) :=
  fn_M (Fb := F__law_changed) F sc__law_changed fun cdv A outer s H E Hin Hb ma hr => by
  have hx : Passes (L2.CX P w) (cxOf (L2.CX P w) P w K mg base ["source", "row", "size", "at", "odd", "one", "some"] "_law_changed" (defScope s__law_changed) f cdv A outer s H E) E := passes_call (takes_of rfl rfl rfl rfl) (fun _ _ _ _ h => h)
  exact (dss_cons (ds_set (i := 2) (show 2 ∉ ([0] : List Nat) by decide) sc__law_changed.nd rfl (Or.inl rfl) (uCa (e_len T.b_len (uCons (da_cons (dp_var (pv 1)) da_nil))))) (dss_cons (ds_set (i := 3) (show 3 ∉ ([0] : List Nat) by decide) sc__law_changed.nd rfl (Or.inl rfl) (de_cm D__law_pick hr rfl hx rfl rfl (pv 0) (uCons (da_cons (dp_var (pv 2)) da_nil)))) (dss_cons (ds_set (i := 4) (show 4 ∉ ([0] : List Nat) by decide) sc__law_changed.nd rfl (Or.inl rfl) (uFz (uLst (de_lst (uCons (da_cons dp_str (uCons (da_cons dp_str (uCons (da_cons dp_str (uCons (da_cons dp_str (uCons (da_cons dp_str (uCons (da_cons dp_str (uCons (da_cons dp_str (uCons (da_cons dp_str (uCons (da_cons dp_str (uCons (da_cons dp_str (uCons (da_cons dp_str (uCons (da_cons dp_str (uCons (da_cons dp_str (uCons (da_cons dp_str (uCons (da_cons dp_non (uCons (da_cons dp_int (uCons (da_cons dp_bl da_nil)))))))))))))))))))))))))))))))))))))) (dss_cons (ds_set (i := 4) (show 4 ∉ ([0] : List Nat) by decide) sc__law_changed.nd rfl (Or.inl rfl) (uOp (e_add (dp_var (pv 4)) (uFz (uLst (de_lst (uCons (da_cons (uFz (uLst (de_lst (uCons (da_cons dp_str da_nil))))) (uCons (da_cons (uTup (de_tup (uCons (da_cons dp_str da_nil)))) (uCons (da_cons (uFz (uLst (de_lst da_nil))) (uCons (da_cons (uOp (e_ix (dp_var (pv 1)) dp_int)) (uCons (da_cons (uOp (e_add (uOp (e_ix (dp_var (pv 1)) (dp_var (pv 3)))) dp_str)) (uCons (da_cons (uSl (de_sl (uOp (e_ix (dp_var (pv 1)) (dp_var (pv 3)))) do_none (uSo (do_some (uUn (de_neg dp_int)))) rfl)) (uCons (da_cons (uUn (e_upper (uOp (e_ix (dp_var (pv 1)) (dp_var (pv 3)))))) (uCons (da_cons (uOp (e_mulA dp_str dp_int)) (uCons (da_cons dp_str (uCons (da_cons dp_str da_nil)))))))))))))))))))))))))) (dss_cons (ds_set (i := 5) (show 5 ∉ ([0] : List Nat) by decide) sc__law_changed.nd rfl (Or.inl rfl) (e_ix (dp_var (pv 4)) (de_cm D__law_pick hr rfl hx rfl rfl (pv 0) (uCons (da_cons dp_int da_nil))))) (dss_cons (ds_set (i := 6) (show 6 ∉ ([0] : List Nat) by decide) sc__law_changed.nd rfl (Or.inl rfl) (uFz (uLst (de_lst (uCons (da_cons (uOp (e_add (uOp (e_add (uSl (de_sl (dp_var (pv 1)) do_none (uSo (do_some (dp_var (pv 3)))) rfl)) (uFz (uLst (de_lst (uCons (da_cons (dp_var (pv 5)) da_nil))))))) (uSl (de_sl (dp_var (pv 1)) (uSo (do_some (uOp (e_add (dp_var (pv 3)) dp_int)))) do_none rfl)))) (uCons (da_cons (uOp (e_add (uOp (e_add (uSl (de_sl (dp_var (pv 1)) do_none (uSo (do_some (dp_var (pv 3)))) rfl)) (uFz (uLst (de_lst (uCons (da_cons (dp_var (pv 5)) da_nil))))))) (uSl (de_sl (dp_var (pv 1)) (uSo (do_some (dp_var (pv 3)))) do_none rfl)))) (uCons (da_cons (uOp (e_add (dp_var (pv 1)) (uFz (uLst (de_lst (uCons (da_cons (dp_var (pv 5)) da_nil))))))) (uCons (da_cons (uOp (e_add (uSl (de_sl (dp_var (pv 1)) do_none (uSo (do_some (dp_var (pv 3)))) rfl)) (uSl (de_sl (dp_var (pv 1)) (uSo (do_some (uOp (e_add (dp_var (pv 3)) dp_int)))) do_none rfl)))) da_nil)))))))))))) (dss_cons (ds_set (i := 6) (show 6 ∉ ([0] : List Nat) by decide) sc__law_changed.nd rfl (Or.inl rfl) (uOp (e_add (dp_var (pv 6)) (uFz (uLst (de_lst (uCons (da_cons (uOp (e_add (dp_var (pv 1)) (uSl (de_sl (dp_var (pv 1)) do_none (uSo (do_some dp_int)) rfl)))) (uCons (da_cons (uCa (e_tuple T.b_tuple (uCons (da_cons (dp_var (pv 1)) da_nil)))) (uCons (da_cons (uM1 (e_join dp_str (dp_var (pv 1)))) (uCons (da_cons (uFz (uUnF (e_revL (dp_var (pv 1))))) (uCons (da_cons (uFz (uLst (de_lst (uCons (da_cons (dp_var (pv 1)) da_nil))))) (uCons (da_cons dp_non (uCons (da_cons dp_bl (uCons (da_cons (dp_var (pv 2)) (uCons (da_cons (uOp (e_ix (dp_var (pv 1)) dp_int)) (uCons (da_cons (uFz (uLst (de_lst da_nil))) da_nil)))))))))))))))))))))))))) (dss_one (ds_ret (e_ix (dp_var (pv 6)) (de_ifExp (t_gt (de_cm D__law_pick hr rfl hx rfl rfl (pv 0) (uCons (da_cons dp_int da_nil))) dp_int) (e_ix (uFz (uLst (de_lst (uCons (da_cons dp_int (uCons (da_cons dp_int (uCons (da_cons dp_int (uCons (da_cons dp_int (uCons (da_cons dp_int (uCons (da_cons dp_int da_nil))))))))))))))) (de_cm D__law_pick hr rfl hx rfl rfl (pv 0) (uCons (da_cons dp_int da_nil)))) (de_cm D__law_pick hr rfl hx rfl rfl (pv 0) (uCons (da_cons dp_int da_nil))))))))))))))
/-! _law_right -/
abbrev s__law_right : Stmt := top 13
theorem sc__law_right : FnScope ["size", "value", "kept", "due", "found"] ["size", "value"] (defScope s__law_right) := ⟨rfl, rfl, rfl, by decide +kernel, rfl, by decide +kernel, by decide +kernel⟩
def F__law_right : En → Re Fl := (seqS (asS 2 (Pu (pCa gRepr (pCons (pV 1) (pNil))))) (seqS (asS 3 (Pu (pCr f__law_is_row (pCons (pV 0) (pCons (pV 1) (pNil)))))) (seqS (asS 4 (Pu (pFz (pLst (pCons (pCr f_is_arrangement (pCons (pV 0) (pCons (pV 1) (pNil)))) (pCons (pCk 0 2 [1, 0] f_is_arrangement (pNil) (pCons (pV 1) (pCons (pV 0) (pNil)))) (pNil))))))) (rtS (Pu (pBo (pAnd (pTe (pOp gEq (pCa gRepr (pCons (pV 4) (pNil))) (pCa gRepr (pCons (pFz (pLst (pCons (pV 3) (pCons (pV 3) (pNil))))) (pNil))))) (pTe (pOp gEq (pCa gRepr (pCons (pV 1) (pNil))) (pV 2))))))))))
def f__law_right : List D → Re D := dfP 2 5 F__law_right
theorem ok__law_right {P : Program} {w : World} {K : PySem.W.Frag} {mg : Str → Option Value} {base : Heap} {f : Addr} {fd : FuncData} (T : Txt mg) (D__law_is_row : Dn P w K mg base 2 "_law_is_row" ["size", "value"] (spP K mg f__law_is_row)) (D_is_arrangement : Dn P w K mg base 2 "is_arrangement" ["n", "thing"] (spP K mg f_is_arrangement)) (DK_is_arrangement_0_thing_n : DnK P w K mg base 2 "is_arrangement" ["n", "thing"] ["thing", "n"] 0 2 [1, 0] (spP K mg f_is_arrangement)) (F : Fun K "_law_right" "_law_right" s__law_right f fd) : FnOkG P w K mg base (L2.CX P w) 3 f fd ["size", "value"] (spP K mg f__law_right) :=
  fn_P (Fb := F__law_right) F sc__law_right fun cdv A outer s H E Hin Hb ma hr => by
  have hx : Passes (L2.CX P w) (cxOf (L2.CX P w) P w K mg base ["size", "value", "kept", "due", "found"] "_law_right" (defScope s__law_right) f cdv A outer s H E) E := passes_call (takes_of rfl rfl rfl rfl) (fun _ _ _ _ h => h)
  exact (dss_cons (ds_set (i := 2) (show 2 ∉ ([] : List Nat) by decide) sc__law_right.nd rfl (Or.inl rfl) (uCa (e_repr hr T.b_repr (uCons (da_cons (dp_var (pv 1)) da_nil))))) (dss_cons (ds_set (i := 3) (show 3 ∉ ([] : List Nat) by decide) sc__law_right.nd rfl (Or.inl rfl) (uCr (de_cr D__law_is_row hr rfl hx rfl rfl (uCons (da_cons (dp_var (pv 0)) (uCons (da_cons (dp_var (pv 1)) da_nil))))))) (dss_cons (ds_set (i := 4) (show 4 ∉ ([] : List Nat) by decide) sc__law_right.nd rfl (Or.inl rfl) (uFz (uLst (de_lst (uCons (da_cons (uCr (de_cr D_is_arrangement hr rfl hx rfl rfl (uCons (da_cons (dp_var (pv 0)) (uCons (da_cons (dp_var (pv 1)) da_nil)))))) (uCons (da_cons (uCk (de_ck0 DK_is_arrangement_0_thing_n hr rfl hx rfl rfl (uKCons (dk_cons (dp_var (pv 1)) (uKCons (dk_cons (dp_var (pv 0)) dk_nil)))))) da_nil)))))))) (dss_one (ds_ret (uVa (de_vand (uOp (e_eq hr (uCa (e_repr hr T.b_repr (uCons (da_cons (dp_var (pv 4)) da_nil)))) (uCa (e_repr hr T.b_repr (uCons (da_cons (uFz (uLst (de_lst (uCons (da_cons (dp_var (pv 3)) (uCons (da_cons (dp_var (pv 3)) da_nil))))))) da_nil)))))) (bBo (uVl (e_vl (uOp (e_eq hr (uCa (e_repr hr T.b_repr (uCons (da_cons (dp_var (pv 1)) da_nil)))) (dp_var (pv 2))))))))))))))
/-! law -/
abbrev s_law : Stmt := top 14
theorem sc_law : FnScope ["script", "k", "source", "turn", "size", "row", "other", "change", "value"] ["script"] (defScope s_law) := ⟨rfl, rfl, rfl, by decide +kernel, rfl, by decide +kernel, by decide +kernel⟩
def F_law : En → Re Fl := (seqS (forS (Pu (pCa gRg1 (pCons (pCa gMax (pCons (pK (.int 1)) (pCons (pCa gMin (pCons (pK (.int 4)) (pCons (pCa gLen (pCons (pV 0) (pNil))) (pNil)))) (pNil)))) (pNil)))) (gNm 1) (seqS (owS 2 (Pu (pCr f__law_source (pCons (pV 0) (pCons (pV 1) (pNil)))))) (forS (Pu (pCa gRg1 (pCons (pK (.int 4)) (pNil)))) (gNm 3) (seqS (asS 4 (eOp gIx (fz (eLst (eCons (eOp gAdd (Pu (pK (.int 1))) (eCm 2 f__law_pick (Pu (pCons (pK (.int 5)) (pNil))))) (eCons (eOp gAdd (Pu (pK (.int 1))) (eCm 2 f__law_pick (Pu (pCons (pK (.int 40)) (pNil))))) (eCons (eOp gAdd (Pu (pK (.int 26))) (eCm 2 f__law_pick (Pu (pCons (pK (.int 2)) (pNil))))) (Pu (pCons (pK (.int 40)) (pNil)))))))) (Pu (pV 3)))) (seqS (asS 5 (eCm 2 f__law_names (Pu (pCons (pV 4) (pNil))))) (seqS (ifS (Pu (pOr (pNot (pTe (pCr f__law_is_row (pCons (pV 4) (pCons (pV 5) (pNil)))))) (pNot (pTe (pCr f__law_right (pCons (pV 4) (pCons (pV 5) (pNil)))))))) (fzS 2 (rtS (Pu (pK (.bool false))))) nopS) (seqS (forS (Pu (pLst (pCons (pK (.int 1)) (pCons (pCa gMax (pCons (pK (.int 1)) (pCons (pOp gSub (pV 4) (pK (.int 1))) (pNil)))) (pCons (pCa gMin (pCons (pK (.int 40)) (pCons (pOp gAdd (pV 4) (pK (.int 1))) (pNil)))) (pCons (pK (.int 40)) (pNil))))))) (gNm 6) (ifS (Pu (pNot (pTe (pCr f__law_right (pCons (pV 6) (pCons (pV 5) (pNil))))))) (fzS 2 (rtS (Pu (pK (.bool false))))) nopS)) (forS (Pu (pCa gRg1 (pCons (pK (.int 10)) (pNil)))) (gNm 7) (seqS (asS 8 (eCm 2 f__law_changed (Pu (pCons (pV 5) (pNil))))) (ifS (eOr (Pu (pNot (pTe (pCr f__law_right (pCons (pV 4) (pCons (pV 8) (pNil))))))) (eNot (eTe (eCr f__law_right (eCons (eOp gAdd (Pu (pK (.int 1))) (eCm 2 f__law_pick (Pu (pCons (pK (.int 40)) (pNil))))) (Pu (pCons (pV 8) (pNil)))))))) (fzS 2 (rtS (Pu (pK (.bool false))))) nopS)))))))))) (rtS (Pu (pK (.bool true)))))
def f_law : List D → Re D := dfP 1 9 F_law
theorem ok_law {P : Program} {w : World} {K : PySem.W.Frag} {mg : Str → Option Value} {base : Heap} {f : Addr} {fd : FuncData} (T : Txt mg) (D__law_source : Dn P w K mg base 1 "_law_source" ["script", "k"] (spPF K mg f__law_source)) (D__law_pick : Dn P w K mg base 1 "_law_pick" ["source", "count"] (spM K mg f__law_pick)) (D__law_names : Dn P w K mg base 3 "_law_names" ["source", "size"] (spM K mg f__law_names)) (D__law_is_row : Dn P w K mg base 2 "_law_is_row" ["size", "value"] (spP K mg f__law_is_row)) (D__law_right : Dn P w K mg base 3 "_law_right" ["size", "value"] (spP K mg f__law_right)) (D__law_changed : Dn P w K mg base 2 "_law_changed" ["source", "row"] (spM K mg f__law_changed)) (F : Fun K "law" "law" s_law f fd) : FnOkG P w K mg base (L2.CX P w) 4 f fd ["script"] (spP K mg f_law) :=
  fn_P (Fb := F_law) F sc_law fun cdv A outer s H E Hin Hb ma hr => by
  have hx : Passes (L2.CX P w) (cxOf (L2.CX P w) P w K mg base ["script", "k", "source", "turn", "size", "row", "other", "change", "value"] "law" (defScope s_law) f cdv A outer s H E) E := passes_call (takes_of rfl rfl rfl rfl) (fun _ _ _ _ h => h)
  exact (dss_cons (ds_for (passes_of rfl) rfl (uCi (di_range1 rfl T.b_range (uCons (da_cons (uCa (e_max T.b_max (uCons (da_cons dp_int (uCons (da_cons (uCa (e_min T.b_min (uCons (da_cons dp_int (uCons (da_cons (uCa (e_len T.b_len (uCons (da_cons (dp_var (pv 0)) da_nil)))) da_nil)))))) da_nil)))))) da_nil)))) (dg_name (i := 1) (show 1 ∉ ([] : List Nat) by decide) sc_law.nd rfl (Or.inl rfl)) (dss_cons (ds_own (i := 2) (show 2 ∉ ([] : List Nat) by decide) sc_law.nd rfl (Or.inl rfl) (uCrF (de_crF D__law_source (hr.mono (show 1 ≤ 3 by decide)) rfl hx rfl rfl (uCons (da_cons (dp_var (pv 0)) (uCons (da_cons (dp_var (pv 1)) da_nil))))))) (dss_one (ds_for (passes_of rfl) rfl (uCi (di_range1 rfl T.b_range (uCons (da_cons dp_int da_nil)))) (dg_name (i := 3) (show 3 ∉ ([] : List Nat) by decide) sc_law.nd rfl (Or.inl rfl)) (dss_cons (ds_set (i := 4) (show 4 ∉ ([] : List Nat) by decide) sc_law.nd rfl (Or.inl rfl) (e_ix (de_frz (de_lst (da_cons (e_add dp_int (de_cm D__law_pick (hr.mono (show 1 ≤ 3 by decide)) rfl hx rfl rfl (pv 2) (uCons (da_cons dp_int da_nil)))) (da_cons (e_add dp_int (de_cm D__law_pick (hr.mono (show 1 ≤ 3 by decide)) rfl hx rfl rfl (pv 2) (uCons (da_cons dp_int da_nil)))) (da_cons (e_add dp_int (de_cm D__law_pick (hr.mono (show 1 ≤ 3 by decide)) rfl hx rfl rfl (pv 2) (uCons (da_cons dp_int da_nil)))) (uCons (da_cons dp_int da_nil))))))) (dp_var (pv 3)))) (dss_cons (ds_set (i := 5) (show 5 ∉ ([] : List Nat) by decide) sc_law.nd rfl (Or.inl rfl) (de_cm D__law_names hr rfl hx rfl rfl (pv 2) (uCons (da_cons (dp_var (pv 4)) da_nil)))) (dss_cons (ds_if (PW.pt (uOr (de_or (uNot (de_not (uTe (de_test (uCr (de_cr D__law_is_row (hr.mono (show 2 ≤ 3 by decide)) rfl hx rfl rfl (uCons (da_cons (dp_var (pv 4)) (uCons (da_cons (dp_var (pv 5)) da_nil)))))))))) (de_or1 (uNot (de_not (uTe (de_test (uCr (de_cr D__law_right hr rfl hx rfl rfl (uCons (da_cons (dp_var (pv 4)) (uCons (da_cons (dp_var (pv 5)) da_nil)))))))))))))) (dss_fz (show 2 ∉ ([] : List Nat) by decide) (dss_one (ds_ret dp_bl))) dss_nil) (dss_cons (ds_for (passes_of rfl) rfl (di_fr rfl (uLst (de_lst (uCons (da_cons dp_int (uCons (da_cons (uCa (e_max T.b_max (uCons (da_cons dp_int (uCons (da_cons (uOp (e_sub (dp_var (pv 4)) dp_int)) da_nil)))))) (uCons (da_cons (uCa (e_min T.b_min (uCons (da_cons dp_int (uCons (da_cons (uOp (e_add (dp_var (pv 4)) dp_int)) da_nil)))))) (uCons (da_cons dp_int da_nil))))))))))) (dg_name (i := 6) (show 6 ∉ ([] : List Nat) by decide) sc_law.nd rfl (Or.inl rfl)) (dss_one (ds_if (uNot (de_not (uTe (de_test (uCr (de_cr D__law_right hr rfl hx rfl rfl (uCons (da_cons (dp_var (pv 6)) (uCons (da_cons (dp_var (pv 5)) da_nil)))))))))) (dss_fz (show 2 ∉ ([] : List Nat) by decide) (dss_one (ds_ret dp_bl))) dss_nil))) (dss_one (ds_for (passes_of rfl) rfl (uCi (di_range1 rfl T.b_range (uCons (da_cons dp_int da_nil)))) (dg_name (i := 7) (show 7 ∉ ([] : List Nat) by decide) sc_law.nd rfl (Or.inl rfl)) (dss_cons (ds_set (i := 8) (show 8 ∉ ([] : List Nat) by decide) sc_law.nd rfl (Or.inl rfl) (de_cm D__law_changed (hr.mono (show 2 ≤ 3 by decide)) rfl hx rfl rfl (pv 2) (uCons (da_cons (dp_var (pv 5)) da_nil)))) (dss_one (ds_if (PW.pt (de_or (uNot (de_not (uTe (de_test (uCr (de_cr D__law_right hr rfl hx rfl rfl (uCons (da_cons (dp_var (pv 4)) (uCons (da_cons (dp_var (pv 8)) da_nil)))))))))) (de_or1 (de_not (de_test (de_cr D__law_right hr rfl hx rfl rfl (da_cons (e_add dp_int (de_cm D__law_pick (hr.mono (show 1 ≤ 3 by decide)) rfl hx rfl rfl (pv 2) (uCons (da_cons dp_int da_nil)))) (uCons (da_cons (dp_var (pv 8)) da_nil))))))))) (dss_fz (show 2 ∉ ([] : List Nat) by decide) (dss_one (ds_ret dp_bl))) dss_nil))))))))))))) (dss_one (ds_ret dp_bl)))
def spLaw (K : PySem.W.Frag) : Sp := fun vs H Q _ => ∃ (a : Addr) (ns : List Int), vs = [.ref a] ∧ SqL K H a (ns.map V.int) ∧ ns.length ≤ 63 ∧ ∀ H', Q (.bl true) H'
def LawTrue : Prop := ∀ ns : List Int, ns.length ≤ 63 → f_law [.list (ns.map .int)] = .ok (.bool true)
theorem all_mk (hL : LawTrue) {l : PySem.W.OpenLaw} {w : World} {K : PySem.W.Frag} {h : Heap} {mg : Str → Option Value} {fa : Addr} (X : K.In h) (G : h.Ns mainGlobals mg) (hfa : mg "law" = some (.ref fa))
    {f1 : Addr} {od1 an1 : Option Addr} {sl1 : Array (Option Value)} {oc1 kV1 dc1 pm1 cd1 ct1 : Value}
    {f2 : Addr} {od2 an2 : Option Addr} {sl2 : Array (Option Value)} {oc2 kV2 dc2 pm2 cd2 ct2 : Value}
    {f3 : Addr} {od3 an3 : Option Addr} {sl3 : Array (Option Value)} {oc3 kV3 dc3 pm3 cd3 ct3 : Value}
    {f4 : Addr} {od4 an4 : Option Addr} {sl4 : Array (Option Value)} {oc4 kV4 dc4 pm4 cd4 ct4 : Value}
    {f5 : Addr} {od5 an5 : Option Addr} {sl5 : Array (Option Value)} {oc5 kV5 dc5 pm5 cd5 ct5 : Value}
    {f6 : Addr} {od6 an6 : Option Addr} {sl6 : Array (Option Value)} {oc6 kV6 dc6 pm6 cd6 ct6 : Value}
    {f7 : Addr} {od7 an7 : Option Addr} {sl7 : Array (Option Value)} {oc7 kV7 dc7 pm7 cd7 ct7 : Value}
    {f8 : Addr} {od8 an8 : Option Addr} {sl8 : Array (Option Value)} {oc8 kV8 dc8 pm8 cd8 ct8 : Value}
    {f9 : Addr} {od9 an9 : Option Addr} {sl9 : Array (Option Value)} {oc9 kV9 dc9 pm9 cd9 ct9 : Value}
    {f10 : Addr} {od10 an10 : Option Addr} {sl10 : Array (Option Value)} {oc10 kV10 dc10 pm10 cd10 ct10 : Value}
    {f11 : Addr} {od11 an11 : Option Addr} {sl11 : Array (Option Value)} {oc11 kV11 dc11 pm11 cd11 ct11 : Value}
    {t_LETTERS : Tok}
    {t_MOST_LETTERS : Tok}
    (a1 : PySem.W.nsIn K mainGlobals "_law_source" = some (some (.ref f1))) (l1 : K.lookup f1 = some ⟨oc1, od1, .func (PySem.W.fnOf "_law_source" "_law_source" (defArgs s__law_source) (defBody s__law_source) (defScope s__law_source) .none kV1 dc1 pm1 an1 cd1 ct1), sl1⟩) (c1 : PySem.W.codeIn K cd1 "_law_source" = true) (k1 : PySem.W.keepIn K (.ref f1) = true)
    (a2 : PySem.W.nsIn K mainGlobals "_law_pick" = some (some (.ref f2))) (l2 : K.lookup f2 = some ⟨oc2, od2, .func (PySem.W.fnOf "_law_pick" "_law_pick" (defArgs s__law_pick) (defBody s__law_pick) (defScope s__law_pick) .none kV2 dc2 pm2 an2 cd2 ct2), sl2⟩) (c2 : PySem.W.codeIn K cd2 "_law_pick" = true) (k2 : PySem.W.keepIn K (.ref f2) = true)
    (a3 : PySem.W.nsIn K mainGlobals "_law_shuffled" = some (some (.ref f3))) (l3 : K.lookup f3 = some ⟨oc3, od3, .func (PySem.W.fnOf "_law_shuffled" "_law_shuffled" (defArgs s__law_shuffled) (defBody s__law_shuffled) (defScope s__law_shuffled) .none kV3 dc3 pm3 an3 cd3 ct3), sl3⟩) (c3 : PySem.W.codeIn K cd3 "_law_shuffled" = true) (k3 : PySem.W.keepIn K (.ref f3) = true)
    (a4 : PySem.W.nsIn K mainGlobals "_law_names" = some (some (.ref f4))) (l4 : K.lookup f4 = some ⟨oc4, od4, .func (PySem.W.fnOf "_law_names" "_law_names" (defArgs s__law_names) (defBody s__law_names) (defScope s__law_names) .none kV4 dc4 pm4 an4 cd4 ct4), sl4⟩) (c4 : PySem.W.codeIn K cd4 "_law_names" = true) (k4 : PySem.W.keepIn K (.ref f4) = true)
    (a5 : PySem.W.nsIn K mainGlobals "_law_is_name" = some (some (.ref f5))) (l5 : K.lookup f5 = some ⟨oc5, od5, .func (PySem.W.fnOf "_law_is_name" "_law_is_name" (defArgs s__law_is_name) (defBody s__law_is_name) (defScope s__law_is_name) .none kV5 dc5 pm5 an5 cd5 ct5), sl5⟩) (c5 : PySem.W.codeIn K cd5 "_law_is_name" = true) (k5 : PySem.W.keepIn K (.ref f5) = true)
    (a6 : PySem.W.nsIn K mainGlobals "_law_is_row" = some (some (.ref f6))) (l6 : K.lookup f6 = some ⟨oc6, od6, .func (PySem.W.fnOf "_law_is_row" "_law_is_row" (defArgs s__law_is_row) (defBody s__law_is_row) (defScope s__law_is_row) .none kV6 dc6 pm6 an6 cd6 ct6), sl6⟩) (c6 : PySem.W.codeIn K cd6 "_law_is_row" = true) (k6 : PySem.W.keepIn K (.ref f6) = true)
    (a7 : PySem.W.nsIn K mainGlobals "is_item" = some (some (.ref f7))) (l7 : K.lookup f7 = some ⟨oc7, od7, .func (PySem.W.fnOf "is_item" "is_item" (defArgs s_is_item) (defBody s_is_item) (defScope s_is_item) .none kV7 dc7 pm7 an7 cd7 ct7), sl7⟩) (c7 : PySem.W.codeIn K cd7 "is_item" = true) (k7 : PySem.W.keepIn K (.ref f7) = true)
    (a8 : PySem.W.nsIn K mainGlobals "is_arrangement" = some (some (.ref f8))) (l8 : K.lookup f8 = some ⟨oc8, od8, .func (PySem.W.fnOf "is_arrangement" "is_arrangement" (defArgs s_is_arrangement) (defBody s_is_arrangement) (defScope s_is_arrangement) .none kV8 dc8 pm8 an8 cd8 ct8), sl8⟩) (c8 : PySem.W.codeIn K cd8 "is_arrangement" = true) (k8 : PySem.W.keepIn K (.ref f8) = true)
    (a9 : PySem.W.nsIn K mainGlobals "_law_right" = some (some (.ref f9))) (l9 : K.lookup f9 = some ⟨oc9, od9, .func (PySem.W.fnOf "_law_right" "_law_right" (defArgs s__law_right) (defBody s__law_right) (defScope s__law_right) .none kV9 dc9 pm9 an9 cd9 ct9), sl9⟩) (c9 : PySem.W.codeIn K cd9 "_law_right" = true) (k9 : PySem.W.keepIn K (.ref f9) = true)
    (a10 : PySem.W.nsIn K mainGlobals "_law_changed" = some (some (.ref f10))) (l10 : K.lookup f10 = some ⟨oc10, od10, .func (PySem.W.fnOf "_law_changed" "_law_changed" (defArgs s__law_changed) (defBody s__law_changed) (defScope s__law_changed) .none kV10 dc10 pm10 an10 cd10 ct10), sl10⟩) (c10 : PySem.W.codeIn K cd10 "_law_changed" = true) (k10 : PySem.W.keepIn K (.ref f10) = true)
    (a11 : PySem.W.nsIn K mainGlobals "law" = some (some (.ref f11))) (l11 : K.lookup f11 = some ⟨oc11, od11, .func (PySem.W.fnOf "law" "law" (defArgs s_law) (defBody s_law) (defScope s_law) .none kV11 dc11 pm11 an11 cd11 ct11), sl11⟩) (c11 : PySem.W.codeIn K cd11 "law" = true) (k11 : PySem.W.keepIn K (.ref f11) = true)
    (z_abs : PySem.W.nsIn K mainGlobals "abs" = some none)
    (z_all : PySem.W.nsIn K mainGlobals "all" = some none)
    (z_isinstance : PySem.W.nsIn K mainGlobals "isinstance" = some none)
    (z_len : PySem.W.nsIn K mainGlobals "len" = some none)
    (z_list : PySem.W.nsIn K mainGlobals "list" = some none)
    (z_max : PySem.W.nsIn K mainGlobals "max" = some none)
    (z_min : PySem.W.nsIn K mainGlobals "min" = some none)
    (z_range : PySem.W.nsIn K mainGlobals "range" = some none)
    (z_repr : PySem.W.nsIn K mainGlobals "repr" = some none)
    (z_set : PySem.W.nsIn K mainGlobals "set" = some none)
    (z_str : PySem.W.nsIn K mainGlobals "str" = some none)
    (z_tuple : PySem.W.nsIn K mainGlobals "tuple" = some none)
    (y_LETTERS : PySem.W.nsIn K mainGlobals "LETTERS" = some (some (.str "abcdefghijklmnopqrstuvwxyz" t_LETTERS)))
    (y_MOST_LETTERS : PySem.W.nsIn K mainGlobals "MOST_LETTERS" = some (some (.int 8 t_MOST_LETTERS))) :
    ∃ fd : FuncData, (∀ (s : Shared) (v : Value), BindsTo s fd ⟨[v], []⟩ [("script", v)]) ∧ ∀ base : Heap, K.In base → base.Ns mainGlobals mg → FnOkG l.prog w K mg base (L2.CX l.prog w) 4 fa fd ["script"] (spLaw K) := by
  have e := hfa.symm.trans (PySem.W.mg_of X G a11)
  cases e
  have T : Txt mg := ⟨PySem.W.mg_none_of X G z_abs, PySem.W.mg_none_of X G z_all, PySem.W.mg_none_of X G z_isinstance, PySem.W.mg_none_of X G z_len, PySem.W.mg_none_of X G z_list, PySem.W.mg_none_of X G z_max, PySem.W.mg_none_of X G z_min, PySem.W.mg_none_of X G z_range, PySem.W.mg_none_of X G z_repr, PySem.W.mg_none_of X G z_set, PySem.W.mg_none_of X G z_str, PySem.W.mg_none_of X G z_tuple, ⟨_, PySem.W.mg_of X G y_LETTERS⟩, ⟨_, PySem.W.mg_of X G y_MOST_LETTERS⟩⟩
  have F1 := fun_mk (st := s__law_source) l1 c1 k1
  have b1 := F1.binds (ps := ["script", "k"]) fun _ _ _ _ _ _ us hl => match us, hl with | [_, _], _ => rfl
  have F2 := fun_mk (st := s__law_pick) l2 c2 k2
  have b2 := F2.binds (ps := ["source", "count"]) fun _ _ _ _ _ _ us hl => match us, hl with | [_, _], _ => rfl
  have F3 := fun_mk (st := s__law_shuffled) l3 c3 k3
  have b3 := F3.binds (ps := ["source", "row"]) fun _ _ _ _ _ _ us hl => match us, hl with | [_, _], _ => rfl
  have F4 := fun_mk (st := s__law_names) l4 c4 k4
  have b4 := F4.binds (ps := ["source", "size"]) fun _ _ _ _ _ _ us hl => match us, hl with | [_, _], _ => rfl
  have F5 := fun_mk (st := s__law_is_name) l5 c5 k5
  have b5 := F5.binds (ps := ["value"]) fun _ _ _ _ _ _ us hl => match us, hl with | [_], _ => rfl
  have F6 := fun_mk (st := s__law_is_row) l6 c6 k6
  have b6 := F6.binds (ps := ["size", "value"]) fun _ _ _ _ _ _ us hl => match us, hl with | [_, _], _ => rfl
  have F7 := fun_mk (st := s_is_item) l7 c7 k7
  have b7 := F7.binds (ps := ["thing"]) fun _ _ _ _ _ _ us hl => match us, hl with | [_], _ => rfl
  have F8 := fun_mk (st := s_is_arrangement) l8 c8 k8
  have b8 := F8.binds (ps := ["n", "thing"]) fun _ _ _ _ _ _ us hl => match us, hl with | [_, _], _ => rfl
  have F9 := fun_mk (st := s__law_right) l9 c9 k9
  have b9 := F9.binds (ps := ["size", "value"]) fun _ _ _ _ _ _ us hl => match us, hl with | [_, _], _ => rfl
  have F10 := fun_mk (st := s__law_changed) l10 c10 k10
  have b10 := F10.binds (ps := ["source", "row"]) fun _ _ _ _ _ _ us hl => match us, hl with | [_, _], _ => rfl
  have F11 := fun_mk (st := s_law) l11 c11 k11
  refine ⟨PySem.W.fnOf "law" "law" (defArgs s_law) (defBody s_law) (defScope s_law) .none kV11 dc11 pm11 an11 cd11 ct11, fun s v => .of_eq rfl, fun base _ _ => ?_⟩
  have D1 : Dn l.prog w K mg base 1 "_law_source" ["script", "k"] (spPF K mg f__law_source) := ⟨_, _, (ok__law_source T F1), PySem.W.mg_of X G a1, k1, b1⟩
  have D2 : Dn l.prog w K mg base 1 "_law_pick" ["source", "count"] (spM K mg f__law_pick) := ⟨_, _, (ok__law_pick T F2), PySem.W.mg_of X G a2, k2, b2⟩
  have D3 : Dn l.prog w K mg base 2 "_law_shuffled" ["source", "row"] (spM K mg f__law_shuffled) := ⟨_, _, (ok__law_shuffled T D2 F3), PySem.W.mg_of X G a3, k3, b3⟩
  have D4 : Dn l.prog w K mg base 3 "_law_names" ["source", "size"] (spM K mg f__law_names) := ⟨_, _, (ok__law_names T D2 D3 F4), PySem.W.mg_of X G a4, k4, b4⟩
  have D5 : Dn l.prog w K mg base 1 "_law_is_name" ["value"] (spP K mg f__law_is_name) := ⟨_, _, (ok__law_is_name T F5), PySem.W.mg_of X G a5, k5, b5⟩
  have D6 : Dn l.prog w K mg base 2 "_law_is_row" ["size", "value"] (spP K mg f__law_is_row) := ⟨_, _, (ok__law_is_row T D5 F6), PySem.W.mg_of X G a6, k6, b6⟩
  have D7 : Dn l.prog w K mg base 1 "is_item" ["thing"] (spP K mg f_is_item) := ⟨_, _, (ok_is_item T F7), PySem.W.mg_of X G a7, k7, b7⟩
  have D8 : Dn l.prog w K mg base 2 "is_arrangement" ["n", "thing"] (spP K mg f_is_arrangement) := ⟨_, _, (ok_is_arrangement T D7 F8), PySem.W.mg_of X G a8, k8, b8⟩
  have DK8_0_thing_n : DnK l.prog w K mg base 2 "is_arrangement" ["n", "thing"] ["thing", "n"] 0 2 [1, 0] (spP K mg f_is_arrangement) := ⟨_, _, (ok_is_arrangement T D7 F8), PySem.W.mg_of X G a8, k8, Fun.kbinds F8 (by decide) fun _ _ _ _ _ _ us ws h1 h2 => match us, ws, h1, h2 with | [], [_, _], _, _ => rfl⟩
  have D9 : Dn l.prog w K mg base 3 "_law_right" ["size", "value"] (spP K mg f__law_right) := ⟨_, _, (ok__law_right T D6 D8 DK8_0_thing_n F9), PySem.W.mg_of X G a9, k9, b9⟩
  have D10 : Dn l.prog w K mg base 2 "_law_changed" ["source", "row"] (spM K mg f__law_changed) := ⟨_, _, (ok__law_changed T D2 F10), PySem.W.mg_of X G a10, k10, b10⟩
  exact (ok_law T D1 D2 D4 D6 D9 D10 F11).imp fun vs H Q E ⟨a, ns, e, hs, hl, q⟩ => ⟨H, [.list (ns.map .int)], Same.refl _, by subst e; exact .cons (.lst hs (ints_rp ns)) .nil, by
    rw [hL ns hl]
    intro v Hs' H' _ _ _ _ r
    cases r
    exact q H'⟩
theorem walk (hL : LawTrue) {l : PySem.W.OpenLaw} {q : Program} {loose : List Str} {XP : (Str → Option Value) → Heap → Prop} {YP : World → Heap → Prop} {d : DefRec} {K : Params → PySem.W.Frag} (hn : l.most = some 63) (hdf : d.params.defaults = [])
    (hY : ∀ (w : World) (h : Heap), YP w h → (K w.params).In h)
    (F : ∀ (w : World) (mg : Str → Option Value) (fa : Addr) (h : Heap), (K w.params).In h → h.Ns mainGlobals mg → mg d.name = some (.ref fa) →
      ∃ fd : FuncData, (∀ (s : Shared) (u : Value), BindsTo s fd ⟨[u], []⟩ [("script", u)]) ∧ ∀ base : Heap, (K w.params).In base → base.Ns mainGlobals mg → FnOkG l.prog w (K w.params) mg base (L2.CX l.prog w) 4 fa fd ["script"] (spLaw (K w.params))) :
    PySem.W.WalkO q loose XP YP l.row.toRowW d [] (fun f vs => PySem.call f vs) :=
  walk_ofG (n := 63) (k := 4) (x := "script") (CX := fun w => L2.CX l.prog w) (sp := fun w => spLaw (K w.params)) hn (by decide) hdf ⟨⟨rfl, by decide, by decide⟩, rfl⟩ hY F (fun _ _ a ns hl hS => ⟨a, ns, rfl, hS, hl, fun _ => rfl⟩) fun w H s e s' ⟨_, _, _, _, _, _, _, _, _, _, _, _, z⟩ => z
end Law

namespace Law
open PySem L2 DL
/-! the law's own choices -/
def Src (B : Nat) (s : List D) : Prop := ∃ a b c : Int, s = [.int a, .int b, .int c] ∧ b.natAbs < 2 ^ 200 ∧ 0 ≤ c ∧ c ≤ B
theorem log2_lt {n k : Nat} (h : n < 2 ^ k) (hk : 0 < k) : n.log2 < k := by
  by_cases h0 : n = 0
  · subst h0; simpa using hk
  · exact (Nat.log2_lt h0).mpr h
theorem source_ok (ns : List Int) (k : Nat) (hk : k ≤ 1000) : Wr (f__law_source [.list (ns.map .int), .int (k : Int)]) (Src 0) := by
  refine Wr_PF rfl ?_
  have hp : ∀ j : Int, 0 ≤ j → j ≤ 100 → gPow (.int 10) (.int j) = some (.int (10 ^ j.toNat)) := fun j h1 h2 => gPow_int h1 (by
    have : Builtin.Int.intBits 10 = 4 := by decide
    rw [this]; omega)
  have fin : ∀ c : Int, Wr ((rfS (Pu (pLst (pCons (pCa gMax (pCons (pK (.int 0)) (pCons (pOp DL.gSub (pCa gAbs (pCons (pV 2) (pNil))) (pOp gPow (pK (.int 10)) (pK (.int 18)))) (pNil)))) (pCons (pOp DL.gAdd (pOp DL.gAdd (pOp DL.gMul (pOp gMod (pCa gAbs (pCons (pV 2) (pNil))) (pOp DL.gAdd (pOp gPow (pK (.int 10)) (pK (.int 36))) (pK (.int 67)))) (pK (.int 128))) (pV 1)) (pK (.int 5))) (pCons (pK (.int 0)) (pNil))))))) [.sh (.list (ns.map .int)), .sh (.int (k : Int)), .sh (.int c)]) fun fl => Wr (resPF fl) (Src 0) := fun c => by
    have hm : ∀ x : Int, gMod (.int x) (.int 1000000000000000000000000000000000067) = some (.int (x % 1000000000000000000000000000000000067)) := fun x => gMod_int (by decide)
    have bd : ∀ x : Int, 0 ≤ x % 1000000000000000000000000000000000067 ∧ x % 1000000000000000000000000000000000067 < 1000000000000000000000000000000000067 := fun x => ⟨Int.emod_nonneg x (by decide), Int.emod_lt_of_pos x (by decide)⟩
    have e200 : (2 : Nat) ^ 200 = 1606938044258990275541962092341162602522202993782792835301376 := by decide
    have hu : ∀ x : Int, gMul (.int (x % 1000000000000000000000000000000000067)) (.int 128) = some (.int (x % 1000000000000000000000000000000000067 * 128)) := fun x => gMul_int (by
      have h1 := bd x
      have h3 : (x % 1000000000000000000000000000000000067).natAbs.log2 < 200 := log2_lt (by
        rw [e200]; omega) (by decide)
      have h4 : (128 : Int).natAbs.log2 = 7 := by decide
      rw [h4]; omega)
    simp [hp, hm, hu]
    refine ⟨_, _, 0, rfl, ?_, by decide, by decide⟩
    have := bd (if c < 0 then -c else c)
    rw [e200]; omega
  simp [en0, F__law_source]
  obtain ⟨c, hc⟩ : ∃ c : Int, (if k < ns.length then opt (Option.map PyData.int ns[k]?) else Re.ok (PyData.int 0)) = .ok (.int c) := by
    by_cases h : k < ns.length
    · exact ⟨ns[k], by simp [h]⟩
    · exact ⟨0, by simp [h]⟩
  rw [hc]
  simp only [Re.bd_ok, goOn_nx, List.set_cons_succ, List.set_cons_zero]
  exact fin c
theorem pick_ok {B : Nat} {s : List D} (hs : Src B s) (hB : B ≤ 2 ^ 60) {n : Nat} (h0 : 0 < n) (hn : n < 2 ^ 64) : ∃ (r : Nat) (s' : List D), f__law_pick s [.int (n : Int)] = .ok (.int (r : Int), s') ∧ r < n ∧ Src (B + 1) s' := by
  obtain ⟨a, b, c, rfl, h1, h2, h3⟩ := hs
  have hn' : (0 : Int) < n := by omega
  have hd : ∀ x : Int, gDiv (.int x) (.int (n : Int)) = some (.int (x / n)) := fun x => gDiv_int hn' (by
    have : (n : Int).natAbs.log2 < 64 := log2_lt (by simpa using hn) (by decide)
    omega)
  have hm : ∀ x : Int, gMod (.int x) (.int (n : Int)) = some (.int (x % n)) := fun x => gMod_int hn'
  have bd : ∀ x : Int, ∃ r : Nat, x % n = (r : Int) ∧ r < n := fun x => ⟨(x % n).toNat, by
    have := Int.emod_nonneg x (b := n) (by omega)
    omega, by
    have := Int.emod_lt_of_pos x hn'
    have := Int.emod_nonneg x (b := n) (by omega)
    omega⟩
  suffices w : Wr (f__law_pick [.int a, .int b, .int c] [.int (n : Int)]) fun q => ∃ r : Nat, q.1 = .int (r : Int) ∧ r < n ∧ Src (B + 1) q.2 by
    obtain ⟨⟨d, s'⟩, e, r, rfl, hr, hS⟩ := w
    exact ⟨r, s', e, hr, hS⟩
  refine Wr_M rfl ?_
  by_cases hp : 0 < a
  · obtain ⟨r, e, hr⟩ := bd a
    simp [en1, F__law_pick, hp, hm, hd, ixN, e]
    exact ⟨r, rfl, hr, _, _, _, rfl, h1, h2, by omega⟩
  · have hp10 : ∀ j : Int, 0 ≤ j → j ≤ 100 → gPow (.int 10) (.int j) = some (.int (10 ^ j.toNat)) := fun j h1 h2 => gPow_int h1 (by
      have : Builtin.Int.intBits 10 = 4 := by decide
      rw [this]; omega)
    have e200 : (2 : Nat) ^ 200 = 1606938044258990275541962092341162602522202993782792835301376 := by decide
    have e210 : (2 : Nat) ^ 210 = 1606938044258990275541962092341162602522202993782792835301376 * 1024 := by decide
    have hmul : ∀ z : Int, z.natAbs < 2 ^ 30 → gMul (.int z) (.int (c + 1)) = some (.int (z * (c + 1))) := fun z hz => gMul_int (by
      have q1 : z.natAbs.log2 < 30 := log2_lt hz (by decide)
      have q2 : (c + 1).natAbs.log2 < 62 := log2_lt (by omega) (by decide)
      omega)
    have hpow : ∀ z : Int, z.natAbs < 2 ^ 210 → gPow (.int z) (.int 3) = some (.int (z ^ 3)) := fun z hz => gPow_int (by decide) (by
      have q : Builtin.Int.intBits z ≤ 210 := PySem.intBits_le_iff.mpr hz
      omega)
    have r1 := hpow (b + 49979687 * (c + 1)) (by rw [e210]; rw [e200] at h1; omega)
    have b2 : ∀ z : Int, 0 ≤ z % 100000000000000000000000000000000000133 ∧ z % 100000000000000000000000000000000000133 < 100000000000000000000000000000000000133 := fun x => ⟨Int.emod_nonneg x (by decide), Int.emod_lt_of_pos x (by decide)⟩
    have r2 := fun z : Int => hpow (z % 100000000000000000000000000000000000133 + 32452843 * (c + 1)) (by rw [e210]; have := b2 z; omega)
    have hd2 : ∀ z : Int, gDiv (.int z) (.int 131071) = some (.int (z / 131071)) := fun z => gDiv_int (by decide) (by decide)
    have m1 := hmul 49979687 (by decide)
    have m2 := hmul 32452843 (by decide)
    simp [en1, F__law_pick, hp, hm, hd, ixN, m1, m2, hp10, r1, r2, gMod_int, hd2]
    obtain ⟨r, e, hr⟩ := bd (((b + 49979687 * (c + 1)) ^ 3 % 100000000000000000000000000000000000133 + 32452843 * (c + 1)) ^ 3 % 10000000000000000000000000000000000043 / 131071)
    exact ⟨r, e, hr, _, _, _, rfl, h1, by omega, by omega⟩
theorem shuffled_ok {α : Type} {f : α → D} {B : Nat} {s : List D} (hs : Src B s) (l : List α) (hB : B + l.length ≤ 2 ^ 59) (hl : l.length ≤ 1000000) : ∃ (l' : List α) (s' : List D), f__law_shuffled s [.list (l.map f)] = .ok (.list (l'.map f), s') ∧ l'.Perm l ∧ Src (B + l.length) s' := by
  suffices w : Wr (f__law_shuffled s [.list (l.map f)]) fun q => ∃ l' : List α, q.1 = .list (l'.map f) ∧ l'.Perm l ∧ Src (B + l.length) q.2 by
    obtain ⟨⟨d, s'⟩, e, l', rfl, h⟩ := w
    exact ⟨l', s', e, h⟩
  refine Wr_M rfl ?_
  simp [en1, F__law_shuffled, gRg1_nat (show l.length < 2 ^ 62 by omega), hl]
  simp only [Wr_bd, Wr_nb]
  refine Wr_lcL (fun i out δ => ∃ s1 don rem, δ = [.ow s1, .sh (.list (l.map f)), .ow (rem.map f), .no] ∧ out = don.map f ∧ (don ++ rem).Perm l ∧ don.length = i ∧ Src (B + i) s1) ⟨s, [], l, rfl, rfl, List.Perm.refl _, rfl, hs⟩ ?_ ?_
  · rintro i k out δ hi ⟨s1, don, rem, rfl, rfl, hp, hd, hS⟩
    have hlen := hp.length_eq
    rw [List.length_append] at hlen
    have hil : i < l.length := by
      have := (List.getElem?_eq_some_iff.mp hi).1
      simpa using this
    obtain ⟨r, s2, e, hr, hS2⟩ := pick_ok hS (by omega) (n := rem.length) (by omega) (by omega)
    have hpop : mPopAt (rem.map f) [.int (r : Int)] = some ((rem.eraseIdx r).map f, f rem[r]) := by
      rw [mPopAt_nat (by simpa using hr) (by simp; omega)]
      rw [map_erase]; simp
    simp [noer2_ok e, hpop, nD]
    refine ⟨s2, don ++ [rem[r]], rem.eraseIdx r, ⟨⟨rfl, rfl⟩, by simp, ?_, by simp [hd], hS2⟩⟩
    refine List.Perm.trans ?_ hp
    rw [List.append_assoc]
    exact List.Perm.append_left _ (erase_perm hr)
  · rintro r δ ⟨s1, don, rem, rfl, rfl, hp, hd, hS⟩
    simp at hd
    have hrem : rem = [] := by
      have hlen := hp.length_eq
      rw [List.length_append] at hlen
      exact List.eq_nil_of_length_eq_zero (by omega)
    subst hrem
    rw [List.append_nil] at hp
    simp
    refine ⟨don, rfl, hp, by simpa using hS⟩
theorem Src.mono {B C : Nat} {s : List D} (h : Src B s) (l : B ≤ C) : Src C s := by
  obtain ⟨a, b, c, e, h1, h2, h3⟩ := h
  exact ⟨a, b, c, e, h1, h2, by omega⟩
theorem at4 {P : Nat → Prop} (a b c d r : Nat) (hr : r < 4) (ha : P a) (hb : P b) (hc : P c) (hd : P d) : ∃ z : Nat, P z ∧ ([PyData.int (a : Int), .int (b : Int), .int (c : Int), .int (d : Int)] : List D)[r]? = some (.int (z : Int)) := by
  match r, hr with
  | 0, _ => exact ⟨a, ha, rfl⟩
  | 1, _ => exact ⟨b, hb, rfl⟩
  | 2, _ => exact ⟨c, hc, rfl⟩
  | 3, _ => exact ⟨d, hd, rfl⟩
/-! words -/
def ABC : Str := "abcdefghijklmnopqrstuvwxyz"
def okW (w : Str) : Prop := 1 ≤ w.length ∧ w.length ≤ 8 ∧ ∀ k ∈ w.cps.toList, k ∈ ABC.cps.toList
instance (w : Str) : Decidable (okW w) := by unfold okW; exact inferInstance
def isW : D → Bool
  | .str w => decide (okW w)
  | _ => false
/-- texts of moderate length, of true signs -/
def shortD : D → Bool
  | .str w => decide (w.length ≤ 1000000) && (PyData.str w).canLay0
  | _ => true
theorem short_len {w : Str} (h : shortD (.str w) = true) : w.length ≤ 1000000 := of_decide_eq_true (Bool.and_eq_true_iff.mp h).1
theorem short_can {w : Str} (h : shortD (.str w) = true) : (PyData.str w).canLay0 = true := (Bool.and_eq_true_iff.mp h).2
theorem short_sign {w : Str} (h : shortD (.str w) = true) : ∀ k ∈ w.cps.toList, (PyData.str ⟨#[k]⟩).canLay0 = true := fun k hk => by
  have z : w.cps.all (· < 0x110000) = true := short_can h
  rw [Array.all_eq_true'] at z
  have := z k (Array.mem_toList_iff.mp hk)
  show (#[k] : Array Nat).all (· < 0x110000) = true
  simpa using this
theorem gEq_empty {xs : List D} (h1 : ∀ x ∈ xs, x.canLay0 = true) (h2 : ∀ x ∈ xs, x.depth ≤ 63) : gEq (.list xs) (.list []) = some (.bool xs.isEmpty) := by
  unfold gEq
  rw [eqD_list (shaped_list h1 h2) rfl]
  cases xs <;> rfl
theorem is_item_any (d : D) (h : shortD d = true) : f_is_item [d] = .ok (.bool (isW d)) := by
  refine runP rfl ?_
  cases d with
  | str w =>
    have hl : w.length ≤ 1000000 := short_len h
    have hs : w.cps.size ≤ 1000000 := hl
    by_cases c1 : 1 ≤ w.length
    · by_cases c2 : w.length ≤ 8
      · have l1 : (1 : Int) ≤ w.length := by omega
        have l2 : (w.length : Int) ≤ 8 := by omega
        simp [en0, F_is_item, gLen_str hl, l1, l2, hs]
        rw [lcP_map (f := fun k => PyData.str ⟨#[k]⟩) (fun k : Nat => PyData.bool (decide (k ∈ ABC.cps.toList))) w.cps.toList fun k hk => ⟨_, rfl, by
          simp [gIn_sign, ABC]⟩]
        simp [gAll_map, isW, okW, c1, c2]
        rw [Bool.eq_iff_iff, Array.all_eq_true', decide_eq_true_iff]
        exact ⟨fun z k hk => of_decide_eq_true (z k hk), fun z k hk => decide_eq_true (z k hk)⟩
      · have l1 : (1 : Int) ≤ w.length := by omega
        have l2 : ¬ (w.length : Int) ≤ 8 := by omega
        simp [en0, F_is_item, gLen_str hl, l1, l2, isW, okW, c2]
    · have l1 : ¬ (1 : Int) ≤ w.length := by omega
      simp [en0, F_is_item, gLen_str hl, l1, isW, okW, c1]
  | _ => rfl
theorem is_name_any (d : D) (h : shortD d = true) : f__law_is_name [d] = .ok (.bool (isW d)) := by
  refine runP rfl ?_
  cases d with
  | str w =>
    have hl : w.length ≤ 1000000 := short_len h
    have hs : w.cps.size ≤ 1000000 := hl
    by_cases c1 : 1 ≤ w.length
    · by_cases c2 : w.length ≤ 8
      · have l1 : (1 : Int) ≤ w.length := by omega
        have l2 : (w.length : Int) ≤ 8 := by omega
        have gn : ∀ k : Nat, gNotIn (.str ⟨#[k]⟩) (.str ABC) = some (.bool (!decide (k ∈ ABC.cps.toList))) := fun k => rfl
        simp only [ABC] at gn
        simp [en0, F__law_is_name, gLen_str hl, l1, l2, hs]
        rw [lcP_all (f := fun k => PyData.str ⟨#[k]⟩) (p := fun k : Nat => !decide (k ∈ ABC.cps.toList)) (h := fun k => PyData.str ⟨#[k]⟩) w.cps.toList fun k hk => ⟨_, rfl, by simp [gn, ABC], fun _ => by simp⟩]
        have ge := gEq_empty (xs := (w.cps.toList.filter fun k => !decide (k ∈ ABC.cps.toList)).map fun k => PyData.str ⟨#[k]⟩) (fun x hx => by
          obtain ⟨k, hk, rfl⟩ := List.mem_map.mp hx
          exact short_sign h k (List.mem_filter.mp hk).1) fun x hx => by
          obtain ⟨k, hk, rfl⟩ := List.mem_map.mp hx
          exact Nat.zero_le _
        simp only [Re.bd_ok, pOp1_ap, pFz_ap, pLst_ap, pNil_ap, pOp2_ap, List.length_nil, Nat.zero_le, if_true, ge, opt_some, resP_rt]
        congr 2
        rw [Bool.eq_iff_iff, List.isEmpty_iff, List.map_eq_nil_iff, List.filter_eq_nil_iff]
        simp only [isW, okW, c1, c2, true_and, decide_eq_true_eq, Bool.not_eq_true', decide_eq_false_iff_not, Decidable.not_not]
      · have l1 : (1 : Int) ≤ w.length := by omega
        have l2 : ¬ (w.length : Int) ≤ 8 := by omega
        simp [en0, F__law_is_name, gLen_str hl, l1, l2, isW, okW, c2]
    · have l1 : ¬ (1 : Int) ≤ w.length := by omega
      simp [en0, F__law_is_name, gLen_str hl, l1, isW, okW, c1]
  | _ => rfl
/-- a value that is handed in: what is in a list is short -/
def hand : D → Bool
  | .list xs => xs.all shortD && xs.all (fun x => x.canLay0) && xs.all (fun x => decide (x.depth ≤ 63)) && decide (xs.length ≤ 4000)
  | _ => true
theorem hand_list {xs : List D} (h : hand (.list xs) = true) : (∀ x ∈ xs, shortD x = true) ∧ (∀ x ∈ xs, x.canLay0 = true) ∧ (∀ x ∈ xs, x.depth ≤ 63) ∧ xs.length ≤ 4000 := by
  unfold hand at h
  simp only [Bool.and_eq_true, List.all_eq_true, decide_eq_true_eq] at h
  exact ⟨h.1.1.1, h.1.1.2, h.1.2, h.2⟩
def asW : D → Str
  | .str w => w
  | _ => Str.empty
theorem all_words {xs : List D} (h : ∀ x ∈ xs, isW x = true) : xs = (xs.map asW).map .str := by
  induction xs with
  | nil => rfl
  | cons x xs ih =>
    have hx := h x (List.mem_cons_self ..)
    rw [List.map_cons, List.map_cons, ← ih fun y hy => h y (List.mem_cons_of_mem _ hy)]
    cases x with
    | str w => rfl
    | _ => cases hx
def rowOk (n : Nat) : D → Bool
  | .list xs => decide (xs.length = n) && xs.all isW && decide ((xs.map asW).Nodup)
  | _ => false
theorem is_arrangement_any (n : Nat) (d : D) (h : hand d = true) : f_is_arrangement [.int (n : Int), d] = .ok (.bool (rowOk n d)) := by
  refine runP rfl ?_
  cases d with
  | list xs =>
    obtain ⟨s1, s2, s3, s4⟩ := hand_list h
    have hl : xs.length ≤ 1000000 := by omega
    by_cases c1 : xs.length = n
    · have e1 : (xs.length : Int) = n := by omega
      have lc : lcP (gNm 2) (fun _ => .ok true) (pCr (noer f_is_item) (pCons (pV 2) pNil)) xs [.sh (.int (n : Int)), .sh (.list xs), .no] = .ok (xs.map fun x => .bool (isW x)) := by
        have := lcP_map (f := fun x : D => x) (g := gNm 2) (e := pCr (noer f_is_item) (pCons (pV 2) pNil)) (δ := [.sh (.int (n : Int)), .sh (.list xs), .no]) (fun x => PyData.bool (isW x)) xs fun x hx => ⟨_, rfl, by simp [noer_ok (is_item_any x (s1 x hx))]⟩
        simpa using this
      simp [en0, F_is_arrangement, e1, hl, lc, gAll_map]
      by_cases c2 : ∃ x, x ∈ xs ∧ isW x = false
      · have ra : rowOk n (.list xs) = false := by
          obtain ⟨x, hx, z⟩ := c2
          have : xs.all isW = false := List.all_eq_false.mpr ⟨x, hx, by rw [z]; exact Bool.false_ne_true⟩
          show (decide (xs.length = n) && xs.all isW && _) = false
          rw [this]; simp
        simp [c2, ra]
      · have aw : ∀ x ∈ xs, isW x = true := fun x hx => by
          cases z : isW x with
          | true => rfl
          | false => exact absurd ⟨x, hx, z⟩ c2
        have ew := all_words aw
        have gl : gLenSet (.list xs) = some (.int (met (xs.map asW) xs.length)) := by
          have := gLenSet_strs (ys := xs.map asW) (by simp; omega)
          rw [← ew, List.length_map] at this; exact this
        have mf := met_full (xs.map asW) xs.length (by simp)
        rw [show (xs.map asW).take xs.length = xs.map asW by rw [List.take_of_length_le (by simp)]] at mf
        have ra : rowOk n (.list xs) = decide ((xs.map asW).Nodup) := by
          show (decide (xs.length = n) && xs.all isW && decide ((xs.map asW).Nodup)) = _
          rw [decide_eq_true c1, List.all_eq_true.mpr aw]; simp
        simp [c2, gl, ra]
        rw [← mf, c1]
        omega
    · have e1 : ¬ (xs.length : Int) = n := by omega
      simp [en0, F_is_arrangement, e1, rowOk, c1]
  | _ => rfl
theorem is_row_any (n : Nat) (hn : n ≤ 1000) (d : D) (h : hand d = true) : f__law_is_row [.int (n : Int), d] = .ok (.bool (rowOk n d)) := by
  cases d with
  | list xs =>
    obtain ⟨s1, s2, s3, s4⟩ := hand_list h
    by_cases c1 : xs.length = n
    · refine Wr.eq.mp (Wr_P rfl ?_)
      have e1 : (xs.length : Int) = n := by omega
      simp [en0, F__law_is_row, e1, gRg1_nat (show n < 2 ^ 62 by omega)]
      simp only [Wr_bd]
      -- the rows ahead are words, all different
      refine Wr_for0 (fun i δ => ∃ a, δ = [.sh (.int (n : Int)), .sh (.list xs), a] ∧ (∀ x ∈ xs.take i, isW x = true) ∧ ((xs.take i).map asW).Nodup) ⟨.no, rfl, by simp, by simp⟩ ?_ ?_
      · rintro i k δ hi ⟨a, rfl, aw, nd⟩
        obtain ⟨hi1, hi2⟩ := List.getElem?_eq_some_iff.mp hi
        simp at hi1 hi2
        subst hi2
        have lt : i < xs.length := by omega
        obtain ⟨x, hx⟩ : ∃ x, xs[i]? = some x := ⟨_, List.getElem?_eq_getElem lt⟩
        have xin := List.mem_of_getElem? hx
        have nx := is_name_any x (s1 x xin)
        have gi : gIn x (.list (xs.take i)) = some (.bool ((xs.take i).any fun z => PyData.eqv z x)) := by
          unfold gIn inD
          have q1 : SeqAt.shaped x = true := by
            unfold SeqAt.shaped
            rw [s2 x xin, Bool.true_and]
            exact decide_eq_true (Nat.le_trans (s3 x xin) (by decide))
          have q2 : SeqAt.shaped (.list (xs.take i)) = true := shaped_list (fun y hy => s2 y (List.mem_of_mem_take hy)) fun y hy => s3 y (List.mem_of_mem_take hy)
          simp only [q1, q2, Bool.and_self, if_true, Option.map_some]
        simp [nD, hx, nx, gi]
        have tk : xs.take (i + 1) = xs.take i ++ [x] := by rw [List.take_add_one, hx]; rfl
        cases wx : isW x with
        | false =>
          have ra : rowOk n (.list xs) = false := by
            have : xs.all isW = false := List.all_eq_false.mpr ⟨x, xin, by rw [wx]; exact Bool.false_ne_true⟩
            show (decide (xs.length = n) && xs.all isW && _) = false
            rw [this]; simp
          simp [ra]
        | true =>
          have ex : x = .str (asW x) := by cases x <;> first | rfl | cases wx
          have an : ((xs.take i).any fun z => PyData.eqv z x) = decide (asW x ∈ (xs.take i).map asW) := by
            rw [all_words aw, ex, any_eqv (f := PyData.str) (fun a b => by simp [PyData.eqv, Bool.beq_eq_decide_eq])]
            rw [← all_words aw]
            rfl
          rw [an]
          by_cases c : asW x ∈ (xs.take i).map asW
          · have ra : rowOk n (.list xs) = false := by
              have nn : ¬ (xs.map asW).Nodup := fun h => by
                have h2 : ((xs.take (i + 1)).map asW).Nodup := by
                  rw [List.map_take]; exact List.Sublist.nodup (List.take_sublist _ _) h
                rw [tk, List.map_append, List.nodup_append] at h2
                exact h2.2.2 _ c _ (List.mem_singleton_self _) rfl
              show (_ && decide ((xs.map asW).Nodup)) = false
              rw [decide_eq_false nn, Bool.and_false]
            rw [decide_eq_true c]
            simp [ra]
          · rw [decide_eq_false c]
            simp
            refine ⟨fun y hy => ?_, ?_⟩
            · rw [tk, List.mem_append, List.mem_singleton] at hy
              rcases hy with hy | hy
              · exact aw y hy
              · subst hy; exact wx
            · rw [← List.map_take, tk, List.map_append, List.nodup_append]
              refine ⟨nd, by simp, fun y hy z hz e => ?_⟩
              simp at hz
              subst hz e
              exact c hy
      · rintro δ ⟨a, rfl, aw, nd⟩
        have t : xs.take (List.range n).length = xs := by rw [List.length_range, ← c1, List.take_length]
        rw [t] at aw nd
        have ra : rowOk n (.list xs) = true := by
          show (decide (xs.length = n) && xs.all isW && decide ((xs.map asW).Nodup)) = true
          rw [decide_eq_true c1, List.all_eq_true.mpr aw, decide_eq_true nd]; rfl
        simp [ra]
    · refine runP rfl ?_
      have e1 : ¬ (xs.length : Int) = n := by omega
      simp [en0, F__law_is_row, e1, rowOk, c1]
  | _ => rfl
theorem hand_td {d : D} (h : Td 60 4000 d) : hand d = true := by
  cases d with
  | list xs =>
    obtain ⟨h1, h2⟩ := h.list
    unfold hand
    simp only [Bool.and_eq_true, List.all_eq_true, decide_eq_true_eq]
    refine ⟨⟨⟨fun x hx => ?_, fun x hx => (h1 x hx).can⟩, fun x hx => Nat.le_trans (h1 x hx).dep (by decide)⟩, h2⟩
    cases x with
    | str w =>
      obtain ⟨a, b⟩ := (h1 _ hx).str
      show (decide (w.length ≤ 1000000) && (PyData.str w).canLay0) = true
      rw [b, Bool.and_true]
      exact decide_eq_true (by omega)
    | _ => rfl
  | _ => rfl
theorem right_ok {n : Nat} (hn : n ≤ 1000) {d : D} (t : Td 60 4000 d) : f__law_right [.int (n : Int), d] = .ok (.bool true) := by
  have hd := hand_td t
  refine runP rfl ?_
  have t2 : ∀ b : Bool, gRepr [.list [.bool b, .bool b]] = some (.str (PyData.list [.bool b, .bool b]).shown) := fun b => (td_list (k := 0) (w := 0) (n := 2) (fun x hx => by
    simp at hx; subst hx; exact td_bool _ _ _) (by simp)).gRepr
  simp [en0, F__law_right, t.gRepr, is_row_any n hn d hd, is_arrangement_any n d hd, t2]
/-- a row without hidden words -/
structure Full (ws : List Str) : Prop where
  ne : ws ≠ []
  len : ws.length ≤ 40
  ok : ∀ w ∈ ws, okW w
  nd : ws.Nodup
/-! names -/
def lt (i : Nat) : Str := ⟨#[97 + i]⟩
def tail (k : Nat) : Str := lt (k / 26) ++ lt (k % 26)
def nm (style k : Nat) : Str := match style with
  | 0 => tail k
  | 1 => ("abcdef" : Str) ++ tail k
  | _ => Txt.mul (lt (k % 26)) (1 + (k / 26 : Nat))
theorem abc_at : ∀ i, i < 26 → ABC.cps.toList[i]? = some (97 + i) := by decide +kernel
theorem nm_ok : ∀ style, style < 3 → ∀ k, k < 40 → okW (nm style k) := by decide +kernel
theorem nm_nd : ∀ style, style < 3 → ((List.range 40).map (nm style)).Nodup := by decide +kernel
theorem nm_full (style n : Nat) (hs : style < 3) (h1 : 1 ≤ n) (h2 : n ≤ 40) : Full ((List.range n).map (nm style)) := ⟨by
    intro z
    have := congrArg List.length z
    simp at this
    omega, by simpa using h2, fun w hw => by
    obtain ⟨k, hk, rfl⟩ := List.mem_map.mp hw
    exact nm_ok style hs k (by have := List.mem_range.mp hk; omega), by
    have : ((List.range n).map (nm style)).Sublist ((List.range 40).map (nm style)) := (List.range_sublist.mpr h2).map _
    exact this.nodup (nm_nd style hs)⟩
theorem Full.perm {ws vs : List Str} (F : Full ws) (p : vs.Perm ws) : Full vs := ⟨fun e => F.ne (by subst e; exact List.Perm.eq_nil p.symm), by rw [p.length_eq]; exact F.len, fun w hw => F.ok w (p.mem_iff.mp hw), p.symm.nodup F.nd⟩
theorem names_ok {B : Nat} {s : List D} (hs : Src B s) (hB : B ≤ 2 ^ 57) (n : Nat) (h1 : 1 ≤ n) (h2 : n ≤ 40) : ∃ (ws : List Str) (s' : List D), f__law_names s [.int (n : Int)] = .ok (.list (ws.map .str), s') ∧ Full ws ∧ ws.length = n ∧ Src (B + 100) s' := by
  suffices w : Wr (f__law_names s [.int (n : Int)]) fun q => ∃ ws : List Str, q.1 = .list (ws.map .str) ∧ Full ws ∧ ws.length = n ∧ Src (B + 100) q.2 by
    obtain ⟨⟨d, s'⟩, e, ws, rfl, h⟩ := w
    exact ⟨ws, s', e, h⟩
  refine Wr_M rfl ?_
  have hp : (2 : Nat) ^ 57 = 144115188075855872 := by decide
  have hp' : (2 : Nat) ^ 59 = 576460752303423488 := by decide
  have hp2 : (2 : Nat) ^ 60 = 1152921504606846976 := by decide
  obtain ⟨st, s1, p1, q1, S1⟩ := pick_ok hs (by omega) (n := 3) (by omega) (by omega)
  simp at p1
  simp [en1, F__law_names, p1, gRg1_nat (show n < 2 ^ 62 by omega)]
  simp only [Wr_bd]
  refine Wr_for0 (fun k δ => ∃ a b, δ = [.ow s1, .sh (.int (n : Int)), .sh (.str ABC), .sh (.int (st : Int)), .ow (((List.range k).map (nm st)).map .str), a, b]) ⟨.no, .no, rfl⟩ ?_ ?_
  · rintro k i δ hk ⟨a, b, rfl⟩
    obtain ⟨hk1, hk2⟩ := List.getElem?_eq_some_iff.mp hk
    simp at hk1 hk2
    subst hk2
    have hl2 : k < 1000000 := by omega
    have labc : ABC.length ≤ 1000000 := by decide +kernel
    obtain ⟨x, hx⟩ : ∃ x, x = k / 26 := ⟨_, rfl⟩
    obtain ⟨y, hy⟩ : ∃ y, y = k % 26 := ⟨_, rfl⟩
    have d26 : gDiv (.int (k : Int)) (.int 26) = some (.int (x : Int)) := by rw [hx]; exact gDiv_int (by decide) (by decide)
    have m26 : gMod (.int (k : Int)) (.int 26) = some (.int (y : Int)) := by rw [hy]; exact gMod_int (by decide)
    have ix : ∀ i : Nat, i < 26 → gIx (.str ABC) (.int (i : Int)) = some (.str (lt i)) := fun i hi => by
      rw [gIx_str labc, DL.atI_k, abc_at i hi]; rfl
    have i1 := ix x (by omega)
    have i2 := ix y (by omega)
    have a1 : gAdd (.str (lt x)) (.str (lt y)) = some (.str (tail k)) := by rw [hx, hy]; exact gAdd_str (by show 1 + 1 ≤ 1000000; decide)
    have a2 : gAdd (.str (Str.ofString "abcdef")) (.str (tail k)) = some (.str (("abcdef" : Str) ++ tail k)) := gAdd_str (by show 6 + (1 + 1) ≤ 1000000; decide)
    have a3 : gMulA (.str (lt y)) (.int (1 + (x : Int))) = some (.str (Txt.mul (lt y) (1 + (x : Int)))) := if_pos ⟨by show 1 ≤ 1000; decide, by omega, by omega⟩
    have a4 : ([PyData.str (tail k), .str (("abcdef" : Str) ++ tail k), .str (Txt.mul (lt y) (1 + (x : Int)))] : List D)[st]? = some (.str (nm st k)) := by
      rw [hx, hy]
      match st, q1 with
      | 0, _ => rfl
      | 1, _ => rfl
      | 2, _ => rfl
    have et : ((List.range (k + 1)).map (nm st)).map PyData.str = ((List.range k).map (nm st)).map PyData.str ++ [.str (nm st k)] := by rw [List.range_succ]; simp
    rw [et]
    simp only [ABC] at i1 i2
    simp [nD, d26, m26, i1, i2, a1, a2, a3, a4, hl2, ABC]
  · rintro δ ⟨a, b, rfl⟩
    simp only [List.length_range]
    have F := nm_full st n q1 h1 h2
    obtain ⟨vs, s2, e2, pv, S2⟩ := shuffled_ok (f := PyData.str) S1 ((List.range n).map (nm st)) (by simp; omega) (by simp; omega)
    simp only [List.map_map] at e2
    simp [e2]
    exact ⟨vs, rfl, F.perm pv, by simpa using pv.length_eq, S2.mono (by simp; omega)⟩
theorem td_word {w : Str} (h : okW w) : Td 0 8 (.str w) := td_str 0 h.2.1 fun k hk => by
  have : ∀ k ∈ ABC.cps.toList, k < 1114112 := by decide +kernel
  exact this k (h.2.2 k hk)
theorem td_up {w : Str} (h : okW w) : Td 0 8 (.str (Txt.upper w)) := by
  have asc : ∀ k ∈ ABC.cps.toList, k < 128 := by decide +kernel
  rw [PyProof.Rows.upper_ascii fun k hk => asc k (h.2.2 k hk)]
  refine td_str 0 ?_ fun k hk => ?_
  · show (w.cps.map PyProof.Rows.up1).size ≤ 8
    rw [Array.size_map]; exact h.2.1
  · rw [Array.toList_map] at hk
    obtain ⟨c, hc, rfl⟩ := List.mem_map.mp hk
    have := asc c (h.2.2 c hc)
    unfold PyProof.Rows.up1
    split <;> omega
theorem td_cut {w : Str} (h : okW w) (lo hi : Option Int) : Td 0 8 (.str (cutS w lo hi)) := by
  refine td_str 0 (Nat.le_trans (cutS_length w lo hi) h.2.1) fun k hk => ?_
  have asc : ∀ k ∈ ABC.cps.toList, k < 1114112 := by decide +kernel
  unfold cutS at hk
  exact asc k (h.2.2 k (List.mem_of_mem_drop (List.mem_of_mem_take hk)))
theorem changed_ok {B : Nat} {s : List D} (hs : Src B s) (hB : B ≤ 2 ^ 57) {R : List D} (hR : ∀ x ∈ R, ∃ w, x = .str w ∧ okW w) (l1 : 0 < R.length) (l2 : R.length ≤ 40) : ∃ (d : D) (s' : List D), f__law_changed s [.list R] = .ok (d, s') ∧ Td 60 4000 d ∧ Src (B + 100) s' := by
  suffices w : Wr (f__law_changed s [.list R]) fun q => Td 60 4000 q.1 ∧ Src (B + 100) q.2 by
    obtain ⟨⟨d, s'⟩, e, h⟩ := w
    exact ⟨d, s', e, h⟩
  refine Wr_M rfl ?_
  have hp : (2 : Nat) ^ 57 = 144115188075855872 := by decide
  have hp2 : (2 : Nat) ^ 60 = 1152921504606846976 := by decide
  obtain ⟨a, s1, p1, q1, S1⟩ := pick_ok hs (by omega) (n := R.length) (by omega) (by omega)
  obtain ⟨r2, s2, p2, q2, S2⟩ := pick_ok S1 (by omega) (n := 27) (by omega) (by omega)
  obtain ⟨x0, e0, w0, rfl, o0⟩ := any_at (r := 0) l1 hR
  obtain ⟨x1, e1, w1, rfl, o1⟩ := any_at (r := a) q1 hR
  have tR : ∀ x ∈ R, Td 0 90 x := fun x hx => by
    obtain ⟨w, rfl, o⟩ := hR x hx
    exact (td_word o).mono (Nat.le_refl _) (by decide)
  have g1 : gAdd (.str w1) (.str (Str.ofString "a")) = some (.str (w1 ++ Str.ofString "a")) := gAdd_str (by have := o1.2.1; show w1.length + 1 ≤ _; omega)
  have g2 : gSl (.str w1) none (some (-1)) = some (.str (cutS w1 none (some (-1)))) := if_pos (by have := o1.2.1; omega)
  have g3 : gUpper (.str w1) = some (.str (Txt.upper w1)) := gUpper_s (by have := o1.2.1; omega)
  have g4 : gMulA (.str (Str.ofString "a")) (.int 60) = some (.str (Txt.mul (Str.ofString "a") 60)) := by
    have : (Str.ofString "a").length ≤ 1000 := by decide +kernel
    simp [gMulA, this]
  have gn : gNeg (.int 1) = some (.int (-1)) := rfl
  have t1 : Td 0 90 (.str (w1 ++ Str.ofString "a")) := td_str 0 (by
    show (w1.cps ++ (Str.ofString "a").cps).size ≤ 90
    rw [Array.size_append]
    have : w1.cps.size ≤ 8 := o1.2.1
    have : (Str.ofString "a").cps.size = 1 := by decide +kernel
    omega) fun k hk => by
    have : k ∈ (w1.cps ++ (Str.ofString "a").cps).toList := hk
    rw [Array.toList_append, List.mem_append] at this
    have asc : ∀ k ∈ ABC.cps.toList, k < 1114112 := by decide +kernel
    have asc2 : ∀ k ∈ (Str.ofString "a").cps.toList, k < 1114112 := by decide +kernel
    rcases this with z | z
    · exact asc k (o1.2.2 k z)
    · exact asc2 k z
  simp [en1, F__law_changed, p1, e0, e1, g1, g2, g3, g4, gn]
  simp only [Wr_bd]
  refine Wr_add (P := Td 2 90) (by simp) (td0s (by decide +kernel)) ?_ ?_
  · simp only [List.forall_mem_cons]
    have m : ∀ {d : D}, Td 0 8 d → Td 2 90 d := fun h => h.mono (by decide) (by decide)
    refine ⟨td0 (by decide +kernel), td0 (by decide +kernel), td0 (by decide +kernel), m (td_word o0), t1.mono (by decide) (by decide), m (td_cut o1 _ _), m (td_up o1), td0 (by decide +kernel), td0 (by decide +kernel), td0 (by decide +kernel), fun x hx => nomatch hx⟩
  intro odd ol ho
  have ol : odd.length = 27 := ol
  simp at p2
  simp [p2]
  simp only [Wr_bd]
  refine Wr_ix' (P := Td 2 90) (by omega) ho fun one t2 => ?_
  have tR2 : ∀ x ∈ R, Td 2 90 x := fun x hx => (tR x hx).mono (by decide) (Nat.le_refl _)
  have hone : ∀ x ∈ [one], Td 2 90 x := fun x hx => by rw [List.mem_singleton] at hx; subst hx; exact t2
  have hsl : gSl (.list R) (some ((a : Int) + 1)) none = some (.list (R.drop (a + 1))) := by
    have := gSl_from R (a + 1)
    push_cast at this
    exact this
  have hs1 : gSl (.list R) none (some 1) = some (.list (R.take 1)) := gSl_to R 1
  obtain ⟨V1, v1, tv1, lv1⟩ := add_all (n := a) (m := 1) (A := R.take a) (B := [one]) (fun x hx => tR2 x (List.mem_of_mem_take hx)) hone (by rw [List.length_take]; omega) (Nat.le_refl _)
  obtain ⟨V2, v2, tv2, lv2⟩ := add_all (m := R.length - (a + 1)) (B := R.drop (a + 1)) tv1 (fun x hx => tR2 x (List.mem_of_mem_drop hx)) lv1 (by rw [List.length_drop]; omega)
  obtain ⟨V3, v3, tv3, lv3⟩ := add_all (m := R.length - a) (B := R.drop a) tv1 (fun x hx => tR2 x (List.mem_of_mem_drop hx)) lv1 (by rw [List.length_drop]; omega)
  obtain ⟨V4, v4, tv4, lv4⟩ := add_all (B := [one]) (m := 1) tR2 hone l2 (Nat.le_refl _)
  obtain ⟨V5, v5, tv5, lv5⟩ := add_all (n := a) (m := R.length - (a + 1)) (A := R.take a) (B := R.drop (a + 1)) (fun x hx => tR2 x (List.mem_of_mem_take hx)) (fun x hx => tR2 x (List.mem_of_mem_drop hx)) (by rw [List.length_take]; omega) (by rw [List.length_drop]; omega)
  obtain ⟨V6, v6, tv6, lv6⟩ := add_all (n := 40) (m := 1) (B := R.take 1) tR2 (fun x hx => tR2 x (List.mem_of_mem_take hx)) l2 (by rw [List.length_take]; omega)
  have rs : ∀ R : List D, (∀ x ∈ R, ∃ w, x = .str w ∧ okW w) → R = (R.map asW).map .str ∧ ∀ w ∈ R.map asW, okW w := fun R hR => by
    refine ⟨all_words fun x hx => ?_, fun w hw => ?_⟩
    · obtain ⟨w, rfl, o⟩ := hR x hx
      exact decide_eq_true o
    · obtain ⟨x, hx, rfl⟩ := List.mem_map.mp hw
      obtain ⟨w, rfl, o⟩ := hR x hx
      exact o
  obtain ⟨er, oks⟩ := rs R hR
  have asc : ∀ k ∈ ABC.cps.toList, k < 1114112 := by decide +kernel
  obtain ⟨gj, tj⟩ := join_td (a := Str.ofString " ") (m := 8) (n := 40) (by decide +kernel) (by decide +kernel) (R.map asW) (fun w hw => (oks w hw).2.1) (fun w hw k hk => asc k ((oks w hw).2.2 k hk)) (by rw [List.length_map]; exact l2) (by decide)
  rw [← er] at gj
  generalize Txt.join (Str.ofString " ") (R.map asW) = J at gj tj
  simp [hsl, hs1, v1, v2, v3, v4, v5, v6, gj, e0]
  simp only [Wr_bd]
  have P1 : ∀ {V : List D}, (∀ x ∈ V, Td 2 90 x) → V.length ≤ 41 → Td 60 4000 (.list V) := fun h l => (td_list h l).mono (by decide) (by decide)
  refine Wr_add (P := Td 60 4000) (by simp) ?_ ?_ ?_
  · simp only [List.forall_mem_cons]
    exact ⟨P1 tv2 (by omega), P1 tv3 (by omega), P1 tv4 (by omega), P1 tv5 (by omega), fun x hx => nomatch hx⟩
  · simp only [List.forall_mem_cons]
    have P2 : ∀ {d : D}, Td 0 8 d → Td 60 4000 d := fun h => h.mono (by decide) (by decide)
    refine ⟨P1 tv6 (by omega), (td_tuple tR2 l2).mono (by decide) (by decide), tj.mono (by decide) (by decide), P1 (fun x hx => tR2 x (List.mem_reverse.mp hx)) (by simp; omega), ?_, td_none _ _, td_bool _ _ _, (td_int 0 (by
      have : (10 : Nat) ^ 2 ≤ 10 ^ 60 := Nat.pow_le_pow_right (by decide) (by decide)
      have e : (10 : Nat) ^ 2 = 100 := by decide
      omega)).mono (by decide) (by decide), P2 (td_word o0), td0 (by decide +kernel), fun x hx => nomatch hx⟩
    exact (td_list (n := 1) (fun x hx => by
      rw [List.mem_singleton] at hx; subst hx; exact td_list tR2 l2) (by simp)).mono (by decide) (by decide)
  intro V vl hv
  have vl : V.length = 14 := vl
  obtain ⟨r3, s3, p3, q3, S3⟩ := pick_ok S2 (by omega) (n := 3) (by omega) (by omega)
  simp at p3
  by_cases c : 0 < r3
  · obtain ⟨r4, s4, p4, q4, S4⟩ := pick_ok S3 (by omega) (n := 6) (by omega) (by omega)
    simp at p4
    obtain ⟨z, hz, ez⟩ : ∃ z : Nat, z < 14 ∧ ([PyData.int 0, .int 0, .int 0, .int 1, .int 2, .int 3] : List D)[r4]? = some (.int (z : Int)) := by
      match r4, q4 with
      | 0, _ => exact ⟨0, by decide, rfl⟩
      | 1, _ => exact ⟨0, by decide, rfl⟩
      | 2, _ => exact ⟨0, by decide, rfl⟩
      | 3, _ => exact ⟨1, by decide, rfl⟩
      | 4, _ => exact ⟨2, by decide, rfl⟩
      | 5, _ => exact ⟨3, by decide, rfl⟩
    obtain ⟨x, ex, tx⟩ := any_at (r := z) (xs := V) (by omega) hv
    simp [p3, p4, c, ez, ex]
    exact ⟨tx, S4.mono (by omega)⟩
  · obtain ⟨r4, s4, p4, q4, S4⟩ := pick_ok S3 (by omega) (n := 14) (by omega) (by omega)
    simp at p4
    obtain ⟨x, ex, tx⟩ := any_at (r := r4) (xs := V) (by omega) hv
    simp [p3, p4, c, ex]
    exact ⟨tx, S4.mono (by omega)⟩
theorem law_true : LawTrue := fun ns hlen => by
  refine Wr.eq.mp (Wr_P rfl ?_)
  obtain ⟨m, hm, hm4⟩ : ∃ m : Nat, (if 1 < (if (ns.length : Int) < 4 then (ns.length : Int) else 4) then (if (ns.length : Int) < 4 then (ns.length : Int) else 4) else 1) = (m : Int) ∧ m ≤ 4 := by
    refine ⟨max 1 (min 4 ns.length), ?_, by omega⟩
    split <;> split <;> omega
  simp [en0, F_law, hm, gRg1_nat (show m < 2 ^ 62 by omega)]
  simp only [Wr_bd]
  refine Wr_for0 (fun i δ => ∃ a b c d e f g h, δ = [.sh (.list (ns.map .int)), a, b, c, d, e, f, g, h]) ⟨.no, .no, .no, .no, .no, .no, .no, .no, rfl⟩ ?_ ?_
  · rintro i k δ hi ⟨a, b, c, d, e, f, g, h, rfl⟩
    obtain ⟨hi1, hi2⟩ := List.getElem?_eq_some_iff.mp hi
    simp at hi1 hi2
    subst hi2
    obtain ⟨s0, e0, S0⟩ := source_ok ns i (by omega)
    have g4 : gRg1 [.int 4] = some ((List.range 4).map nD) := gRg1_nat (n := 4) (by decide)
    simp [nD, e0, g4]
    refine Wr_for0 (l := List.range 4) (fun j δ => ∃ t c d e f g h, δ = [.sh (.list (ns.map .int)), .sh (.int (i : Int)), .ow t, c, d, e, f, g, h] ∧ Src (10000 * j) t) ⟨s0, c, d, e, f, g, h, rfl, S0⟩ ?_ ?_
    · rintro j k δ hj ⟨t, c, d, e, f, g, h, rfl, St⟩
      obtain ⟨hj1, hj2⟩ := List.getElem?_eq_some_iff.mp hj
      simp at hj1 hj2
      subst hj2
      have hp : (2 : Nat) ^ 57 = 144115188075855872 := by decide
      have hp2 : (2 : Nat) ^ 60 = 1152921504606846976 := by decide
      obtain ⟨r1, t1, p1, q1, S1⟩ := pick_ok St (by omega) (n := 5) (by omega) (by omega)
      obtain ⟨r2, t2, p2, q2, S2⟩ := pick_ok S1 (by omega) (n := 40) (by omega) (by omega)
      obtain ⟨r3, t3, p3, q3, S3⟩ := pick_ok S2 (by omega) (n := 2) (by omega) (by omega)
      obtain ⟨z, ⟨z1, z2⟩, hz⟩ : ∃ z : Nat, (1 ≤ z ∧ z ≤ 40) ∧ ([PyData.int (1 + (r1 : Int)), .int (1 + (r2 : Int)), .int (26 + (r3 : Int)), .int 40] : List D)[j]? = some (.int (z : Int)) := by
        match j, hj1 with
        | 0, _ => exact ⟨1 + r1, by omega, by simp⟩
        | 1, _ => exact ⟨1 + r2, by omega, by simp⟩
        | 2, _ => exact ⟨26 + r3, by omega, by simp⟩
        | 3, _ => exact ⟨40, by decide, rfl⟩
      obtain ⟨ws, t4, e4, F, fl, S4⟩ := names_ok S3 (by omega) z z1 z2
      have hR : ∀ x ∈ ws.map PyData.str, ∃ w, x = .str w ∧ okW w := fun x hx => by
        obtain ⟨w, hw, rfl⟩ := List.mem_map.mp hx
        exact ⟨w, rfl, F.ok w hw⟩
      have tR : Td 60 4000 (.list (ws.map .str)) := (td_list (k := 0) (w := 8) (n := 40) (fun x hx => by
        obtain ⟨w, rfl, o⟩ := hR x hx
        exact td_word o) (by rw [List.length_map]; exact F.len)).mono (by decide) (by decide)
      have rok : rowOk z (.list (ws.map .str)) = true := by
        show (decide ((ws.map PyData.str).length = z) && (ws.map PyData.str).all isW && decide (((ws.map PyData.str).map asW).Nodup)) = true
        have e1 : (ws.map PyData.str).map asW = ws := by
          rw [List.map_map]
          show ws.map (fun w => asW (.str w)) = ws
          exact List.map_id' ws
        rw [e1, decide_eq_true F.nd, List.length_map, decide_eq_true fl, Bool.true_and, Bool.and_true, List.all_eq_true]
        intro x hx
        obtain ⟨w, rfl, o⟩ := hR x hx
        exact decide_eq_true o
      have ir := is_row_any z (by omega) (.list (ws.map .str)) (hand_td tR)
      rw [rok] at ir
      simp at p1 p2 p3
      have ls : 0 < (ws.map PyData.str).length ∧ (ws.map PyData.str).length ≤ 40 := by rw [List.length_map]; omega
      generalize ws.map PyData.str = R at e4 hR tR rok ir ls
      simp [nD, p1, p2, p3, hz, e4, ir, right_ok (show z ≤ 1000 by omega) tR]
      have e1 : (if 1 < (z : Int) - 1 then (z : Int) - 1 else 1) = ((max 1 (z - 1) : Nat) : Int) := by split <;> omega
      have e2 : (if (z : Int) + 1 < 40 then (z : Int) + 1 else 40) = ((min 40 (z + 1) : Nat) : Int) := by split <;> omega
      rw [e1, e2]
      simp only [Wr_bd]
      have g10 : gRg1 [.int 10] = some ((List.range 10).map nD) := gRg1_nat (n := 10) (by decide)
      refine Wr_for0 (l := [1, max 1 (z - 1), min 40 (z + 1), 40]) (f := nD) (fun q δ => ∃ f, δ = [.sh (.list (ns.map .int)), .sh (.int (i : Int)), .ow t4, .sh (.int (j : Int)), .sh (.int (z : Int)), .sh (.list R), f, g, h]) ⟨f, rfl⟩ ?_ ?_
      · rintro q k δ hq ⟨f, rfl⟩
        have hk : k ≤ 40 := by
          have := List.mem_of_getElem? hq
          simp at this
          omega
        simp [nD, right_ok (show k ≤ 1000 by omega) tR]
      · rintro δ ⟨f, rfl⟩
        simp [g10]
        refine Wr_for0 (l := List.range 10) (f := nD) (fun q δ => ∃ t g h, δ = [.sh (.list (ns.map .int)), .sh (.int (i : Int)), .ow t, .sh (.int (j : Int)), .sh (.int (z : Int)), .sh (.list R), f, g, h] ∧ Src (10000 * j + 1000 + 200 * q) t) ⟨t4, g, h, rfl, S4.mono (by omega)⟩ ?_ ?_
        · rintro q k δ hq ⟨t5, g, h, rfl, S5⟩
          obtain ⟨hq1, hq2⟩ := List.getElem?_eq_some_iff.mp hq
          simp at hq1
          obtain ⟨v, t6, e6, tv, S6⟩ := changed_ok S5 (by omega) hR ls.1 ls.2
          obtain ⟨r7, t7, p7, q7, S7⟩ := pick_ok S6 (by omega) (n := 40) (by omega) (by omega)
          simp at p7
          have rr := right_ok (n := 1 + r7) (show 1 + r7 ≤ 1000 by omega) tv
          push_cast at rr
          simp [nD, e6, p7, right_ok (show z ≤ 1000 by omega) tv, rr]
          exact S7.mono (by omega)
        · rintro δ ⟨t5, g, h, rfl, S5⟩
          simp
          exact S5.mono (by simp; omega)
    · rintro δ ⟨t, c, d, e, f, g, h, rfl, St⟩
      simp
  · rintro δ ⟨a, b, c, d, e, f, g, h, rfl⟩
    simp
end Law

open PySem PySem.W PyProof.Rows
set_option maxRecDepth 100000 in
set_option maxHeartbeats 0 in
theorem PySem.Challenge.cw_onceswapped_k07_arrangements_recognized_holds : PySem.Challenge.rw_onceswapped_k07_arrangements_recognized.Holds := by
  w_on; o_law; k_head; (case hw => w_witness2)
  k_fill
  refine Law.walk Law.law_true (l := PySem.Challenge.rw_onceswapped_k07_arrangements_recognized) rfl rfl (fun w h Y => PySem.W.kIn_of Y) ?F
  case F =>
    intro w mg fa h KX G hmg
    refine' Law.all_mk Law.law_true KX G hmg ?a1 ?l1 ?c1 ?k1 ?a2 ?l2 ?c2 ?k2 ?a3 ?l3 ?c3 ?k3 ?a4 ?l4 ?c4 ?k4 ?a5 ?l5 ?c5 ?k5 ?a6 ?l6 ?c6 ?k6 ?a7 ?l7 ?c7 ?k7 ?a8 ?l8 ?c8 ?k8 ?a9 ?l9 ?c9 ?k9 ?a10 ?l10 ?c10 ?k10 ?a11 ?l11 ?c11 ?k11 ?z_abs ?z_all ?z_isinstance ?z_len ?z_list ?z_max ?z_min ?z_range ?z_repr ?z_set ?z_str ?z_tuple ?y_LETTERS ?y_MOST_LETTERS
    (case a1 => k_is); (case l1 => k_is); (case c1 => k_is); (case k1 => k_is); (case a2 => k_is); (case l2 => k_is)
    (case c2 => k_is); (case k2 => k_is); (case a3 => k_is); (case l3 => k_is); (case c3 => k_is); (case k3 => k_is)
    (case a4 => k_is); (case l4 => k_is); (case c4 => k_is); (case k4 => k_is); (case a5 => k_is); (case l5 => k_is)
    (case c5 => k_is); (case k5 => k_is); (case a6 => k_is); (case l6 => k_is); (case c6 => k_is); (case k6 => k_is)
    (case a7 => k_is); (case l7 => k_is); (case c7 => k_is); (case k7 => k_is); (case a8 => k_is); (case l8 => k_is)
    (case c8 => k_is); (case k8 => k_is); (case a9 => k_is); (case l9 => k_is); (case c9 => k_is); (case k9 => k_is)
    (case a10 => k_is); (case l10 => k_is); (case c10 => k_is); (case k10 => k_is); (case a11 => k_is); (case l11 => k_is)
    (case c11 => k_is); (case k11 => k_is); (case z_abs => k_is); (case z_all => k_is); (case z_isinstance => k_is); (case z_len => k_is)
    (case z_list => k_is); (case z_max => k_is); (case z_min => k_is); (case z_range => k_is); (case z_repr => k_is); (case z_set => k_is)
    (case z_str => k_is); (case z_tuple => k_is); (case y_LETTERS => k_is); (case y_MOST_LETTERS => k_is)
#print axioms PySem.Challenge.cw_onceswapped_k07_arrangements_recognized_holds

