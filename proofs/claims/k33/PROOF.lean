import PyProof.Rows.All
import Wide.All
import OpenK.AllK
import Wide.FinOn
import HandS.ForDict
import HandS.ForMost
import HandS.ForExc
import HandS.Deep
import HandS.TupAny
import HandS.TupLe
import HandS.Wide
import HandS.WideBits
import HandS.IsInst
import HandS.Steps
import HandS.Conv
import HandS.EndBits
import KE.SortData
import HandS.Style
import HandS.DictComp
import HandS.RaiseMore
import HandS.SetFor
import HandS.TupLen
import KE.DataMinMax
import HandS.Zip
import HandS.TryOnly
import HandS.ExcOwn
import HandS.ExcIs
import HandS.Strs
import PySem.Challenge.RW_onceswapped_k33_order_fits_any_object
set_option Elab.async false
set_option linter.all false
set_option maxRecDepth 100000
set_option maxHeartbeats 4000000
set_option autoImplicit false
/-! DL0: the data layer: what a frame's names hold as data (stable, owned), what is kept -/
namespace DL
open PySem L2

abbrev D := PyData
/-- an exception: its class's name, the field it bears -/
structure Er where
  cls : Str
  pay : Option (Str × D)
inductive Re (α : Type) where
  | bad | er (e : Er) | ok (a : α)
/-- what a name holds: nothing known; stable data; an owned list of stable items; an owned list of owned lists; an owned dict -/
inductive Sl where
  | no | sh (d : D) | ow (ds : List D) | ow2 (dss : List (List D)) | dk (kvs : List (Key × D)) | dt (kts : List (List Key × D))
abbrev En := List Sl

theorem same_rd {H H' : Hp} {a : Addr} {u : HO} (e : Same H H') (h : Rd H a u) : Rd H' a u := by
  rcases h with h | ⟨o, h⟩
  · exact .inl (e a _ h)
  · exact .inr ⟨o, e a _ h⟩
theorem same_l {K : PySem.W.Frag} {H H' : Hp} {a : Addr} {xs : List V} (e : Same H H') (h : SqL K H a xs) : SqL K H' a xs := by
  rcases h with h | h
  · exact .inl (same_rd e h)
  · exact .inr h
theorem same_t {K : PySem.W.Frag} {H H' : Hp} {a : Addr} {xs : List V} (e : Same H H') (h : SqT K H a xs) : SqT K H' a xs := by
  rcases h with h | h
  · exact .inl (same_rd e h)
  · exact .inr h
def keyD : Key → D
  | .inl i => .int i
  | .inr x => .str x
/-- what a dict of keys and data stands for -/
def dicD (ns : List Key) (ds : List D) : D := .dict ((ns.zip ds).map fun p => (keyD p.1, p.2))
def dkD (kvs : List (Key × D)) : D := .dict (kvs.map fun p => (keyD p.1, p.2))
theorem dkD_dic (kvs : List (Key × D)) : dkD kvs = dicD (kvs.map (·.1)) (kvs.map (·.2)) := by
  unfold dkD dicD
  rw [List.zip_map', List.map_map]; rfl
mutual
/-- a value stands for data: the lists are tracked by themselves -/
inductive Rp (K : PySem.W.Frag) (H : Hp) : V → PyData → Prop
  | non : Rp K H .non .none
  | bl (b : Bool) : Rp K H (.bl b) (.bool b)
  | int (i : Int) : Rp K H (.int i) (.int i)
  | str (x : Str) : Rp K H (.str x) (.str x)
  | lst {a : Addr} {xs : List V} {ds : List PyData} : SqL K H a xs → RpAll K H xs ds → Rp K H (.ref a) (.list ds)
  | tup {a : Addr} {xs : List V} {ds : List PyData} : SqT K H a xs → RpAll K H xs ds → Rp K H (.ref a) (.tuple ds)
  | dic {a : Addr} {ns : List Key} {xs : List V} {ds : List PyData} : Rd H a (.dK (ns.zip xs)) → ns.length = xs.length → RpAll K H xs ds → Rp K H (.ref a) (dicD ns ds)
inductive RpAll (K : PySem.W.Frag) (H : Hp) : List V → List PyData → Prop
  | nil : RpAll K H [] []
  | cons {v : V} {vs : List V} {d : PyData} {ds : List PyData} : Rp K H v d → RpAll K H vs ds → RpAll K H (v :: vs) (d :: ds)
end
mutual
theorem Rp.dp {K : PySem.W.Frag} {H : Hp} : ∀ {d : D} {v : V}, Rp K H v d → d.hasDict = false → Dp K H v d
  | _, _, .non, _ => .non
  | _, _, .bl b, _ => .bl b
  | _, _, .int i, _ => .int i
  | _, _, .str x, _ => .str x
  | _, _, .lst h1 h2, h => .lst h1 (RpAll.dpa h2 (by simpa only [PyData.hasDict] using h))
  | _, _, .tup h1 h2, h => .tup h1 (RpAll.dpa h2 (by simpa only [PyData.hasDict] using h))
  | _, _, .dic _ _ _, h => by simp only [dicD, PyData.hasDict] at h; cases h
theorem RpAll.dpa {K : PySem.W.Frag} {H : Hp} : ∀ {ds : List D} {vs : List V}, RpAll K H vs ds → PyData.hasDictAll ds = false → DpAll K H vs ds
  | _, _, .nil, _ => .nil
  | _, _, .cons h1 h2, h => by
    simp only [PyData.hasDictAll, Bool.or_eq_false_iff] at h
    exact .cons (h1.dp h.1) (RpAll.dpa h2 h.2)
end
mutual
theorem dp_mono {K : PySem.W.Frag} {H H' : Hp} (e : Same H H') : ∀ {d : D} {v : V}, Rp K H v d → Rp K H' v d
  | _, _, .non => .non
  | _, _, .bl b => .bl b
  | _, _, .int i => .int i
  | _, _, .str x => .str x
  | _, _, .lst h1 h2 => .lst (same_l e h1) (dpa_mono e h2)
  | _, _, .tup h1 h2 => .tup (same_t e h1) (dpa_mono e h2)
  | _, _, .dic h1 h2 h3 => .dic (same_rd e h1) h2 (dpa_mono e h3)
theorem dpa_mono {K : PySem.W.Frag} {H H' : Hp} (e : Same H H') : ∀ {ds : List D} {vs : List V}, RpAll K H vs ds → RpAll K H' vs ds
  | _, _, .nil => .nil
  | _, _, .cons h1 h2 => .cons (dp_mono e h1) (dpa_mono e h2)
end
theorem dpa_len {K : PySem.W.Frag} {H : Hp} : ∀ {ds : List D} {vs : List V}, RpAll K H vs ds → vs.length = ds.length
  | _, _, .nil => rfl
  | _, _, .cons _ h2 => congrArg (· + 1) (dpa_len h2)
theorem dpa_get {K : PySem.W.Frag} {H : Hp} : ∀ {ds : List D} {vs : List V} {i : Nat} {d : D}, RpAll K H vs ds → ds[i]? = some d → ∃ v, vs[i]? = some v ∧ Rp K H v d
  | _, _, 0, _, .cons h1 _, e => by
    simp at e; subst e; exact ⟨_, rfl, h1⟩
  | _, _, i + 1, d, .cons _ h2, e => by
    obtain ⟨v, q1, q2⟩ := dpa_get (i := i) (d := d) h2 (by simpa using e)
    exact ⟨v, by simpa using q1, q2⟩
  | _, _, _, _, .nil, e => by simp at e
theorem dpa_get' {K : PySem.W.Frag} {H : Hp} : ∀ {ds : List D} {vs : List V} {i : Nat} {v : V}, RpAll K H vs ds → vs[i]? = some v → ∃ d, ds[i]? = some d ∧ Rp K H v d
  | _, _, 0, _, .cons h1 _, e => by
    simp at e; subst e; exact ⟨_, rfl, h1⟩
  | _, _, i + 1, d, .cons _ h2, e => by
    obtain ⟨v, q1, q2⟩ := dpa_get' (i := i) (v := d) h2 (by simpa using e)
    exact ⟨v, by simpa using q1, q2⟩
  | _, _, _, _, .nil, e => by simp at e
theorem dpa_append {K : PySem.W.Frag} {H : Hp} : ∀ {ds es : List D} {vs ws : List V}, RpAll K H vs ds → RpAll K H ws es → RpAll K H (vs ++ ws) (ds ++ es)
  | _, _, _, _, .nil, h => h
  | _, _, _, _, .cons h1 h2, h => .cons h1 (dpa_append h2 h)
theorem dpa_set {K : PySem.W.Frag} {H : Hp} : ∀ {ds : List D} {vs : List V} {i : Nat} {v : V} {d : D}, RpAll K H vs ds → Rp K H v d → RpAll K H (vs.set i v) (ds.set i d)
  | _, _, _, _, _, .nil, _ => .nil
  | _, _, 0, _, _, .cons _ h2, h => .cons h h2
  | _, _, _ + 1, _, _, .cons h1 h2, h => .cons h1 (dpa_set h2 h)
theorem dpa_erase {K : PySem.W.Frag} {H : Hp} : ∀ {ds : List D} {vs : List V} {i : Nat}, RpAll K H vs ds → RpAll K H (vs.eraseIdx i) (ds.eraseIdx i)
  | _, _, _, .nil => .nil
  | _, _, 0, .cons _ h2 => h2
  | _, _, _ + 1, .cons h1 h2 => .cons h1 (dpa_erase h2)
theorem dpa_take {K : PySem.W.Frag} {H : Hp} : ∀ {ds : List D} {vs : List V} {i : Nat}, RpAll K H vs ds → RpAll K H (vs.take i) (ds.take i)
  | _, _, _, .nil => by simp; exact .nil
  | _, _, 0, _ => .nil
  | _, _, _ + 1, .cons h1 h2 => .cons h1 (dpa_take h2)
theorem dpa_drop {K : PySem.W.Frag} {H : Hp} : ∀ {ds : List D} {vs : List V} {i : Nat}, RpAll K H vs ds → RpAll K H (vs.drop i) (ds.drop i)
  | _, _, _, .nil => by simp; exact .nil
  | _, _, 0, h => h
  | _, _, i + 1, .cons _ h2 => dpa_drop (i := i) h2
theorem dpa_reverse {K : PySem.W.Frag} {H : Hp} : ∀ {ds : List D} {vs : List V}, RpAll K H vs ds → RpAll K H vs.reverse ds.reverse
  | _, _, .nil => .nil
  | _, _, .cons h1 h2 => by
    rw [List.reverse_cons, List.reverse_cons]
    exact dpa_append (dpa_reverse h2) (.cons h1 .nil)
theorem dpa_last {K : PySem.W.Frag} {H : Hp} {ds : List D} {vs : List V} (h : RpAll K H vs ds) : RpAll K H vs.dropLast ds.dropLast := by
  rw [List.dropLast_eq_take, List.dropLast_eq_take, dpa_len h]
  exact dpa_take h
theorem dpa_ints {K : PySem.W.Frag} {H : Hp} : ∀ (ns : List Int), RpAll K H (ns.map V.int) (ns.map PyData.int)
  | [] => .nil
  | n :: ns => .cons (.int n) (dpa_ints ns)

/-- what holds for a whole run of a def: the written part, the top's names, the heap at the entry, the stable part of it, which parameters may be changed and where they lie -/
structure DC where
  K : PySem.W.Frag
  mg : Str → Option Value
  Hin : Hp
  Hb : Hp
  mi : List Nat
  ma : Nat → Addr

def Ow3 (c : DC) (Hs G : Hp) (a : Addr) : Prop := Hs a = none ∧ G a = none ∧ c.Hin a = none
def Own (c : DC) (Hs G : Hp) (i : Nat) (a : Addr) : Prop := Hs a = none ∧ G a = none ∧ c.Hin a = none ∧ (i ∈ c.mi → a = c.ma i)
theorem Own.o3 {c : DC} {Hs G : Hp} {i : Nat} {a : Addr} (h : Own c Hs G i a) : Ow3 c Hs G a := ⟨h.1, h.2.1, h.2.2.1⟩
/-- one row of an owned list of lists -/
def Row (c : DC) (Hs G H : Hp) (a : Addr) (ds : List D) : Prop := ∃ xs, H a = some (.lst xs) ∧ RpAll c.K Hs xs ds ∧ Ow3 c Hs G a
def KVd (K : PySem.W.Frag) (H : Hp) : List (Key × V) → List (Key × D) → Prop := Paired fun (p : Key × V) (q : Key × D) => p.1 = q.1 ∧ Rp K H p.2 q.2
def KVt (K : PySem.W.Frag) (H : Hp) : List (List Key × V) → List (List Key × D) → Prop := Paired fun (p : List Key × V) (q : List Key × D) => p.1 = q.1 ∧ Rp K H p.2 q.2
def SlOk (c : DC) (Hs G H : Hp) (i : Nat) (v : Option (Option V)) : Sl → Prop
  | .no => True
  | .sh d => ∃ x, v = some (some x) ∧ Rp c.K Hs x d
  | .ow ds => ∃ r xs, v = some (some (.ref r)) ∧ H r = some (.lst xs) ∧ RpAll c.K Hs xs ds ∧ Own c Hs G i r
  | .ow2 dss => ∃ r rs, v = some (some (.ref r)) ∧ H r = some (.lst (rs.map V.ref)) ∧ Own c Hs G i r ∧ (r :: rs).Nodup ∧ Paired (Row c Hs G H) rs dss
  | .dk kvs => ∃ r ks, v = some (some (.ref r)) ∧ H r = some (.dK ks) ∧ KVd c.K Hs ks kvs ∧ Own c Hs G i r
  | .dt kvs => ∃ r ks, v = some (some (.ref r)) ∧ H r = some (.dT ks) ∧ KVt c.K Hs ks kvs ∧ Own c Hs G i r
/-- what a name owns -/
def Foot (H : Hp) : Option (Option V) → Sl → Addr → Prop
  | some (some (.ref r)), .ow _, a => a = r
  | some (some (.ref r)), .ow2 _, a => a = r ∨ ∃ xs, H r = some (.lst xs) ∧ V.ref a ∈ xs
  | some (some (.ref r)), .dk _, a => a = r
  | some (some (.ref r)), .dt _, a => a = r
  | _, _, _ => False
/-- what is kept, the state of a frame apart -/
structure Frm (c : DC) (Hs G H : Hp) : Prop where
  bs : Same c.Hb Hs
  sh : Same Hs H
  gm : Same G H
  nw : ∀ a o, Hs a = some o → c.Hb a = some o ∨ c.Hin a = none
  hin : ∀ a o, c.Hin a = some o → ∃ o', H a = some o'
  gs : ∀ a o o', G a = some o → Hs a = some o' → ∃ u, c.Hin a = some u
structure Sat (c : DC) (Hs G H : Hp) (σ : St) (δ : En) : Prop extends Frm c Hs G H where
  ln : δ.length = σ.length
  sl : ∀ (i : Nat) (s : Sl), δ[i]? = some s → SlOk c Hs G H i σ[i]? s
  sp : ∀ (i j : Nat) (s t : Sl) (a : Addr), i ≠ j → δ[i]? = some s → δ[j]? = some t → Foot H σ[i]? s a → Foot H σ[j]? t a → False

section
variable {c : DC} {Hs Hs' G H H' : Hp} {σ : St} {δ : En} {i : Nat} {a p : Addr} {o : HO} {v : V} {d : D} {ds : List D}

theorem paired_mono {α β : Type} {F F' : α → β → Prop} (h : ∀ a b, F a b → F' a b) : ∀ {xs : List α} {ys : List β}, Paired F xs ys → Paired F' xs ys
  | _, _, .nil => .nil
  | _, _, .cons h1 h2 => .cons (h _ _ h1) (paired_mono h h2)
theorem paired_mem {α β : Type} {F : α → β → Prop} : ∀ {xs : List α} {ys : List β} {a : α}, Paired F xs ys → a ∈ xs → ∃ b, F a b
  | _, _, _, .cons h1 h2, m => by
    rcases List.mem_cons.mp m with e | m
    · subst e; exact ⟨_, h1⟩
    · exact paired_mem h2 m

/-- what a name owns is tracked and is its own -/
theorem foot_own {s : Sl} {v : Option (Option V)} (h : SlOk c Hs G H i v s) (f : Foot H v s a) : Ow3 c Hs G a ∧ ∃ o, H a = some o := by
  cases s with
  | no => cases v with
    | none => exact f.elim
    | some v => cases v with
      | none => exact f.elim
      | some v => cases v <;> exact f.elim
  | sh d => cases v with
    | none => exact f.elim
    | some v => cases v with
      | none => exact f.elim
      | some v => cases v <;> exact f.elim
  | ow ds =>
    obtain ⟨r, xs, rfl, h1, h2, h3⟩ := h
    have e : a = r := f
    subst e
    exact ⟨h3.o3, _, h1⟩
  | ow2 dss =>
    obtain ⟨r, rs, rfl, h1, h2, h3, h4⟩ := h
    rcases (show a = r ∨ ∃ xs, H r = some (.lst xs) ∧ V.ref a ∈ xs from f) with e | ⟨xs, e1, e2⟩
    · subst e; exact ⟨h2.o3, _, h1⟩
    · rw [h1] at e1
      injection e1 with e1
      injection e1 with e1
      subst e1
      obtain ⟨b, hb, e3⟩ := List.mem_map.mp e2
      injection e3 with e3
      subst e3
      obtain ⟨es, xs, q1, q2, q3⟩ := paired_mem h4 hb
      exact ⟨q3, _, q1⟩
  | dk kvs =>
    obtain ⟨r, xs, rfl, h1, h2, h3⟩ := h
    have e : a = r := f
    subst e
    exact ⟨h3.o3, _, h1⟩
  | dt kvs =>
    obtain ⟨r, xs, rfl, h1, h2, h3⟩ := h
    have e : a = r := f
    subst e
    exact ⟨h3.o3, _, h1⟩

/-- the heap changes where the name owns nothing, the stable part grows -/
theorem slok_keep {G' : Hp} {s : Sl} {v : Option (Option V)} (h : SlOk c Hs G H i v s) (e : Same Hs Hs') (k : ∀ b o, Foot H v s b → H b = some o → H' b = some o) (n : ∀ b, Foot H v s b → Hs' b = none) (g : ∀ b, Foot H v s b → G' b = none) : SlOk c Hs' G' H' i v s := by
  have ow : ∀ b, Foot H v s b → Own c Hs G i b → Own c Hs' G' i b := fun b f w => ⟨n b f, g b f, w.2.2⟩
  have ow3 : ∀ b, Foot H v s b → Ow3 c Hs G b → Ow3 c Hs' G' b := fun b f w => ⟨n b f, g b f, w.2.2⟩
  cases s with
  | no => trivial
  | sh d => obtain ⟨x, e1, h1⟩ := h; exact ⟨x, e1, dp_mono e h1⟩
  | ow ds =>
    obtain ⟨r, xs, rfl, h1, h2, h3⟩ := h
    exact ⟨r, xs, rfl, k r _ rfl h1, dpa_mono e h2, ow r rfl h3⟩
  | ow2 dss =>
    obtain ⟨r, rs, rfl, h1, h2, h3, h4⟩ := h
    refine ⟨r, rs, rfl, k r _ (.inl rfl) h1, ow r (.inl rfl) h2, h3, ?_⟩
    have fm : ∀ b ∈ rs, Foot H (some (some (.ref r))) (.ow2 dss) b := fun b hb => .inr ⟨_, h1, List.mem_map.mpr ⟨b, hb, rfl⟩⟩
    clear h1 h3
    generalize Foot H (some (some (.ref r))) (.ow2 dss) = F at *
    induction h4 with
    | nil => exact .nil
    | @cons a ds rs' dss' h5 h6 ih =>
      obtain ⟨xs, q1, q2, q3⟩ := h5
      have fa := fm _ (List.mem_cons_self)
      exact .cons ⟨xs, k _ _ fa q1, dpa_mono e q2, ow3 _ fa q3⟩ (ih fun b hb => fm b (List.mem_cons_of_mem _ hb))
  | dk kvs =>
    obtain ⟨r, xs, rfl, h1, h2, h3⟩ := h
    exact ⟨r, xs, rfl, k r _ rfl h1, paired_mono (fun p q z => ⟨z.1, dp_mono e z.2⟩) h2, ow r rfl h3⟩
  | dt kvs =>
    obtain ⟨r, xs, rfl, h1, h2, h3⟩ := h
    exact ⟨r, xs, rfl, k r _ rfl h1, paired_mono (fun p q z => ⟨z.1, dp_mono e z.2⟩) h2, ow r rfl h3⟩
theorem foot_keep {s : Sl} {v : Option (Option V)} (hs : SlOk c Hs G H i v s) (k : ∀ b o, Foot H v s b → H b = some o → H' b = some o) (f : Foot H' v s a) : Foot H v s a := by
  cases s with
  | ow2 dss =>
    obtain ⟨r, rs, rfl, h1, h2, h3, h4⟩ := hs
    rcases (show a = r ∨ ∃ xs, H' r = some (.lst xs) ∧ V.ref a ∈ xs from f) with e | ⟨xs, e1, e2⟩
    · exact .inl e
    · rw [k r _ (.inl rfl) h1] at e1
      injection e1 with e1
      injection e1 with e1
      subst e1
      exact .inr ⟨_, h1, e2⟩
  | no => cases v with
    | none => exact f.elim
    | some v => cases v with
      | none => exact f.elim
      | some v => cases v <;> exact f.elim
  | sh d => cases v with
    | none => exact f.elim
    | some v => cases v with
      | none => exact f.elim
      | some v => cases v <;> exact f.elim
  | ow ds =>
    obtain ⟨r, xs, rfl, h1, h2, h3⟩ := hs
    exact f
  | dk ds =>
    obtain ⟨r, xs, rfl, h1, h2, h3⟩ := hs
    exact f
  | dt ds =>
    obtain ⟨r, xs, rfl, h1, h2, h3⟩ := hs
    exact f

/-- the general step of the heap: the owned are kept -/
theorem Sat.keep {G' : Hp} (S : Sat c Hs G H σ δ) (f : Frm c Hs' G' H') (e : Same Hs Hs') (k : ∀ (j : Nat) (s : Sl) (b : Addr) (o : HO), δ[j]? = some s → Foot H σ[j]? s b → H b = some o → H' b = some o)
    (n : ∀ (j : Nat) (s : Sl) (b : Addr), δ[j]? = some s → Foot H σ[j]? s b → Hs' b = none) (g : ∀ (j : Nat) (s : Sl) (b : Addr), δ[j]? = some s → Foot H σ[j]? s b → G' b = none) : Sat c Hs' G' H' σ δ where
  toFrm := f
  ln := S.ln
  sl := fun j s hj => slok_keep (S.sl j s hj) e (fun b o => k j s b o hj) (fun b => n j s b hj) (fun b => g j s b hj)
  sp := fun j l s t b ne hj hl f1 f2 => S.sp j l s t b ne hj hl (foot_keep (S.sl j s hj) (fun b o => k j s b o hj) f1) (foot_keep (S.sl l t hl) (fun b o => k l t b o hl) f2)
theorem Sat.fresh_G (S : Frm c Hs G H) (h : H p = none) : G p = none := by
  cases q : G p with
  | none => rfl
  | some o => rw [S.gm p o q] at h; cases h
theorem Sat.fresh_s (S : Frm c Hs G H) (h : H p = none) : Hs p = none := by
  cases q : Hs p with
  | none => rfl
  | some o => rw [S.sh p o q] at h; cases h
theorem Sat.fresh_in (S : Frm c Hs G H) (h : H p = none) : c.Hin p = none := by
  cases q : c.Hin p with
  | none => rfl
  | some o =>
    obtain ⟨o', e⟩ := S.hin p o q
    rw [e] at h; cases h
theorem same_new {H : Hp} {p : Addr} {o : HO} (h : H p = none) : Same H (upd H p o) := fun b u e => by rw [upd_ne (ne_of_none e h)]; exact e
/-- a new stable object -/
theorem Frm.new (S : Frm c Hs G H) (h : H p = none) : Frm c (upd Hs p o) G (upd H p o) where
  bs := S.bs.trans (same_new (Sat.fresh_s S h))
  sh := fun b u e => by
    by_cases hb : b = p
    · subst hb; rw [upd_same] at e ⊢; exact e
    · rw [upd_ne hb] at e ⊢; exact S.sh b u e
  gm := S.gm.trans (same_new h)
  nw := fun b u e => by
    by_cases hb : b = p
    · subst hb; exact .inr (Sat.fresh_in S h)
    · rw [upd_ne hb] at e; exact S.nw b u e
  hin := fun b u e => by
    obtain ⟨u', e'⟩ := S.hin b u e
    by_cases hb : b = p
    · subst hb; exact ⟨o, upd_same⟩
    · exact ⟨u', by rw [upd_ne hb]; exact e'⟩
  gs := fun b u u' e e' => by
    by_cases hb : b = p
    · subst hb; rw [Sat.fresh_G S h] at e; cases e
    · rw [upd_ne hb] at e'; exact S.gs b u u' e e'
theorem Sat.new (S : Sat c Hs G H σ δ) (h : H p = none) : Sat c (upd Hs p o) G (upd H p o) σ δ :=
  S.keep (S.toFrm.new h) (same_new (Sat.fresh_s S.toFrm h)) (fun j s b u _ _ e => same_new h b u e)
    (fun j s b hj f => by
      obtain ⟨w, u, e⟩ := foot_own (S.sl j s hj) f
      rw [upd_ne (ne_of_none e h)]; exact w.1)
    (fun j s b hj f => (foot_own (S.sl j s hj) f).1.2.1)
/-- a new object that nobody owns yet -/
theorem Frm.loose (S : Frm c Hs G H) (h : H p = none) : Frm c Hs G (upd H p o) where
  bs := S.bs
  sh := S.sh.trans (same_new h)
  gm := S.gm.trans (same_new h)
  nw := S.nw
  hin := fun b u e => by
    obtain ⟨u', e'⟩ := S.hin b u e
    by_cases hb : b = p
    · subst hb; exact ⟨o, upd_same⟩
    · exact ⟨u', by rw [upd_ne hb]; exact e'⟩
  gs := S.gs
theorem Sat.loose (S : Sat c Hs G H σ δ) (h : H p = none) : Sat c Hs G (upd H p o) σ δ :=
  S.keep (S.toFrm.loose h) (Same.refl _) (fun j s b u _ _ e => same_new h b u e)
    (fun j s b hj f => (foot_own (S.sl j s hj) f).1.1) (fun j s b hj f => (foot_own (S.sl j s hj) f).1.2.1)

/-- a list that nobody owns yet -/
structure Loose (c : DC) (Hs G H : Hp) (σ : St) (δ : En) (p : Addr) : Prop where
  s : Hs p = none
  g : G p = none
  i : c.Hin p = none
  f : ∀ (j : Nat) (s : Sl), δ[j]? = some s → ¬ Foot H σ[j]? s p
def RowL (K : PySem.W.Frag) (Hs H : Hp) (a : Addr) (ds : List D) : Prop := ∃ xs, H a = some (.lst xs) ∧ RpAll K Hs xs ds
/-- a new list of new lists that nobody owns yet -/
structure Loose2 (c : DC) (Hs G H : Hp) (σ : St) (δ : En) (p : Addr) (rs : List Addr) (dss : List (List D)) : Prop where
  l : ∀ a ∈ p :: rs, Loose c Hs G H σ δ a
  nd : (p :: rs).Nodup
  h : H p = some (.lst (rs.map V.ref))
  r : Paired (RowL c.K Hs H) rs dss
theorem Sat.loose_of (S : Sat c Hs G H σ δ) (h : H p = none) : Loose c Hs G (upd H p o) σ δ p where
  s := Sat.fresh_s S.toFrm h
  g := Sat.fresh_G S.toFrm h
  i := Sat.fresh_in S.toFrm h
  f := fun j s hj f => by
    have f' := foot_keep (H' := upd H p o) (S.sl j s hj) (fun b u _ e => same_new h b u e) f
    obtain ⟨_, u, e⟩ := foot_own (S.sl j s hj) f'
    rw [h] at e; cases e
/-- a loose list becomes stable -/
theorem Sat.freeze (S : Sat c Hs G H σ δ) (L : Loose c Hs G H σ δ p) (h : H p = some o) : Sat c (upd Hs p o) G H σ δ :=
  S.keep ⟨S.bs.trans (same_new L.s), fun b u e => by
      by_cases hb : b = p
      · subst hb; rw [upd_same] at e; rw [h]; exact e
      · rw [upd_ne hb] at e; exact S.sh b u e, S.gm, fun b u e => by
      by_cases hb : b = p
      · subst hb; exact .inr L.i
      · rw [upd_ne hb] at e; exact S.nw b u e, S.hin, fun b u u' e e' => by
      by_cases hb : b = p
      · subst hb; rw [L.g] at e; cases e
      · rw [upd_ne hb] at e'; exact S.gs b u u' e e'⟩ (same_new L.s) (fun _ _ _ _ _ _ e => e)
    (fun j s b hj f => by
      by_cases hb : b = p
      · subst hb; exact (L.f j s hj f).elim
      · rw [upd_ne hb]; exact (foot_own (S.sl j s hj) f).1.1)
    (fun j s b hj f => (foot_own (S.sl j s hj) f).1.2.1)

theorem foot_set_ne {j : Nat} {w : Option V} (h : j ≠ i) : (σ.set i w)[j]? = σ[j]? := List.getElem?_set_ne (Ne.symm h)
theorem foot_sh {v : Option (Option V)} (f : Foot H v (.sh d) a) : False := by
  cases v with
  | none => exact f
  | some z => cases z with
    | none => exact f
    | some z => cases z <;> exact f
theorem foot_no {v : Option (Option V)} (f : Foot H v .no a) : False := by
  cases v with
  | none => exact f
  | some z => cases z with
    | none => exact f
    | some z => cases z <;> exact f
/-- a name is given anything -/
theorem Sat.setAny {s' : Sl} {v : Option V} (S : Sat c Hs G H σ δ) (hi : i ∉ c.mi) (ok : SlOk c Hs G H i (some v) s') (sep : ∀ (j : Nat) (t : Sl) (b : Addr), δ[j]? = some t → Foot H (some v) s' b → Foot H σ[j]? t b → False) :
    Sat c Hs G H (σ.set i v) (δ.set i s') := by
  have at_i : ∀ (s : Sl), (δ.set i s')[i]? = some s → s = s' ∧ (σ.set i v)[i]? = some v := fun s hj => by
    have hlt : i < δ.length := by
      have := (List.getElem?_eq_some_iff.mp hj).1
      simpa using this
    rw [List.getElem?_set_self hlt] at hj
    cases hj
    exact ⟨rfl, List.getElem?_set_self (by rw [← S.ln]; exact hlt)⟩
  refine ⟨S.toFrm, by simp [S.ln], fun j s hj => ?_, fun j l s t b ne hj hl f1 f2 => ?_⟩
  · by_cases hji : j = i
    · subst hji
      obtain ⟨e1, e2⟩ := at_i s hj
      rw [e1, e2]
      exact ok
    · rw [List.getElem?_set_ne (Ne.symm hji)] at hj
      rw [foot_set_ne hji]
      exact S.sl j s hj
  · by_cases hji : j = i
    · subst hji
      obtain ⟨e1, e2⟩ := at_i s hj
      rw [e1, e2] at f1
      rw [List.getElem?_set_ne ne] at hl
      rw [foot_set_ne (Ne.symm ne)] at f2
      exact sep l t b hl f1 f2
    · rw [List.getElem?_set_ne (Ne.symm hji)] at hj
      rw [foot_set_ne hji] at f1
      by_cases hli : l = i
      · subst hli
        obtain ⟨e1, e2⟩ := at_i t hl
        rw [e1, e2] at f2
        exact sep j s b hj f2 f1
      · rw [List.getElem?_set_ne (Ne.symm hli)] at hl
        rw [foot_set_ne hli] at f2
        exact S.sp j l s t b ne hj hl f1 f2
theorem Sat.setSh (S : Sat c Hs G H σ δ) (hi : i ∉ c.mi) (r : Rp c.K Hs v d) : Sat c Hs G H (σ.set i (some v)) (δ.set i (.sh d)) :=
  S.setAny hi ⟨v, rfl, r⟩ fun _ _ _ _ f _ => foot_sh f
/-- a slot is not looked at any more -/
theorem Sat.dropSl (S : Sat c Hs G H σ δ) (i : Nat) : Sat c Hs G H σ (δ.set i .no) := by
  have at_i : ∀ (j : Nat) (s : Sl), (δ.set i .no)[j]? = some s → s = .no ∨ (j ≠ i ∧ δ[j]? = some s) := fun j s hj => by
    by_cases e : j = i
    · subst e
      have hlt : j < δ.length := by
        have := (List.getElem?_eq_some_iff.mp hj).1
        simpa using this
      rw [List.getElem?_set_self hlt] at hj
      cases hj
      exact .inl rfl
    · rw [List.getElem?_set_ne (Ne.symm e)] at hj
      exact .inr ⟨e, hj⟩
  refine ⟨S.toFrm, by simp [S.ln], fun j s hj => ?_, fun j l s t b ne hj hl f1 f2 => ?_⟩
  · rcases at_i j s hj with rfl | ⟨_, h⟩
    · trivial
    · exact S.sl j s h
  · rcases at_i j s hj with rfl | ⟨_, h⟩
    · exact foot_no f1
    · rcases at_i l t hl with rfl | ⟨_, h2⟩
      · exact foot_no f2
      · exact S.sp j l s t b ne h h2 f1 f2
theorem Sat.setNo {w : Option V} (S : Sat c Hs G H σ δ) (hi : i ∉ c.mi) : Sat c Hs G H (σ.set i w) (δ.set i .no) :=
  S.setAny hi trivial fun _ _ _ _ f _ => foot_no f
theorem Sat.setOw {xs : List V} (S : Sat c Hs G H σ δ) (hi : i ∉ c.mi) (L : Loose c Hs G H σ δ p) (h : H p = some (.lst xs)) (r : RpAll c.K Hs xs ds) : Sat c Hs G H (σ.set i (some (.ref p))) (δ.set i (.ow ds)) :=
  S.setAny hi ⟨p, xs, rfl, h, r, L.s, L.g, L.i, fun z => absurd z hi⟩ fun j t b hj f1 f2 => by
    have e : b = p := f1
    subst e
    exact L.f j t hj f2
theorem Sat.setDk {ks : List (Key × V)} {kvs : List (Key × D)} (S : Sat c Hs G H σ δ) (hi : i ∉ c.mi) (L : Loose c Hs G H σ δ p) (h : H p = some (.dK ks)) (r : KVd c.K Hs ks kvs) : Sat c Hs G H (σ.set i (some (.ref p))) (δ.set i (.dk kvs)) :=
  S.setAny hi ⟨p, ks, rfl, h, r, L.s, L.g, L.i, fun z => absurd z hi⟩ fun j t b hj f1 f2 => by
    have e : b = p := f1
    subst e
    exact L.f j t hj f2
theorem Sat.setDt {ks : List (List Key × V)} {kvs : List (List Key × D)} (S : Sat c Hs G H σ δ) (hi : i ∉ c.mi) (L : Loose c Hs G H σ δ p) (h : H p = some (.dT ks)) (r : KVt c.K Hs ks kvs) : Sat c Hs G H (σ.set i (some (.ref p))) (δ.set i (.dt kvs)) :=
  S.setAny hi ⟨p, ks, rfl, h, r, L.s, L.g, L.i, fun z => absurd z hi⟩ fun j t b hj f1 f2 => by
    have e : b = p := f1
    subst e
    exact L.f j t hj f2
/-- what slot i owns is changed -/
theorem Sat.write {s s' : Sl} (S : Sat c Hs G H σ δ) (hi : δ[i]? = some s) (fa : Foot H σ[i]? s a) (ok : SlOk c Hs G (upd H a o) i σ[i]? s') (sub : ∀ b, Foot (upd H a o) σ[i]? s' b → Foot H σ[i]? s b ∨ Loose c Hs G H σ δ b) : Sat c Hs G (upd H a o) σ (δ.set i s') := by
  obtain ⟨w, u, hu⟩ := foot_own (S.sl i s hi) fa
  have hlt : i < δ.length := (List.getElem?_eq_some_iff.mp hi).1
  have oth : ∀ (j : Nat) (t : Sl) (b : Addr) (o' : HO), j ≠ i → δ[j]? = some t → Foot H σ[j]? t b → H b = some o' → upd H a o b = some o' := fun j t b o' ne hj f e => by
    rw [upd_ne (by rintro rfl; exact S.sp j i t s b ne hj hi f fa)]
    exact e
  refine ⟨⟨S.bs, fun b u e => ?_, fun b u e => ?_, S.nw, fun b u e => ?_, S.gs⟩, by simp [S.ln], fun j t hj => ?_, fun j l t t' b ne hj hl f1 f2 => ?_⟩
  · rw [upd_ne (by rintro rfl; rw [w.1] at e; cases e)]; exact S.sh b u e
  · rw [upd_ne (by rintro rfl; rw [w.2.1] at e; cases e)]; exact S.gm b u e
  · obtain ⟨u', e'⟩ := S.hin b u e
    by_cases hb : b = a
    · subst hb; exact ⟨o, upd_same⟩
    · exact ⟨u', by rw [upd_ne hb]; exact e'⟩
  · by_cases hji : j = i
    · subst hji
      rw [List.getElem?_set_self hlt] at hj
      cases hj
      exact ok
    · rw [List.getElem?_set_ne (Ne.symm hji)] at hj
      exact slok_keep (S.sl j t hj) (Same.refl _) (fun b o' f e => oth j t b o' hji hj f e) (fun b f => (foot_own (S.sl j t hj) f).1.1) fun b f => (foot_own (S.sl j t hj) f).1.2.1
  · have back : ∀ (j : Nat) (t : Sl), j ≠ i → δ[j]? = some t → Foot (upd H a o) σ[j]? t b → Foot H σ[j]? t b := fun j t hji hj f => foot_keep (S.sl j t hj) (fun b o' f e => oth j t b o' hji hj f e) f
    by_cases hji : j = i
    · subst hji
      rw [List.getElem?_set_self hlt] at hj
      cases hj
      rw [List.getElem?_set_ne ne] at hl
      have g2 := back l t' (Ne.symm ne) hl f2
      rcases sub b f1 with f | L
      · exact S.sp j l s t' b ne hi hl f g2
      · exact L.f l t' hl g2
    · rw [List.getElem?_set_ne (Ne.symm hji)] at hj
      have g1 := back j t hji hj f1
      by_cases hli : l = i
      · subst hli
        rw [List.getElem?_set_self hlt] at hl
        cases hl
        rcases sub b f2 with f | L
        · exact S.sp j l t s b ne hj hi g1 f
        · exact L.f j t hj g1
      · rw [List.getElem?_set_ne (Ne.symm hli)] at hl
        exact S.sp j l t t' b ne hj hl g1 (back l t' hli hl f2)
/-- an owned list is changed -/
theorem Sat.writeOw {xs : List V} {es : List D} (S : Sat c Hs G H σ δ) (hi : δ[i]? = some (.ow ds)) (ha : σ[i]? = some (some (.ref a))) (r : RpAll c.K Hs xs es) : Sat c Hs G (upd H a (.lst xs)) σ (δ.set i (.ow es)) := by
  obtain ⟨r', ys, e1, h1, h2, h3⟩ := S.sl i _ hi
  rw [ha] at e1
  cases e1
  refine S.write (s' := .ow es) hi (by rw [ha]; rfl) ⟨a, xs, ha, upd_same, r, h3⟩ (fun b f => .inl ?_)
  rw [ha] at f ⊢
  exact f
/-- the names' slot is frozen -/
noncomputable def frz (H Hs : Hp) (F : Addr → Prop) : Hp := fun b => open Classical in if F b then H b else Hs b
theorem Sat.freezeAny {s : Sl} (S : Sat c Hs G H σ δ) (hi : δ[i]? = some s) (hm : i ∉ c.mi) (hv : σ[i]? = some (some v)) (r : Same Hs (frz H Hs (Foot H σ[i]? s)) → Rp c.K (frz H Hs (Foot H σ[i]? s)) v d) :
    ∃ Hs', Same Hs Hs' ∧ Sat c Hs' G H σ (δ.set i (.sh d)) ∧ Rp c.K Hs' v d := by
  have hlt : i < δ.length := (List.getElem?_eq_some_iff.mp hi).1
  have at_f : ∀ b, Foot H σ[i]? s b → frz H Hs (Foot H σ[i]? s) b = H b := fun b f => by unfold frz; rw [if_pos f]
  have at_n : ∀ b, ¬ Foot H σ[i]? s b → frz H Hs (Foot H σ[i]? s) b = Hs b := fun b f => by unfold frz; rw [if_neg f]
  have e : Same Hs (frz H Hs (Foot H σ[i]? s)) := fun b u q => by
    by_cases f : Foot H σ[i]? s b
    · rw [at_f b f]; exact S.sh b u q
    · rw [at_n b f]; exact q
  refine ⟨_, e, ⟨⟨S.bs.trans e, fun b u q => ?_, S.gm, fun b u q => ?_, S.hin, fun b u u' q q' => ?_⟩, by simp [S.ln], fun j t hj => ?_, fun j l t t' b ne hj hl f1 f2 => ?_⟩, r e⟩
  · by_cases f : Foot H σ[i]? s b
    · rw [at_f b f] at q; exact q
    · rw [at_n b f] at q; exact S.sh b u q
  · by_cases f : Foot H σ[i]? s b
    · exact .inr (foot_own (S.sl i s hi) f).1.2.2
    · rw [at_n b f] at q; exact S.nw b u q
  · by_cases f : Foot H σ[i]? s b
    · rw [(foot_own (S.sl i s hi) f).1.2.1] at q; cases q
    · rw [at_n b f] at q'; exact S.gs b u u' q q'
  · by_cases hji : j = i
    · subst hji
      rw [List.getElem?_set_self hlt] at hj
      cases hj
      exact ⟨v, hv, r e⟩
    · rw [List.getElem?_set_ne (Ne.symm hji)] at hj
      exact slok_keep (S.sl j t hj) e (fun _ _ _ q => q) (fun b f => by
        rw [at_n b fun f2 => S.sp j i t s b hji hj hi f f2]
        exact (foot_own (S.sl j t hj) f).1.1) fun b f => (foot_own (S.sl j t hj) f).1.2.1
  · by_cases hji : j = i
    · subst hji
      rw [List.getElem?_set_self hlt] at hj
      cases hj
      exact foot_sh f1
    · rw [List.getElem?_set_ne (Ne.symm hji)] at hj
      by_cases hli : l = i
      · subst hli
        rw [List.getElem?_set_self hlt] at hl
        cases hl
        exact foot_sh f2
      · rw [List.getElem?_set_ne (Ne.symm hli)] at hl
        exact S.sp j l t t' b ne hj hl f1 f2
theorem Sat.freezeOw (S : Sat c Hs G H σ δ) (hi : δ[i]? = some (.ow ds)) (hm : i ∉ c.mi) : ∃ v Hs', σ[i]? = some (some v) ∧ Same Hs Hs' ∧ Sat c Hs' G H σ (δ.set i (.sh (.list ds))) ∧ Rp c.K Hs' v (.list ds) := by
  obtain ⟨r, xs, e1, h1, h2, h3⟩ := S.sl i _ hi
  obtain ⟨Hs', q1, q2, q3⟩ := S.freezeAny (d := .list ds) hi hm e1 fun e => .lst (SqL.of (by
    unfold frz
    rw [e1, if_pos (show Foot H (some (some (.ref r))) (.ow ds) r from rfl)]
    exact h1)) (dpa_mono e h2)
  exact ⟨_, Hs', e1, q1, q2, q3⟩
theorem Sat.freezeOw2 {dss : List (List D)} (S : Sat c Hs G H σ δ) (hi : δ[i]? = some (.ow2 dss)) (hm : i ∉ c.mi) : ∃ v Hs', σ[i]? = some (some v) ∧ Same Hs Hs' ∧ Sat c Hs' G H σ (δ.set i (.sh (.list (dss.map .list)))) ∧ Rp c.K Hs' v (.list (dss.map .list)) := by
  obtain ⟨r, rs, e1, h1, h2, h3, h4⟩ := S.sl i _ hi
  obtain ⟨Hs', q1, q2, q3⟩ := S.freezeAny (d := .list (dss.map .list)) hi hm e1 fun e => by
    refine .lst (xs := rs.map V.ref) (SqL.of ?_) ?_
    · unfold frz
      rw [e1, if_pos (show Foot H (some (some (.ref r))) (.ow2 dss) r from .inl rfl)]
      exact h1
    · have fm : ∀ b ∈ rs, Foot H (some (some (.ref r))) (.ow2 dss) b := fun b hb => .inr ⟨_, h1, List.mem_map.mpr ⟨b, hb, rfl⟩⟩
      rw [e1] at e ⊢
      clear h1 h3 hi
      generalize Foot H (some (some (.ref r))) (.ow2 dss) = F at *
      induction h4 with
      | nil => exact .nil
      | @cons a ds rs' dss' h5 h6 ih =>
        obtain ⟨xs, p1, p2, p3⟩ := h5
        refine .cons (.lst (xs := xs) (SqL.of ?_) (dpa_mono e p2)) (ih fun b hb => fm b (List.mem_cons_of_mem _ hb))
        unfold frz
        rw [if_pos (fm a List.mem_cons_self)]
        exact p1
  exact ⟨_, Hs', e1, q1, q2, q3⟩
theorem kvd_all {K : PySem.W.Frag} {H : Hp} {ks : List (Key × V)} {kvs : List (Key × D)} (h : KVd K H ks kvs) : ks.map (·.1) = kvs.map (·.1) ∧ RpAll K H (ks.map (·.2)) (kvs.map (·.2)) := by
  induction h with
  | nil => exact ⟨rfl, .nil⟩
  | cons h1 h2 ih => exact ⟨by rw [List.map_cons, List.map_cons, h1.1, ih.1], .cons h1.2 ih.2⟩
theorem Sat.freezeDk {kvs : List (Key × D)} (S : Sat c Hs G H σ δ) (hi : δ[i]? = some (.dk kvs)) (hm : i ∉ c.mi) : ∃ v Hs', σ[i]? = some (some v) ∧ Same Hs Hs' ∧ Sat c Hs' G H σ (δ.set i (.sh (dkD kvs))) ∧ Rp c.K Hs' v (dkD kvs) := by
  obtain ⟨r, ks, e1, h1, h2, h3⟩ := S.sl i _ hi
  obtain ⟨Hs', q1, q2, q3⟩ := S.freezeAny (d := dkD kvs) hi hm e1 fun e => by
    obtain ⟨a1, a2⟩ := kvd_all h2
    rw [dkD_dic]
    refine .dic (xs := ks.map (·.2)) (.inl ?_) (by rw [← a1]; simp) (dpa_mono e a2)
    unfold frz
    rw [e1, if_pos (show Foot H (some (some (.ref r))) (.dk kvs) r from rfl), h1, ← a1]
    rw [List.zip_map', show (ks.map fun x => (x.1, x.2)) = ks from List.map_id' ks]
  exact ⟨_, Hs', e1, q1, q2, q3⟩
end
end DL

/-! DL1: readings over data: expressions, tests, arguments -/
namespace DL
open PySem L2

def Re.bd {α β : Type} : Re α → (α → Re β) → Re β
  | .bad, _ => .bad
  | .er e, _ => .er e
  | .ok a, f => f a
@[simp] theorem Re.bd_bad {α β : Type} (f : α → Re β) : Re.bd .bad f = .bad := (rfl)
@[simp] theorem Re.bd_er {α β : Type} (e : Er) (f : α → Re β) : Re.bd (.er e) f = .er e := (rfl)
@[simp] theorem Re.bd_ok {α β : Type} (a : α) (f : α → Re β) : Re.bd (.ok a) f = f a := (rfl)
def opt {α : Type} : Option α → Re α
  | none => .bad
  | some a => .ok a
@[simp] theorem opt_none {α : Type} : opt (none : Option α) = .bad := (rfl)
@[simp] theorem opt_some {α : Type} (a : α) : opt (some a) = .ok a := (rfl)
/-- an expression without effects on the names -/
def Pu {α : Type} (f : En → Re α) : En → Re (α × En) := fun δ => (f δ).bd fun a => .ok (a, δ)

/-- what is wished of an exception -/
def XOk (c : DC) (E : XK) (Hs H : Hp) (e : Er) : Prop := match e.pay with
  | none => ∀ C, c.mg e.cls = some (.ref C) → E (.ref C) none H
  | some (f, d) => ∀ C dx v, c.mg e.cls = some (.ref C) → H dx = some (.xd [(f, v)]) → Rp c.K Hs v d → E (.ref C) (some dx) H
def PoG {α : Type} (c : DC) (E : XK) (Hs G : Hp) (W : α → En → Hp → Hp → Prop) : Re (α × En) → Prop
  | .bad => False
  | .er e => ∀ Hs' H', Same Hs Hs' → Frm c Hs' G H' → XOk c E Hs' H' e
  | .ok (a, δ') => ∀ Hs' H', Same Hs Hs' → W a δ' Hs' H'
/-- an expression: stable data -/
def tD (c : DC) (E : XK) (f : En → Re (D × En)) : TE := fun σ H Q => ∃ Hs G δ, Sat c Hs G H σ δ ∧
  PoG c E Hs G (fun d δ' Hs' H' => ∀ v, Sat c Hs' G H' σ δ' → Rp c.K Hs' v d → Q v H') (f δ)
/-- .. a list that nobody owns yet -/
def tF (c : DC) (E : XK) (f : En → Re (List D × En)) : TE := fun σ H Q => ∃ Hs G δ, Sat c Hs G H σ δ ∧
  PoG c E Hs G (fun ds δ' Hs' H' => ∀ p xs, Sat c Hs' G H' σ δ' → Loose c Hs' G H' σ δ' p → H' p = some (.lst xs) → RpAll c.K Hs' xs ds → Q (.ref p) H') (f δ)
def tT (c : DC) (E : XK) (f : En → Re (Bool × En)) : TT := fun σ H Q => ∃ Hs G δ, Sat c Hs G H σ δ ∧
  PoG c E Hs G (fun b δ' Hs' H' => Sat c Hs' G H' σ δ' → Q b H') (f δ)
def tA (c : DC) (E : XK) (f : En → Re (List D × En)) : TA := fun σ H Q => ∃ Hs G δ, Sat c Hs G H σ δ ∧
  PoG c E Hs G (fun ds δ' Hs' H' => ∀ vs, Sat c Hs' G H' σ δ' → RpAll c.K Hs' vs ds → Q vs H') (f δ)

theorem PE.imp {X : Cx} {e : Expr} {t t' : TE} (h : PE X e t) (w : ∀ σ H Q, t' σ H Q → t σ H Q) : PE X e t' := ⟨fun pins s σ H Q I q => h.run pins s σ H Q I (w σ H Q q)⟩
theorem PT.imp {X : Cx} {e : Expr} {t t' : TT} (h : PT X e t) (w : ∀ σ H Q, t' σ H Q → t σ H Q) : PT X e t' := ⟨fun pins s σ H Q I q => h.run pins s σ H Q I (w σ H Q q)⟩
theorem PW.imp {X : Cx} {e : Expr} {t t' : TT} (h : PW X e t) (w : ∀ σ H Q, t' σ H Q → t σ H Q) : PW X e t' := ⟨fun whole pins s σ H Q I q => h.run whole pins s σ H Q I (w σ H Q q)⟩
theorem PA.imp {X : Cx} {es : List Expr} {t t' : TA} (h : PA X es t) (w : ∀ σ H Q, t' σ H Q → t σ H Q) : PA X es t' := ⟨fun pos pins s σ H Q I q => h.run pos pins s σ H Q I (w σ H Q q)⟩
theorem PS.imp {X : Cx} {e : Stmt} {t t' : TS} (h : PS X e t) (w : ∀ σ H Q, t' Q σ H → t Q σ H) : PS X e t' := ⟨fun pins s σ H Q I q => h.run pins s σ H Q I (w σ H Q q)⟩
theorem PSs.imp {X : Cx} {e : List Stmt} {t t' : TS} (h : PSs X e t) (w : ∀ σ H Q, t' Q σ H → t Q σ H) : PSs X e t' := ⟨fun pins s σ H Q I q => h.run pins s σ H Q I (w σ H Q q)⟩

/-- two steps in a row -/
theorem PoG.bind {α β : Type} {c : DC} {E : XK} {Hs G : Hp} {W : α → En → Hp → Hp → Prop} {W' : β → En → Hp → Hp → Prop} {r : Re (α × En)} {k : α × En → Re (β × En)} (h : PoG c E Hs G W' (r.bd k))
    (w : ∀ a δ', r = .ok (a, δ') → ∀ Hs' H', Same Hs Hs' → PoG c E Hs' G W' (k (a, δ')) → W a δ' Hs' H') (mono : ∀ x Hs', Same Hs Hs' → PoG c E Hs G W' x → PoG c E Hs' G W' x) : PoG c E Hs G W r := by
  cases r with
  | bad => exact h
  | er e => exact h
  | ok p => exact fun Hs' H' s => w p.1 p.2 rfl Hs' H' s (mono _ Hs' s h)
theorem PoG.mono {α : Type} {c : DC} {E : XK} {Hs Hs' G : Hp} {W : α → En → Hp → Hp → Prop} (e : Same Hs Hs') {x : Re (α × En)} (h : PoG c E Hs G W x) : PoG c E Hs' G W x := by
  cases x with
  | bad => exact h
  | er e' => exact fun Hs2 H2 s2 => h Hs2 H2 (e.trans s2)
  | ok p => exact fun Hs2 H2 s2 => h Hs2 H2 (e.trans s2)
theorem PoG.imp {α : Type} {c : DC} {E : XK} {Hs G : Hp} {W W' : α → En → Hp → Hp → Prop} {x : Re (α × En)} (h : PoG c E Hs G W x) (w : ∀ a δ' Hs' H', W a δ' Hs' H' → W' a δ' Hs' H') : PoG c E Hs G W' x := by
  cases x with
  | bad => exact h
  | er e' => exact h
  | ok p => exact fun Hs2 H2 s2 => w _ _ _ _ (h Hs2 H2 s2)
/-- the step with its follower -/
theorem PoG.seq {α β : Type} {c : DC} {E : XK} {Hs G : Hp} {W : α → En → Hp → Hp → Prop} {W' : β → En → Hp → Hp → Prop} {r : Re (α × En)} {k : α × En → Re (β × En)} (h : PoG c E Hs G W' (r.bd k))
    (w : ∀ a δ' Hs' H', Same Hs Hs' → PoG c E Hs' G W' (k (a, δ')) → W a δ' Hs' H') : PoG c E Hs G W r :=
  PoG.bind h (fun a δ' _ Hs' H' s q => w a δ' Hs' H' s q) fun _ _ s q => q.mono s
/-- the last step -/
theorem PoG.last {α β : Type} {c : DC} {E : XK} {Hs G : Hp} {W' : β → En → Hp → Hp → Prop} {z : Option α} {k : α → β × En} (h : PoG c E Hs G W' ((opt z).bd fun d => .ok (k d))) : ∃ d, z = some d ∧ ∀ Hs' H', Same Hs Hs' → W' (k d).1 (k d).2 Hs' H' := by
  cases z with
  | none => exact False.elim h
  | some d => exact ⟨d, rfl, h⟩

section
variable {X : Cx} {c : DC} {E : XK} {e a b : Expr} {pos : Pos}

/-! ### names, constants -/
def pV (i : Nat) : En → Re D := fun δ => match δ[i]? with
  | some (.sh d) => .ok d
  | _ => .bad
def pK (d : D) : En → Re D := fun _ => .ok d
theorem dp_var {i : Nat} (h : PE X e (tVar i)) : PE X e (tD c E (Pu (pV i))) := PE.imp h fun σ H Q ⟨Hs, G, δ, S, q⟩ => by
  unfold Pu pV at q
  cases hi : δ[i]? with
  | none => rw [hi] at q; exact q.elim
  | some s =>
    rw [hi] at q
    cases s with
    | sh d =>
      obtain ⟨v, e1, r⟩ := S.sl i _ hi
      exact ⟨v, e1, q Hs H (Same.refl _) v S r⟩
    | no => exact q.elim
    | ow _ => exact q.elim
    | ow2 _ => exact q.elim
    | dk _ => exact q.elim
    | dt _ => exact q.elim
theorem dp_c {v : V} {d : D} (h : PE X e (tC v)) (r : ∀ Hs, Rp c.K Hs v d) : PE X e (tD c E (Pu (pK d))) := PE.imp h fun σ H Q ⟨Hs, G, δ, S, q⟩ => q Hs H (Same.refl _) v S (r _)
theorem dp_int {i : Int} {j : Nat} : PE X (.Constant (.int i) j pos) (tD c E (Pu (pK (.int i)))) := dp_c pe_int fun _ => .int i
theorem dp_bl {i : Bool} {j : Nat} : PE X (.Constant (.bool i) j pos) (tD c E (Pu (pK (.bool i)))) := dp_c pe_bl fun _ => .bl i
theorem dp_non {j : Nat} : PE X (.Constant .none j pos) (tD c E (Pu (pK .none))) := dp_c pe_non fun _ => .non
theorem dp_str {i : Str} {j : Nat} : PE X (.Constant (.str i) j pos) (tD c E (Pu (pK (.str i)))) := dp_c pe_str fun _ => .str i

/-! ### from a loose list to stable data -/
def fz (f : En → Re (List D × En)) : En → Re (D × En) := fun δ => (f δ).bd fun p => .ok (.list p.1, p.2)
theorem de_frz {f : En → Re (List D × En)} (h : PE X e (tF c E f)) : PE X e (tD c E (fz f)) := PE.imp h fun σ H Q ⟨Hs, G, δ, S, q⟩ => ⟨Hs, G, δ, S, PoG.seq q fun ds δ' Hs' H' s q p xs S' L h r => by
  exact q (upd Hs' p (.lst xs)) H' (same_new L.s) (.ref p) (S'.freeze L h) (.lst (SqL.of upd_same) (dpa_mono (same_new L.s) r))⟩

/-! ### operators by values -/
/-- an operation on values that answers stable data -/
def VOp2 (c : DC) (r : R2) (g : D → D → Option D) : Prop := ∀ (Hs G H : Hp) (σ : St) (δ : En) (x y : V) (dx dy d : D), Sat c Hs G H σ δ → Rp c.K Hs x dx → Rp c.K Hs y dy → g dx dy = some d → ∀ Q : VK,
  (∀ v Hs' H', Same Hs Hs' → Sat c Hs' G H' σ δ → Rp c.K Hs' v d → Q v H') → r x y H Q
/-- .. a loose list -/
def VOp2F (c : DC) (r : R2) (g : D → D → Option (List D)) : Prop := ∀ (Hs G H : Hp) (σ : St) (δ : En) (x y : V) (dx dy : D) (d : List D), Sat c Hs G H σ δ → Rp c.K Hs x dx → Rp c.K Hs y dy → g dx dy = some d → ∀ Q : VK,
  (∀ p xs Hs' H', Same Hs Hs' → Sat c Hs' G H' σ δ → Loose c Hs' G H' σ δ p → H' p = some (.lst xs) → RpAll c.K Hs' xs d → Q (.ref p) H') → r x y H Q
theorem OpR.or {f : Value → Value → Sem Value} {r r' : R2} (h : OpR X f r) (h' : OpR X f r') : OpR X f (fun x y H Q => r x y H Q ∨ r' x y H Q) := by
  intro pins s σ H x y v u Q I rx ry q
  rcases q with q | q
  · exact h pins s σ H x y v u Q I rx ry q
  · exact h' pins s σ H x y v u Q I rx ry q
def eOp {α : Type} (g : D → D → Option α) (fa fb : En → Re (D × En)) : En → Re (α × En) := fun δ => (fa δ).bd fun p => (fb p.2).bd fun q => (opt (g p.1 q.1)).bd fun d => .ok (d, q.2)
def pOp {α : Type} (g : D → D → Option α) (fa fb : En → Re D) : En → Re α := fun δ => (fa δ).bd fun x => (fb δ).bd fun y => opt (g x y)
theorem eOp_pu {α : Type} (g : D → D → Option α) (fa fb : En → Re D) : eOp g (Pu fa) (Pu fb) = Pu (pOp g fa fb) := by
  funext δ
  unfold eOp Pu pOp
  cases fa δ with
  | ok x =>
    simp only [Re.bd_ok]
    cases fb δ with
    | ok y => rfl
    | _ => rfl
  | _ => rfl
section
variable {ta tb : TE} {r : R2} {fa fb : En → Re (D × En)}
theorem v_op {g : D → D → Option D} (hr : VOp2 c r g) {σ : St} {H : Hp} {Q : VK} (h : tD c E (eOp g fa fb) σ H Q) : tOp r (tD c E fa) (tD c E fb) σ H Q := by
  obtain ⟨Hs, G, δ, S, q⟩ := h
  refine ⟨Hs, G, δ, S, PoG.seq q fun dx δ1 Hs1 H1 s1 q1 x S1 r1 => ?_⟩
  refine ⟨Hs1, G, δ1, S1, PoG.seq q1 fun dy δ2 Hs2 H2 s2 q2 y S2 r2 => ?_⟩
  obtain ⟨d, hd, q3⟩ := PoG.last (k := fun d => (d, δ2)) q2
  exact hr Hs2 G H2 σ δ2 x y dx dy d S2 (dp_mono s2 r1) r2 hd Q fun v Hs3 H3 s3 S3 r3 => q3 Hs3 H3 s3 v S3 r3
theorem v_opF {g : D → D → Option (List D)} (hr : VOp2F c r g) {σ : St} {H : Hp} {Q : VK} (h : tF c E (eOp g fa fb) σ H Q) : tOp r (tD c E fa) (tD c E fb) σ H Q := by
  obtain ⟨Hs, G, δ, S, q⟩ := h
  refine ⟨Hs, G, δ, S, PoG.seq q fun dx δ1 Hs1 H1 s1 q1 x S1 r1 => ?_⟩
  refine ⟨Hs1, G, δ1, S1, PoG.seq q1 fun dy δ2 Hs2 H2 s2 q2 y S2 r2 => ?_⟩
  obtain ⟨d, hd, q3⟩ := PoG.last (k := fun d => (d, δ2)) q2
  exact hr Hs2 G H2 σ δ2 x y dx dy d S2 (dp_mono s2 r1) r2 hd Q fun p xs Hs3 H3 s3 S3 L h r3 => q3 Hs3 H3 s3 p xs S3 L h r3
theorem de_bin {op : Operator} {g : D → D → Option D} (ho : OpR X (binaryOp op) r) (hr : VOp2 c r g) (ha : PE X a (tD c E fa)) (hb : PE X b (tD c E fb)) : PE X (.BinOp a op b pos) (tD c E (eOp g fa fb)) :=
  PE.imp (pe_op ho ha hb) fun _ _ _ h => v_op hr h
theorem de_binF {op : Operator} {g : D → D → Option (List D)} (ho : OpR X (binaryOp op) r) (hr : VOp2F c r g) (ha : PE X a (tD c E fa)) (hb : PE X b (tD c E fb)) : PE X (.BinOp a op b pos) (tF c E (eOp g fa fb)) :=
  PE.imp (pe_op ho ha hb) fun _ _ _ h => v_opF hr h
theorem de_cmp {op : CmpOp} {g : D → D → Option D} (ho : OpR X (compareOp op) r) (hr : VOp2 c r g) (ha : PE X a (tD c E fa)) (hb : PE X b (tD c E fb)) (hm : behindInMarks op b = false) : PE X (.Compare a [op] [b] pos) (tD c E (eOp g fa fb)) :=
  PE.imp (pe_cmpR ho ha hb hm) fun _ _ _ h => v_op hr h
end

/-! ### tests -/
/-- a value that is a bool, as a test -/
def eTe (f : En → Re (D × En)) : En → Re (Bool × En) := fun δ => (f δ).bd fun p => match p.1 with
  | .bool b => .ok (b, p.2)
  | _ => .bad
def pTe (f : En → Re D) : En → Re Bool := fun δ => (f δ).bd fun p => match p with
  | .bool b => .ok b
  | _ => .bad
theorem eTe_pu (f : En → Re D) : eTe (Pu f) = Pu (pTe f) := by
  funext δ
  unfold eTe Pu pTe
  cases f δ with
  | ok x => cases x <;> rfl
  | _ => rfl
theorem v_te {f : En → Re (D × En)} {σ : St} {H : Hp} {Q : Bool → Hp → Prop} (h : tT c E (eTe f) σ H Q) : tD c E f σ H (fun x H' => ∃ k, x = .bl k ∧ Q k H') := by
  obtain ⟨Hs, G, δ, S, q⟩ := h
  refine ⟨Hs, G, δ, S, PoG.seq q fun d δ1 Hs1 H1 s1 q1 x S1 r1 => ?_⟩
  cases r1 with
  | bl k => exact ⟨k, rfl, q1 Hs1 H1 (Same.refl _) S1⟩
  | _ => exact False.elim q1
theorem de_test {f : En → Re (D × En)} (h : PE X e (tD c E f)) (he : ∀ whole, isTrue e X.env whole = (do let v ← whole; standAt e.pos; holding [v] (truthy v)) := by intro _; rfl) : PT X e (tT c E (eTe f)) :=
  PT.imp (pt_val h he) fun _ _ _ q => v_te q
theorem de_tcmp {op : CmpOp} {r : R2} {g : D → D → Option D} {fa fb : En → Re (D × En)} (ho : OpR X (compareOp op) r) (hr : VOp2 c r g) (ha : PE X a (tD c E fa)) (hb : PE X b (tD c E fb)) (hm : behindInMarks op b = false) : PT X (.Compare a [op] [b] pos) (tT c E (eTe (eOp g fa fb))) :=
  PT.imp (pt_cmpR ho ha hb hm) fun σ H Q q => by
    have q' := v_te q
    exact v_op (Q := fun x H' => ∃ k, x = .bl k ∧ Q k H') hr q'
def eNot (f : En → Re (Bool × En)) : En → Re (Bool × En) := fun δ => (f δ).bd fun p => .ok (!p.1, p.2)
def eAnd (f g : En → Re (Bool × En)) : En → Re (Bool × En) := fun δ => (f δ).bd fun p => match p.1 with
  | true => g p.2
  | false => .ok (false, p.2)
def eOr (f g : En → Re (Bool × En)) : En → Re (Bool × En) := fun δ => (f δ).bd fun p => match p.1 with
  | true => .ok (true, p.2)
  | false => g p.2
def pNot (f : En → Re Bool) : En → Re Bool := fun δ => (f δ).bd fun p => .ok (!p)
def pAnd (f g : En → Re Bool) : En → Re Bool := fun δ => (f δ).bd fun p => match p with
  | true => g δ
  | false => .ok false
def pOr (f g : En → Re Bool) : En → Re Bool := fun δ => (f δ).bd fun p => match p with
  | true => .ok true
  | false => g δ
theorem eNot_pu (f : En → Re Bool) : eNot (Pu f) = Pu (pNot f) := by
  funext δ; unfold eNot Pu pNot; cases f δ <;> rfl
theorem eAnd_pu (f g : En → Re Bool) : eAnd (Pu f) (Pu g) = Pu (pAnd f g) := by
  funext δ; unfold eAnd Pu pAnd
  cases f δ with
  | ok x =>
    simp only [Re.bd_ok]
    cases x <;> rfl
  | _ => rfl
theorem eOr_pu (f g : En → Re Bool) : eOr (Pu f) (Pu g) = Pu (pOr f g) := by
  funext δ; unfold eOr Pu pOr
  cases f δ with
  | ok x =>
    simp only [Re.bd_ok]
    cases x <;> rfl
  | _ => rfl
variable {f g : En → Re (Bool × En)}
theorem de_not (h : PT X a (tT c E f)) : PT X (.UnaryOp .Not a pos) (tT c E (eNot f)) := PT.imp (pt_not h) fun σ H Q ⟨Hs, G, δ, S, q⟩ =>
  ⟨Hs, G, δ, S, PoG.seq q fun d δ1 Hs1 H1 s1 q1 S1 => q1 Hs1 H1 (Same.refl _) S1⟩
theorem de_and1 (h : PT X a (tT c E f)) : PW X (.BoolOp .And [a] pos) (tT c E f) := pw_and1 h
theorem de_or1 (h : PT X a (tT c E f)) : PW X (.BoolOp .Or [a] pos) (tT c E f) := pw_or1 h
variable {rest : List Expr}
theorem de_and (h : PT X a (tT c E f)) (h2 : PW X (.BoolOp .And (b :: rest) pos) (tT c E g)) : PW X (.BoolOp .And (a :: b :: rest) pos) (tT c E (eAnd f g)) := PW.imp (pw_and h h2) fun σ H Q ⟨Hs, G, δ, S, q⟩ =>
  ⟨Hs, G, δ, S, PoG.seq q fun d δ1 Hs1 H1 s1 q1 S1 => by
    cases d with
    | true =>
      show if true = true then _ else _
      rw [if_pos rfl]
      exact ⟨Hs1, G, δ1, S1, q1⟩
    | false =>
      show if false = true then _ else _
      rw [if_neg Bool.false_ne_true]
      exact q1 Hs1 H1 (Same.refl _) S1⟩
theorem de_or (h : PT X a (tT c E f)) (h2 : PW X (.BoolOp .Or (b :: rest) pos) (tT c E g)) : PW X (.BoolOp .Or (a :: b :: rest) pos) (tT c E (eOr f g)) := PW.imp (pw_or h h2) fun σ H Q ⟨Hs, G, δ, S, q⟩ =>
  ⟨Hs, G, δ, S, PoG.seq q fun d δ1 Hs1 H1 s1 q1 S1 => by
    cases d with
    | false =>
      show if false = true then _ else _
      rw [if_neg Bool.false_ne_true]
      exact ⟨Hs1, G, δ1, S1, q1⟩
    | true =>
      show if true = true then _ else _
      rw [if_pos rfl]
      exact q1 Hs1 H1 (Same.refl _) S1⟩
/-! ### and, or, not as values (bools) -/
/-- a test's answer as a value -/
def eBo (f : En → Re (Bool × En)) : En → Re (D × En) := fun δ => (f δ).bd fun p => .ok (.bool p.1, p.2)
def pBo (f : En → Re Bool) : En → Re D := fun δ => (f δ).bd fun p => .ok (.bool p)
theorem eBo_pu (f : En → Re Bool) : eBo (Pu f) = Pu (pBo f) := by
  funext δ; unfold eBo Pu pBo; cases f δ <;> rfl
section
variable {fa fb : En → Re (D × En)}
theorem de_vone {op : BoolOp} {e : Expr} (h : PE X a (tD c E fa)) : PE X (.BoolOp op [a] pos) (tD c E fa) := pe_one h
theorem de_vand (h : PE X a (tD c E fa)) (h2 : PE X (.BoolOp .And (b :: rest) pos) (tD c E (eBo g))) : PE X (.BoolOp .And (a :: b :: rest) pos) (tD c E (eBo (eAnd (eTe fa) g))) := PE.imp (pe_and h h2) fun σ H Q ⟨Hs, G, δ, S, q⟩ => by
  have q' : PoG c E Hs G (fun d δ' Hs' H' => ∀ v, Sat c Hs' G H' σ δ' → Rp c.K Hs' v d → Q v H') ((fa δ).bd fun p => ((match p.1 with | .bool b => .ok (b, p.2) | _ => .bad : Re (Bool × En)).bd fun p => match p.1 with | true => g p.2 | false => .ok (false, p.2)).bd fun p => .ok (.bool p.1, p.2)) := by
    unfold eBo eAnd eTe at q
    cases h3 : fa δ with
    | ok p => rw [h3] at q; exact q
    | bad => rw [h3] at q; exact q
    | er e => rw [h3] at q; exact q
  refine ⟨Hs, G, δ, S, PoG.seq q' fun d δ1 Hs1 H1 s1 q1 x S1 r1 => ?_⟩
  cases r1 with
  | bl k =>
    refine ⟨k, rfl, ?_⟩
    cases k with
    | true =>
      show if true = true then _ else _
      rw [if_pos rfl]
      exact ⟨Hs1, G, δ1, S1, q1⟩
    | false =>
      show if false = true then _ else _
      rw [if_neg Bool.false_ne_true]
      exact q1 Hs1 H1 (Same.refl _) _ S1 (.bl _)
  | _ => exact False.elim q1
theorem de_vor (h : PE X a (tD c E fa)) (h2 : PE X (.BoolOp .Or (b :: rest) pos) (tD c E (eBo g))) : PE X (.BoolOp .Or (a :: b :: rest) pos) (tD c E (eBo (eOr (eTe fa) g))) := PE.imp (pe_or h h2) fun σ H Q ⟨Hs, G, δ, S, q⟩ => by
  have q' : PoG c E Hs G (fun d δ' Hs' H' => ∀ v, Sat c Hs' G H' σ δ' → Rp c.K Hs' v d → Q v H') ((fa δ).bd fun p => ((match p.1 with | .bool b => .ok (b, p.2) | _ => .bad : Re (Bool × En)).bd fun p => match p.1 with | true => .ok (true, p.2) | false => g p.2).bd fun p => .ok (.bool p.1, p.2)) := by
    unfold eBo eOr eTe at q
    cases h3 : fa δ with
    | ok p => rw [h3] at q; exact q
    | bad => rw [h3] at q; exact q
    | er e => rw [h3] at q; exact q
  refine ⟨Hs, G, δ, S, PoG.seq q' fun d δ1 Hs1 H1 s1 q1 x S1 r1 => ?_⟩
  cases r1 with
  | bl k =>
    refine ⟨k, rfl, ?_⟩
    cases k with
    | false =>
      show if false = true then _ else _
      rw [if_neg Bool.false_ne_true]
      exact ⟨Hs1, G, δ1, S1, q1⟩
    | true =>
      show if true = true then _ else _
      rw [if_pos rfl]
      exact q1 Hs1 H1 (Same.refl _) _ S1 (.bl _)
  | _ => exact False.elim q1
/-- the last of a chain: a bool -/
theorem de_vbo (h : PE X e (tD c E fa)) : PE X e (tD c E (eBo (eTe fa))) := PE.imp h fun σ H Q ⟨Hs, G, δ, S, q⟩ => by
  have q' : PoG c E Hs G (fun d δ' Hs' H' => ∀ v, Sat c Hs' G H' σ δ' → Rp c.K Hs' v d → Q v H') ((fa δ).bd fun p => (match p.1 with | .bool b => .ok (b, p.2) | _ => .bad : Re (Bool × En)).bd fun p => .ok (.bool p.1, p.2)) := by
    unfold eBo eTe at q
    cases h3 : fa δ with
    | ok p => rw [h3] at q; exact q
    | bad => rw [h3] at q; exact q
    | er e => rw [h3] at q; exact q
  refine ⟨Hs, G, δ, S, PoG.seq q' fun d δ1 Hs1 H1 s1 q1 x S1 r1 => ?_⟩
  cases r1 with
  | bl k => exact q1 Hs1 H1 (Same.refl _) _ S1 (.bl _)
  | _ => exact False.elim q1
theorem de_vnot (h : PE X a (tD c E fa)) : PE X (.UnaryOp .Not a pos) (tD c E (eBo (eNot (eTe fa)))) := PE.imp (pe_not h) fun σ H Q ⟨Hs, G, δ, S, q⟩ => by
  have q' : PoG c E Hs G (fun d δ' Hs' H' => ∀ v, Sat c Hs' G H' σ δ' → Rp c.K Hs' v d → Q v H') ((fa δ).bd fun p => ((match p.1 with | .bool b => .ok (b, p.2) | _ => .bad : Re (Bool × En)).bd fun p => .ok (!p.1, p.2)).bd fun p => .ok (.bool p.1, p.2)) := by
    unfold eBo eNot eTe at q
    cases h3 : fa δ with
    | ok p => rw [h3] at q; exact q
    | bad => rw [h3] at q; exact q
    | er e => rw [h3] at q; exact q
  refine ⟨Hs, G, δ, S, PoG.seq q' fun d δ1 Hs1 H1 s1 q1 x S1 r1 => ?_⟩
  cases r1 with
  | bl k => exact ⟨k, rfl, q1 Hs1 H1 (Same.refl _) _ S1 (.bl _)⟩
  | _ => exact False.elim q1
/-! ### a if t else b -/
def eIf {α : Type} (t : En → Re (Bool × En)) (fa fb : En → Re (α × En)) : En → Re (α × En) := fun δ => (t δ).bd fun p => match p.1 with
  | true => fa p.2
  | false => fb p.2
def pIf {α : Type} (t : En → Re Bool) (fa fb : En → Re α) : En → Re α := fun δ => (t δ).bd fun p => match p with
  | true => fa δ
  | false => fb δ
theorem eIf_pu {α : Type} (t : En → Re Bool) (fa fb : En → Re α) : eIf (Pu t) (Pu fa) (Pu fb) = Pu (pIf t fa fb) := by
  funext δ; unfold eIf Pu pIf
  cases t δ with
  | ok x => cases x <;> rfl
  | _ => rfl
theorem de_ifExp {t : Expr} (ht : PT X t (tT c E f)) (ha : PE X a (tD c E fa)) (hb : PE X b (tD c E fb)) : PE X (.IfExp t a b pos) (tD c E (eIf f fa fb)) := PE.imp (pe_ifExp ht ha hb) fun σ H Q ⟨Hs, G, δ, S, q⟩ =>
  ⟨Hs, G, δ, S, PoG.seq q fun d δ1 Hs1 H1 s1 q1 S1 => by
    cases d with
    | true =>
      show if true = true then _ else _
      rw [if_pos rfl]
      exact ⟨Hs1, G, δ1, S1, q1⟩
    | false =>
      show if false = true then _ else _
      rw [if_neg Bool.false_ne_true]
      exact ⟨Hs1, G, δ1, S1, q1⟩⟩
/-! ### a op b op' c -/
def eCh (g g' : D → D → Option D) (fa fb fc : En → Re (D × En)) : En → Re (D × En) := fun δ => (fa δ).bd fun p => (fb p.2).bd fun q => (opt (g p.1 q.1)).bd fun z => match z with
  | .bool true => (fc q.2).bd fun u => (opt (g' q.1 u.1)).bd fun d => .ok (d, u.2)
  | .bool false => .ok (.bool false, q.2)
  | _ => .bad
def pCh (g g' : D → D → Option D) (fa fb fc : En → Re D) : En → Re D := fun δ => (fa δ).bd fun p => (fb δ).bd fun q => (opt (g p q)).bd fun z => match z with
  | .bool true => (fc δ).bd fun u => opt (g' q u)
  | .bool false => .ok (.bool false)
  | _ => .bad
theorem eCh_pu (g g' : D → D → Option D) (fa fb fc : En → Re D) : eCh g g' (Pu fa) (Pu fb) (Pu fc) = Pu (pCh g g' fa fb fc) := by
  funext δ
  unfold eCh Pu pCh
  cases fa δ with
  | ok x =>
    simp only [Re.bd_ok]
    cases fb δ with
    | ok y =>
      simp only [Re.bd_ok]
      cases g x y with
      | none => rfl
      | some z =>
        simp only [opt_some, Re.bd_ok]
        cases z with
        | bool k =>
          cases k with
          | true =>
            simp only [Re.bd_ok]
            cases fc δ with
            | ok u => rfl
            | _ => rfl
          | false => rfl
        | _ => rfl
    | _ => rfl
  | _ => rfl
theorem v_ch {r r' : R2} {g g' : D → D → Option D} {fc : En → Re (D × En)} (hr : VOp2 c r g) (hr' : VOp2 c r' g') {σ : St} {H : Hp} {Q : VK} (h : tD c E (eCh g g' fa fb fc) σ H Q) : tChain r r' (tD c E fa) (tD c E fb) (tD c E fc) σ H Q := by
  obtain ⟨Hs, G, δ, S, q⟩ := h
  refine ⟨Hs, G, δ, S, PoG.seq q fun dx δ1 Hs1 H1 s1 q1 x S1 r1 => ?_⟩
  refine ⟨Hs1, G, δ1, S1, PoG.seq q1 fun dy δ2 Hs2 H2 s2 q2 y S2 r2 => ?_⟩
  cases hz : g dx dy with
  | none => rw [hz] at q2; exact q2.elim
  | some z =>
    rw [hz] at q2
    refine hr Hs2 G H2 σ δ2 x y dx dy z S2 (dp_mono s2 r1) r2 hz _ fun v Hs3 H3 s3 S3 r3 => ?_
    cases r3 with
    | bl k =>
      refine ⟨k, rfl, ?_⟩
      cases k with
      | false =>
        show if false = true then _ else _
        rw [if_neg Bool.false_ne_true]
        exact q2 Hs3 H3 s3 _ S3 (.bl _)
      | true =>
        show if true = true then _ else _
        rw [if_pos rfl]
        have q2' := PoG.mono s3 q2
        refine ⟨Hs3, G, δ2, S3, PoG.seq q2' fun dw δ4 Hs4 H4 s4 q4 w' S4 r4 => ?_⟩
        obtain ⟨d, hd, q5⟩ := PoG.last (k := fun d => (d, δ4)) q4
        exact hr' Hs4 G H4 σ δ4 y w' dy dw d S4 (dp_mono (s3.trans s4) r2) r4 hd Q fun v Hs5 H5 s5 S5 r5 => q5 Hs5 H5 s5 v S5 r5
    | _ => exact False.elim q2
theorem de_chain {op op' : CmpOp} {r r' : R2} {g g' : D → D → Option D} {d : Expr} {fc : En → Re (D × En)} (ho : OpR X (compareOp op) r) (hr : VOp2 c r g) (ho' : OpR X (compareOp op') r') (hr' : VOp2 c r' g') (ha : PE X a (tD c E fa)) (hb : PE X b (tD c E fb)) (hc : PE X d (tD c E fc))
    (hm : lastMarks [op, op'] [b, d] = false := by with_unfolding_all rfl) : PE X (.Compare a [op, op'] [b, d] pos) (tD c E (eCh g g' fa fb fc)) := PE.imp (pe_chain ho ho' ha hb hc hm) fun _ _ _ h => v_ch hr hr' h
theorem de_tchain {op op' : CmpOp} {r r' : R2} {g g' : D → D → Option D} {d : Expr} {fc : En → Re (D × En)} (ho : OpR X (compareOp op) r) (hr : VOp2 c r g) (ho' : OpR X (compareOp op') r') (hr' : VOp2 c r' g') (ha : PE X a (tD c E fa)) (hb : PE X b (tD c E fb)) (hc : PE X d (tD c E fc))
    (hm : lastMarks [op, op'] [b, d] = false := by with_unfolding_all rfl) : PT X (.Compare a [op, op'] [b, d] pos) (tT c E (eTe (eCh g g' fa fb fc))) := PT.imp (pt_chain ho ho' ha hb hc hm) fun σ H Q h => by
  have q' := v_te h
  exact v_ch (Q := fun x H' => ∃ k, x = .bl k ∧ Q k H') hr hr' q'
end
/-! ### arguments, displays, calls of built-ins -/
def eNil : En → Re (List D × En) := fun δ => .ok ([], δ)
def eCons (fa : En → Re (D × En)) (fr : En → Re (List D × En)) : En → Re (List D × En) := fun δ => (fa δ).bd fun p => (fr p.2).bd fun q => .ok (p.1 :: q.1, q.2)
def pNil : En → Re (List D) := fun _ => .ok []
def pCons (fa : En → Re D) (fr : En → Re (List D)) : En → Re (List D) := fun δ => (fa δ).bd fun p => (fr δ).bd fun q => .ok (p :: q)
theorem eNil_pu : eNil = Pu pNil := rfl
theorem eCons_pu (fa : En → Re D) (fr : En → Re (List D)) : eCons (Pu fa) (Pu fr) = Pu (pCons fa fr) := by
  funext δ; unfold eCons Pu pCons
  cases fa δ with
  | ok x =>
    simp only [Re.bd_ok]
    cases fr δ <;> rfl
  | _ => rfl
section
variable {es : List Expr} {fa : En → Re (D × En)} {fr : En → Re (List D × En)}
theorem da_nil : PA X [] (tA c E (Pu pNil)) := PA.imp pa_nil fun σ H Q ⟨Hs, G, δ, S, q⟩ => q Hs H (Same.refl _) [] S .nil
theorem da_cons (ha : PE X e (tD c E fa)) (hr : PA X es (tA c E fr)) (hs : starEach (e :: es) X.env = (false, eval e X.env) :: starEach es X.env := by rfl) : PA X (e :: es) (tA c E (eCons fa fr)) := PA.imp (pa_cons ha hr hs) fun σ H Q ⟨Hs, G, δ, S, q⟩ =>
  ⟨Hs, G, δ, S, PoG.seq q fun d δ1 Hs1 H1 s1 q1 x S1 r1 => ⟨Hs1, G, δ1, S1, PoG.seq q1 fun ds δ2 Hs2 H2 s2 q2 xs S2 r2 => q2 Hs2 H2 (Same.refl _) _ S2 (.cons (dp_mono s2 r1) r2)⟩⟩
def eTup (fr : En → Re (List D × En)) : En → Re (D × En) := fun δ => (fr δ).bd fun p => if p.1.length ≤ 1000000 then .ok (.tuple p.1, p.2) else .bad
def pTup (fr : En → Re (List D)) : En → Re D := fun δ => (fr δ).bd fun p => if p.length ≤ 1000000 then .ok (.tuple p) else .bad
theorem eTup_pu (fr : En → Re (List D)) : eTup (Pu fr) = Pu (pTup fr) := by
  funext δ; unfold eTup Pu pTup
  cases fr δ with
  | ok x =>
    show (if x.length ≤ 1000000 then _ else _) = Re.bd (if x.length ≤ 1000000 then _ else _) _
    by_cases h : x.length ≤ 1000000
    · rw [if_pos h, if_pos h]; rfl
    · rw [if_neg h, if_neg h]; rfl
  | _ => rfl
theorem million {n : Nat} (h : n ≤ 1000000) : n ≤ sizeLine := Nat.le_trans h (by decide)
theorem de_tup {x1 : Nat} (h : PA X es (tA c E fr)) : PE X (.Tuple es x1 pos) (tD c E (eTup fr)) := PE.imp (pe_tup h) fun σ H Q ⟨Hs, G, δ, S, q⟩ =>
  ⟨Hs, G, δ, S, PoG.seq q fun ds δ1 Hs1 H1 s1 q1 xs S1 r1 => by
    by_cases hl : ds.length ≤ 1000000
    · simp only [hl, if_true] at q1
      refine ⟨by rw [dpa_len r1]; exact million hl, fun p hp => ?_⟩
      have f := Sat.fresh_s S1.toFrm hp
      exact q1 (upd Hs1 p (.tup xs)) _ (same_new f) _ (S1.new hp) (.tup (SqT.of upd_same) (dpa_mono (same_new f) r1))
    · simp only [hl, if_false] at q1
      exact q1.elim⟩
def eLst (fr : En → Re (List D × En)) : En → Re (List D × En) := fun δ => (fr δ).bd fun p => if p.1.length ≤ 1000000 then .ok p else .bad
def pLst (fr : En → Re (List D)) : En → Re (List D) := fun δ => (fr δ).bd fun p => if p.length ≤ 1000000 then .ok p else .bad
theorem eLst_pu (fr : En → Re (List D)) : eLst (Pu fr) = Pu (pLst fr) := by
  funext δ; unfold eLst Pu pLst
  cases fr δ with
  | ok x =>
    show (if x.length ≤ 1000000 then _ else _) = Re.bd (if x.length ≤ 1000000 then _ else _) _
    by_cases h : x.length ≤ 1000000
    · rw [if_pos h, if_pos h]; rfl
    · rw [if_neg h, if_neg h]; rfl
  | _ => rfl
theorem de_lst (h : PA X es (tA c E fr)) : PE X (.List es pos) (tF c E (eLst fr)) := PE.imp (pe_lst h) fun σ H Q ⟨Hs, G, δ, S, q⟩ =>
  ⟨Hs, G, δ, S, PoG.seq q fun ds δ1 Hs1 H1 s1 q1 xs S1 r1 => by
    by_cases hl : ds.length ≤ 1000000
    · simp only [hl, if_true] at q1
      refine ⟨by rw [dpa_len r1]; exact million hl, fun p hp => ?_⟩
      exact q1 Hs1 _ (Same.refl _) p xs (S1.loose hp) (S1.loose_of hp) upd_same r1
    · simp only [hl, if_false] at q1
      exact q1.elim⟩
/-- a call of a built-in, by values -/
def VCall (c : DC) (r : List V → Hp → VK → Prop) (g : List D → Option D) : Prop := ∀ (Hs G H : Hp) (σ : St) (δ : En) (vs : List V) (ds : List D) (d : D), Sat c Hs G H σ δ → RpAll c.K Hs vs ds → g ds = some d → ∀ Q : VK,
  (∀ v Hs' H', Same Hs Hs' → Sat c Hs' G H' σ δ → Rp c.K Hs' v d → Q v H') → r vs H Q
def VCallF (c : DC) (r : List V → Hp → VK → Prop) (g : List D → Option (List D)) : Prop := ∀ (Hs G H : Hp) (σ : St) (δ : En) (vs : List V) (ds d : List D), Sat c Hs G H σ δ → RpAll c.K Hs vs ds → g ds = some d → ∀ Q : VK,
  (∀ p xs Hs' H', Same Hs Hs' → Sat c Hs' G H' σ δ → Loose c Hs' G H' σ δ p → H' p = some (.lst xs) → RpAll c.K Hs' xs d → Q (.ref p) H') → r vs H Q
def eCa {α : Type} (g : List D → Option α) (fr : En → Re (List D × En)) : En → Re (α × En) := fun δ => (fr δ).bd fun p => (opt (g p.1)).bd fun d => .ok (d, p.2)
def pCa {α : Type} (g : List D → Option α) (fr : En → Re (List D)) : En → Re α := fun δ => (fr δ).bd fun p => opt (g p)
theorem eCa_pu {α : Type} (g : List D → Option α) (fr : En → Re (List D)) : eCa g (Pu fr) = Pu (pCa g fr) := by
  funext δ; unfold eCa Pu pCa; cases fr δ <;> rfl
theorem v_ca {r : List V → Hp → VK → Prop} {g : List D → Option D} (hr : VCall c r g) {σ : St} {H : Hp} {Q : VK} (h : tD c E (eCa g fr) σ H Q) : tCB r (tA c E fr) σ H Q := by
  obtain ⟨Hs, G, δ, S, q⟩ := h
  refine ⟨Hs, G, δ, S, PoG.seq q fun ds δ1 Hs1 H1 s1 q1 xs S1 r1 => ?_⟩
  obtain ⟨d, hd, q2⟩ := PoG.last (k := fun d => (d, δ1)) q1
  exact hr Hs1 G H1 σ δ1 xs ds d S1 r1 hd Q fun v Hs2 H2 s2 S2 r2 => q2 Hs2 H2 s2 v S2 r2
theorem v_caF {r : List V → Hp → VK → Prop} {g : List D → Option (List D)} (hr : VCallF c r g) {σ : St} {H : Hp} {Q : VK} (h : tF c E (eCa g fr) σ H Q) : tCB r (tA c E fr) σ H Q := by
  obtain ⟨Hs, G, δ, S, q⟩ := h
  refine ⟨Hs, G, δ, S, PoG.seq q fun ds δ1 Hs1 H1 s1 q1 xs S1 r1 => ?_⟩
  obtain ⟨d, hd, q2⟩ := PoG.last (k := fun d => (d, δ1)) q1
  exact hr Hs1 G H1 σ δ1 xs ds d S1 r1 hd Q fun p xs Hs2 H2 s2 S2 L h r2 => q2 Hs2 H2 s2 p xs S2 L h r2
theorem CallR.or {f : Value} {r r' : List V → Hp → VK → Prop} (h : CallR X f r) (h' : CallR X f r') : CallR X f (fun x H Q => r x H Q ∨ r' x H Q) := by
  intro pins s σ H x u Q I rx q
  rcases q with q | q
  · exact h pins s σ H x u Q I rx q
  · exact h' pins s σ H x u Q I rx q
variable {x : Str} {p : Pos} {id T : String} {r : List V → Hp → VK → Prop}
theorem de_callB {g : List D → Option D} (hc : CallR X (.builtin id) r) (hr : VCall c r g) (hg : Gl X x) (hm : X.mg x = none) (hv : bootBuiltins x = some (.builtin id)) (ha : PA X (e :: es) (tA c E fr)) (hn : x ≠ "__name__" := by decide) (hdb : (x == ("__debug__" : Str)) = false := by decide)
    (he : starEach (e :: es) X.env = (false, eval e X.env) :: starEach es X.env := by rfl) (hpl : (backTo pos (starEach es X.env)).any (·.1) = false := by rfl) : PE X (.Call (.Name x p) (e :: es) [] pos) (tD c E (eCa g fr)) :=
  PE.imp (pe_callB hc hg hm hv ha hn hdb he hpl) fun _ _ _ h => v_ca hr h
theorem de_callBF {g : List D → Option (List D)} (hc : CallR X (.builtin id) r) (hr : VCallF c r g) (hg : Gl X x) (hm : X.mg x = none) (hv : bootBuiltins x = some (.builtin id)) (ha : PA X (e :: es) (tA c E fr)) (hn : x ≠ "__name__" := by decide) (hdb : (x == ("__debug__" : Str)) = false := by decide)
    (he : starEach (e :: es) X.env = (false, eval e X.env) :: starEach es X.env := by rfl) (hpl : (backTo pos (starEach es X.env)).any (·.1) = false := by rfl) : PE X (.Call (.Name x p) (e :: es) [] pos) (tF c E (eCa g fr)) :=
  PE.imp (pe_callB hc hg hm hv ha hn hdb he hpl) fun _ _ _ h => v_caF hr h
theorem de_callT {g : List D → Option D} (hc : CallR X (.type T) r) (hr : VCall c r g) (hg : Gl X x) (hm : X.mg x = none) (hv : bootBuiltins x = some (.type T)) (ha : PA X (e :: es) (tA c E fr)) (hn : x ≠ "__name__" := by decide) (hdb : (x == ("__debug__" : Str)) = false := by decide)
    (he : starEach (e :: es) X.env = (false, eval e X.env) :: starEach es X.env := by rfl) (hpl : (backTo pos (starEach es X.env)).any (·.1) = false := by rfl) : PE X (.Call (.Name x p) (e :: es) [] pos) (tD c E (eCa g fr)) :=
  PE.imp (pe_callTy hc hg hm hv ha hn hdb he hpl) fun _ _ _ h => v_ca hr h
theorem de_callTF {g : List D → Option (List D)} (hc : CallR X (.type T) r) (hr : VCallF c r g) (hg : Gl X x) (hm : X.mg x = none) (hv : bootBuiltins x = some (.type T)) (ha : PA X (e :: es) (tA c E fr)) (hn : x ≠ "__name__" := by decide) (hdb : (x == ("__debug__" : Str)) = false := by decide)
    (he : starEach (e :: es) X.env = (false, eval e X.env) :: starEach es X.env := by rfl) (hpl : (backTo pos (starEach es X.env)).any (·.1) = false := by rfl) : PE X (.Call (.Name x p) (e :: es) [] pos) (tF c E (eCa g fr)) :=
  PE.imp (pe_callTy hc hg hm hv ha hn hdb he hpl) fun _ _ _ h => v_caF hr h
end
end
end DL

/-! DL2: the operators and built-ins over data -/
namespace DL
open PySem L2

section
variable {X : Cx} {c : DC}

theorem VOp2.of {r : R2} {g : D → D → Option D} (h : ∀ (Hs H : Hp) (x y : V) (dx dy d : D), Same Hs H → Rp c.K Hs x dx → Rp c.K Hs y dy → g dx dy = some d → ∃ v, Rp c.K Hs v d ∧ ∀ Q : VK, Q v H → r x y H Q) : VOp2 c r g :=
  fun Hs G H σ δ x y dx dy d S rx ry e Q q => by
    obtain ⟨v, rv, k⟩ := h Hs H x y dx dy d S.sh rx ry e
    exact k Q (q v Hs H (Same.refl _) S rv)

/-! ### + -/
def gAdd : D → D → Option D
  | .int i, .int j => some (.int (i + j))
  | .str i, .str j => if i.length + j.length ≤ 1000000 then some (.str (i ++ j)) else none
  | .list a, .list b => if a.length + b.length ≤ 1000000 then some (.list (a ++ b)) else none
  | .tuple a, .tuple b => if a.length + b.length ≤ 1000000 then some (.tuple (a ++ b)) else none
  | _, _ => none
def gCat : D → D → Option (List D)
  | .list a, .list b => if a.length + b.length ≤ 1000000 then some (a ++ b) else none
  | _, _ => none
/-- list + list, wherever they stand -/
def rCatS (K : PySem.W.Frag) : R2 := fun x y H Q => ∃ a b xs ys, x = .ref a ∧ y = .ref b ∧ SqL K H a xs ∧ SqL K H b ys ∧ xs.length + ys.length ≤ sizeLine ∧ ∀ p, H p = none → Q (.ref p) (upd H p (.lst (xs ++ ys)))
theorem op_catS : OpR X (binaryOp .Add) (rCatS X.K) := by
  intro pins s σ H x y v u Q I rx ry h
  obtain ⟨a, b, xs, ys, rfl, rfl, ha, hb, hz, q⟩ := h
  cases rx
  cases ry
  obtain ⟨it1, r1, ⟨⟨c1, d1, t1, l1⟩, n1, e1, k1, _, g1⟩, _⟩ := I.list ha
  obtain ⟨it2, r2, ⟨⟨c2, d2, t2, l2⟩, n2, e2, k2, _, g2⟩, _⟩ := I.list hb
  simp only at k1 g1 k2 g2
  subst k1 g1 k2 g2
  have z : it1.toArray.size + it2.toArray.size ≤ sizeLine := by rw [List.size_toArray, List.size_toArray, ← r1.length, ← r2.length]; exact hz
  refine PySem.concat_meets ⟨_, e1, rfl⟩ ⟨_, e2, rfl⟩ PySem.noFill_list_add PySem.seq_list_add PySem.F.slot_list_add PySem.F.entry_list_add (PySem.F.args_list_add_2 _ _) (PyProof.Rows.list_addW a b it1.toArray it2.toArray n1 n2 d1 d2 l1 l2 z) ⟨e1, e2, ?_⟩
  have e : it1.toArray ++ it2.toArray = (it1 ++ it2).toArray := by simp
  rw [e]
  exact ⟨.ref _, _, I.lnew (t' := s.toks) (r1.append r2) (by rw [List.length_append]; exact hz), rfl, q _ I.fresh⟩
def rAddA (K : PySem.W.Frag) : R2 := fun x y H Q => rI0 (fun i j => .int (i + j)) x y H Q ∨ (∃ i j, x = .str i ∧ y = .str j ∧ i.length + j.length ≤ sizeLine ∧ Q (.str (i ++ j)) H) ∨ rCatS K x y H Q ∨ rCatA K x y H Q
theorem op_addA : OpR X (binaryOp .Add) (rAddA X.K) := OpR.or op_add (OpR.or op_add_str (OpR.or op_catS op_catA))
theorem vCat : VOp2F c (rCatS c.K) gCat := fun Hs G H σ δ x y dx dy d S rx ry e Q q => by
  cases rx with
  | @lst a xs ds h1 r1 => cases ry with
    | @lst b ys es h2 r2 =>
      simp only [gCat] at e
      split at e
      · rename_i hl
        cases e
        refine ⟨a, b, xs, ys, rfl, rfl, same_l S.sh h1, same_l S.sh h2, by rw [dpa_len r1, dpa_len r2]; exact million hl, fun p hp => ?_⟩
        exact q p _ Hs _ (Same.refl _) (S.loose hp) (S.loose_of hp) upd_same (dpa_append r1 r2)
      · cases e
    | _ => cases e
  | _ => cases e
theorem vAdd : VOp2 c (rAddA c.K) gAdd := fun Hs G H σ δ x y dx dy d S rx ry e Q q => by
  cases rx with
  | int i => cases ry with
    | int j =>
      cases e
      exact .inl ⟨i, j, rfl, rfl, q _ Hs H (Same.refl _) S (.int _)⟩
    | _ => cases e
  | str i => cases ry with
    | str j =>
      simp only [gAdd] at e
      split at e
      · rename_i hl
        cases e
        exact .inr (.inl ⟨i, j, rfl, rfl, million hl, q _ Hs H (Same.refl _) S (.str _)⟩)
      · cases e
    | _ => cases e
  | @lst a xs ds h1 r1 => cases ry with
    | @lst b ys es h2 r2 =>
      simp only [gAdd] at e
      split at e
      · rename_i hl
        cases e
        refine .inr (.inr (.inl ?_))
        refine vCat Hs G H σ δ _ _ (.list ds) (.list es) (ds ++ es) S (.lst h1 r1) (.lst h2 r2) (by simp only [gCat, hl, if_true]) Q fun p zs Hs' H' s S' L h r => ?_
        exact q (.ref p) (upd Hs' p (.lst zs)) H' (s.trans (same_new L.s)) (S'.freeze L h) (.lst (SqL.of upd_same) (dpa_mono (same_new L.s) r))
      · cases e
    | _ => cases e
  | @tup a xs ds h1 r1 => cases ry with
    | @tup b ys es h2 r2 =>
      simp only [gAdd] at e
      split at e
      · rename_i hl
        cases e
        refine .inr (.inr (.inr ⟨a, b, xs, ys, rfl, rfl, same_t S.sh h1, same_t S.sh h2, by rw [dpa_len r1, dpa_len r2]; exact million hl, fun z => ?_, fun z z2 => ?_, fun z z2 p hp => ?_⟩))
        · subst z
          cases r1
          exact q _ Hs H (Same.refl _) S (.tup h2 r2)
        · subst z2
          cases r2
          exact q _ Hs H (Same.refl _) S (.tup h1 (by rw [List.append_nil]; exact r1))
        · have f := Sat.fresh_s S.toFrm hp
          exact q _ (upd Hs p (.tup (xs ++ ys))) _ (same_new f) (S.new hp) (.tup (SqT.of upd_same) (dpa_mono (same_new f) (dpa_append r1 r2)))
      · cases e
    | _ => cases e
  | _ => cases e

/-! ### - * % // ** of ints; texts, lists, tuples times an int -/
def gSub : D → D → Option D
  | .int i, .int j => some (.int (i - j))
  | _, _ => none
theorem vSub : VOp2 c (rI0 fun i j => .int (i - j)) gSub := VOp2.of fun Hs H x y dx dy d s rx ry e => by
  cases rx with
  | int i => cases ry with
    | int j => cases e; exact ⟨_, .int _, fun Q q => ⟨i, j, rfl, rfl, q⟩⟩
    | _ => cases e
  | _ => cases e
theorem mulx_of {i j : Int} (h : i.natAbs.log2 + j.natAbs.log2 < 100000000) : CMulX i j := by
  have b : ∀ x : Int, Builtin.Int.intBits x ≤ x.natAbs.log2 + 1 := fun x => by
    unfold Builtin.Int.intBits
    split <;> omega
  have h1 := b i
  have h2 := b j
  unfold CMulX
  omega
def gMul : D → D → Option D
  | .int i, .int j => if i.natAbs.log2 + j.natAbs.log2 < 100000000 then some (.int (i * j)) else none
  | _, _ => none
theorem vMul : VOp2 c (rI CMulX fun i j => .int (i * j)) gMul := VOp2.of fun Hs H x y dx dy d s rx ry e => by
  cases rx with
  | int i => cases ry with
    | int j =>
      simp only [gMul] at e
      split at e
      · rename_i h; cases e; exact ⟨_, .int _, fun Q q => ⟨i, j, rfl, rfl, mulx_of h, q⟩⟩
      · cases e
    | _ => cases e
  | _ => cases e
def gMod : D → D → Option D
  | .int i, .int j => if 0 < j then some (.int (i % j)) else none
  | _, _ => none
theorem vMod : VOp2 c (rI (fun _ j => 0 < j) fun i j => .int (i % j)) gMod := VOp2.of fun Hs H x y dx dy d s rx ry e => by
  cases rx with
  | int i => cases ry with
    | int j =>
      simp only [gMod] at e
      split at e
      · rename_i h; cases e; exact ⟨_, .int _, fun Q q => ⟨i, j, rfl, rfl, h, q⟩⟩
      · cases e
    | _ => cases e
  | _ => cases e
def gDiv : D → D → Option D
  | .int i, .int j => if 0 < j ∧ j.natAbs.log2 < 9000 then some (.int (i / j)) else none
  | _, _ => none
theorem vDiv : VOp2 c (rI CDivW fun i j => .int (i / j)) gDiv := VOp2.of fun Hs H x y dx dy d s rx ry e => by
  cases rx with
  | int i => cases ry with
    | int j =>
      simp only [gDiv] at e
      split at e
      · rename_i h; cases e; exact ⟨_, .int _, fun Q q => ⟨i, j, rfl, rfl, h, q⟩⟩
      · cases e
    | _ => cases e
  | _ => cases e
def CPowW (i j : Int) : Prop := 0 ≤ j ∧ (Builtin.Int.intBits i : Int) * j ≤ 2 ^ 27
theorem op_powW : OpR X (binaryOp .Pow) (rI CPowW fun i j => .int (i ^ j.toNat)) := opI fun _ _ _ _ _ _ _ hc q => PyProof.Rows.pow_int hc.1 hc.2 q
def gPow : D → D → Option D
  | .int i, .int j => if 0 ≤ j ∧ (Builtin.Int.intBits i : Int) * j ≤ 2 ^ 27 then some (.int (i ^ j.toNat)) else none
  | _, _ => none
theorem vPow : VOp2 c (rI CPowW fun i j => .int (i ^ j.toNat)) gPow := VOp2.of fun Hs H x y dx dy d s rx ry e => by
  cases rx with
  | int i => cases ry with
    | int j =>
      simp only [gPow] at e
      split at e
      · rename_i h; cases e; exact ⟨_, .int _, fun Q q => ⟨i, j, rfl, rfl, h, q⟩⟩
      · cases e
    | _ => cases e
  | _ => cases e
/-! ### order -/
def intsOf : List D → Option (List Int)
  | [] => some []
  | .int i :: r => (intsOf r).map (i :: ·)
  | _ => none
theorem rpa_intsOf {K : PySem.W.Frag} {H : Hp} : ∀ {ds : List D} {vs : List V} {ns : List Int}, RpAll K H vs ds → intsOf ds = some ns → vs = ns.map V.int
  | _, _, _, .nil, e => by cases e; rfl
  | _, _, ns, .cons h1 h2, e => by
    cases h1 with
    | int i =>
      simp only [intsOf, Option.map_eq_some_iff] at e
      obtain ⟨ms, e1, e2⟩ := e
      subst e2
      rw [rpa_intsOf h2 e1]
      rfl
    | _ => cases e
@[simp] theorem intsOf_nil : intsOf [] = some [] := (rfl)
@[simp] theorem intsOf_cons (i : Int) (r : List D) : intsOf (.int i :: r) = (intsOf r).map (i :: ·) := (rfl)
theorem intsOf_map : ∀ ns : List Int, intsOf (ns.map PyData.int) = some ns
  | [] => rfl
  | n :: ns => by show (intsOf (ns.map PyData.int)).map (n :: ·) = _; rw [intsOf_map ns]; rfl
def gLt : D → D → Option D
  | .int i, .int j => some (.bool (decide (i < j)))
  | .str i, .str j => some (.bool (decide (i.cps.toList < j.cps.toList)))
  | .tuple a, .tuple b => match intsOf a, intsOf b with
    | some ns, some ms => some (.bool (HT.lexLt ns ms))
    | _, _ => none
  | _, _ => none
def rLtA (K : PySem.W.Frag) : R2 := fun x y H Q => rI0 (fun i j => .bl (decide (i < j))) x y H Q ∨ (∃ i j, x = .str i ∧ y = .str j ∧ Q (.bl (decide (i.cps.toList < j.cps.toList))) H) ∨ rLtT K x y H Q
theorem op_ltA (hu : X.A.units < cLine) : OpR X (compareOp .Lt) (rLtA X.K) := OpR.or op_lt (OpR.or op_lt_str (op_ltT hu))
theorem vLt : VOp2 c (rLtA c.K) gLt := VOp2.of fun Hs H x y dx dy d s rx ry e => by
  cases rx with
  | int i => cases ry with
    | int j => cases e; exact ⟨_, .bl _, fun Q q => .inl ⟨i, j, rfl, rfl, q⟩⟩
    | _ => cases e
  | str i => cases ry with
    | str j => cases e; exact ⟨_, .bl _, fun Q q => .inr (.inl ⟨i, j, rfl, rfl, q⟩)⟩
    | _ => cases e
  | @tup a xs ds h1 r1 => cases ry with
    | @tup b ys es h2 r2 =>
      simp only [gLt] at e
      split at e
      · rename_i ns ms e1 e2
        cases e
        have z1 := rpa_intsOf r1 e1
        have z2 := rpa_intsOf r2 e2
        subst z1 z2
        exact ⟨_, .bl _, fun Q q => .inr (.inr ⟨a, b, ns, ms, rfl, rfl, same_t s h1, same_t s h2, q⟩)⟩
      · cases e
    | _ => cases e
  | _ => cases e
def gLe : D → D → Option D
  | .int i, .int j => some (.bool (decide (i ≤ j)))
  | _, _ => none
theorem vLe : VOp2 c (rI0 fun i j => .bl (decide (i ≤ j))) gLe := VOp2.of fun Hs H x y dx dy d s rx ry e => by
  cases rx with
  | int i => cases ry with
    | int j => cases e; exact ⟨_, .bl _, fun Q q => ⟨i, j, rfl, rfl, q⟩⟩
    | _ => cases e
  | _ => cases e
def gGt : D → D → Option D
  | .int i, .int j => some (.bool (decide (j < i)))
  | _, _ => none
theorem vGt : VOp2 c (rI0 fun i j => .bl (decide (j < i))) gGt := VOp2.of fun Hs H x y dx dy d s rx ry e => by
  cases rx with
  | int i => cases ry with
    | int j => cases e; exact ⟨_, .bl _, fun Q q => ⟨i, j, rfl, rfl, q⟩⟩
    | _ => cases e
  | _ => cases e
def gGe : D → D → Option D
  | .int i, .int j => some (.bool (decide (j ≤ i)))
  | _, _ => none
theorem vGe : VOp2 c (rI0 fun i j => .bl (decide (j ≤ i))) gGe := VOp2.of fun Hs H x y dx dy d s rx ry e => by
  cases rx with
  | int i => cases ry with
    | int j => cases e; exact ⟨_, .bl _, fun Q q => ⟨i, j, rfl, rfl, q⟩⟩
    | _ => cases e
  | _ => cases e
/-! ### ==, !=, is None, in -/
/-- equality as Python has it -/
def eqD : D → D → Option Bool
  | .int i, .int j => some (decide (i = j))
  | .str i, .str j => some (decide (i = j))
  | d, e => if SeqAt.shaped d && SeqAt.shaped e then some (PyData.eqv d e) else none
def gEq (d e : D) : Option D := (eqD d e).map .bool
def gNe (d e : D) : Option D := (eqD d e).map fun b => .bool (!b)
theorem eqD_spec {d e : D} {b : Bool} (h : eqD d e = some b) : (∃ i j, d = .int i ∧ e = .int j ∧ b = decide (i = j)) ∨ (∃ i j, d = .str i ∧ e = .str j ∧ b = decide (i = j)) ∨ (SeqAt.shaped d = true ∧ SeqAt.shaped e = true ∧ b = PyData.eqv d e) := by
  unfold eqD at h
  split at h
  · rename_i i j; cases h; exact .inl ⟨i, j, rfl, rfl, rfl⟩
  · rename_i i j; cases h; exact .inr (.inl ⟨i, j, rfl, rfl, rfl⟩)
  · split at h
    · rename_i z
      cases h
      rw [Bool.and_eq_true] at z
      exact .inr (.inr ⟨z.1, z.2, rfl⟩)
    · cases h
theorem decV_int {i j : Int} : decide (V.int i = V.int j) = decide (i = j) := by
  by_cases h : i = j
  · subst h; simp
  · rw [decide_eq_false h, decide_eq_false (fun e => h (V.int.inj e))]
theorem decV_str {i j : Str} : decide (V.str i = V.str j) = decide (i = j) := by
  by_cases h : i = j
  · subst h; simp
  · rw [decide_eq_false h, decide_eq_false (fun e => h (V.str.inj e))]
theorem shp_nd {d : D} (h : SeqAt.shaped d = true) : d.hasDict = false := PyData.hasDict_of_canLay d (Bool.and_eq_true_iff.mp h).1
def rEqA (K : PySem.W.Frag) : R2 := fun x y H Q => rEq x y H Q ∨ rEqD K x y H Q
def rNeA (K : PySem.W.Frag) : R2 := fun x y H Q => rNe x y H Q ∨ rNeD K x y H Q
theorem op_eqA (hu : X.A.units + 64 < cLine) : OpR X (compareOp .Eq) (rEqA X.K) := OpR.or op_eq (op_eqD hu)
theorem op_neA (hu : X.A.units + 64 < cLine) : OpR X (compareOp .NotEq) (rNeA X.K) := OpR.or op_ne (op_neD hu)
theorem vEq : VOp2 c (rEqA c.K) gEq := VOp2.of fun Hs H x y dx dy d s rx ry e => by
  unfold gEq at e
  obtain ⟨b, e1, e2⟩ := Option.map_eq_some_iff.mp e
  subst e2
  refine ⟨_, .bl b, fun Q q => ?_⟩
  rcases eqD_spec e1 with ⟨i, j, rfl, rfl, rfl⟩ | ⟨i, j, rfl, rfl, rfl⟩ | ⟨h1, h2, rfl⟩
  · cases rx; cases ry
    exact .inl ⟨rfl, by rw [decV_int]; exact q⟩
  · cases rx; cases ry
    exact .inl ⟨rfl, by rw [decV_str]; exact q⟩
  · exact .inr ⟨dx, dy, (dp_mono s rx).dp (shp_nd h1), (dp_mono s ry).dp (shp_nd h2), h1, h2, q⟩
theorem vNe : VOp2 c (rNeA c.K) gNe := VOp2.of fun Hs H x y dx dy d s rx ry e => by
  unfold gNe at e
  obtain ⟨b, e1, e2⟩ := Option.map_eq_some_iff.mp e
  subst e2
  refine ⟨_, .bl (!b), fun Q q => ?_⟩
  rcases eqD_spec e1 with ⟨i, j, rfl, rfl, rfl⟩ | ⟨i, j, rfl, rfl, rfl⟩ | ⟨h1, h2, rfl⟩
  · cases rx; cases ry
    exact .inl ⟨rfl, by rw [decV_int]; exact q⟩
  · cases rx; cases ry
    exact .inl ⟨rfl, by rw [decV_str]; exact q⟩
  · exact .inr ⟨dx, dy, (dp_mono s rx).dp (shp_nd h1), (dp_mono s ry).dp (shp_nd h2), h1, h2, q⟩
def isN : D → Bool
  | .none => true
  | _ => false
@[simp] theorem isN_none : isN .none = true := (rfl)
@[simp] theorem isN_int (i : Int) : isN (.int i) = false := (rfl)
@[simp] theorem isN_bool (i : Bool) : isN (.bool i) = false := (rfl)
@[simp] theorem isN_str (i : Str) : isN (.str i) = false := (rfl)
@[simp] theorem isN_list (i : List D) : isN (.list i) = false := (rfl)
@[simp] theorem isN_tuple (i : List D) : isN (.tuple i) = false := (rfl)
theorem rp_isN {K : PySem.W.Frag} {H : Hp} {v : V} {d : D} (r : Rp K H v d) : decide (v = .non) = isN d := by
  cases r <;> rfl
/-- is, is not: None, a bool -/
def gIs : D → D → Option D
  | d, .none => some (.bool (isN d))
  | .bool a, .bool b => some (.bool (decide (a = b)))
  | _, _ => none
def gIsN (d e : D) : Option D := match gIs d e with
  | some (.bool b) => some (.bool (!b))
  | _ => none
def rIsA : R2 := fun x y H Q => rIsN x y H Q ∨ (∃ a b, x = .bl a ∧ y = .bl b ∧ Q (.bl (decide (a = b))) H)
def rIsNA : R2 := fun x y H Q => rNotN x y H Q ∨ (∃ a b, x = .bl a ∧ y = .bl b ∧ Q (.bl (!decide (a = b))) H)
theorem op_isA : OpR X (compareOp .Is) rIsA := OpR.or op_isN1 op_is_bl
theorem op_isNA : OpR X (compareOp .IsNot) rIsNA := OpR.or op_notN1 op_isnot_bl
theorem vIs : VOp2 c rIsA gIs := VOp2.of fun Hs H x y dx dy d s rx ry e => by
  cases ry with
  | non =>
    cases e
    exact ⟨_, .bl _, fun Q q => .inl ⟨rfl, by rw [rp_isN rx]; exact q⟩⟩
  | bl b => cases rx with
    | bl a => cases e; exact ⟨_, .bl _, fun Q q => .inr ⟨a, b, rfl, rfl, q⟩⟩
    | _ => cases e
  | _ => cases rx <;> cases e
theorem vIsN : VOp2 c rIsNA gIsN := VOp2.of fun Hs H x y dx dy d s rx ry e => by
  cases ry with
  | non =>
    cases e
    exact ⟨_, .bl _, fun Q q => .inl ⟨rfl, by rw [rp_isN rx]; exact q⟩⟩
  | bl b => cases rx with
    | bl a => cases e; exact ⟨_, .bl _, fun Q q => .inr ⟨a, b, rfl, rfl, q⟩⟩
    | _ => cases e
  | _ => cases rx <;> cases e
/-- x in a list; a text of one sign in a text -/
def inD (x : D) : D → Option Bool
  | .list ys => if SeqAt.shaped x && SeqAt.shaped (.list ys) then some (ys.any fun z => PyData.eqv z x) else none
  | .tuple ys => if SeqAt.shaped x && SeqAt.shaped (.tuple ys) then some (ys.any fun z => PyData.eqv z x) else none
  | .str z => match x with
    | .str ⟨⟨[k]⟩⟩ => some (decide (k ∈ z.cps.toList))
    | _ => none
  | _ => none
theorem inD_nd {d : D} {ds : List D} {b : Bool} (h : inD d (.list ds) = some b) : d.hasDict = false ∧ PyData.hasDictAll ds = false := by
  unfold inD at h
  simp only at h
  split at h
  · rename_i z
    obtain ⟨h1, h2⟩ := Bool.and_eq_true_iff.mp z
    have := shp_nd h2
    simp only [PyData.hasDict] at this
    exact ⟨shp_nd h1, this⟩
  · cases h
def gIn (x y : D) : Option D := (inD x y).map .bool
def gNotIn (x y : D) : Option D := (inD x y).map fun b => .bool (!b)
def rInT (K : PySem.W.Frag) : R2 := fun x y H Q => ∃ d ds, Dp K H x d ∧ Dp K H y (.tuple ds) ∧ SeqAt.shaped d = true ∧ SeqAt.shaped (.tuple ds) = true ∧ Q (.bl (ds.any fun z => PyData.eqv z d)) H
def rNotInT (K : PySem.W.Frag) : R2 := fun x y H Q => ∃ d ds, Dp K H x d ∧ Dp K H y (.tuple ds) ∧ SeqAt.shaped d = true ∧ SeqAt.shaped (.tuple ds) = true ∧ Q (.bl (!ds.any fun z => PyData.eqv z d)) H
theorem op_inT (hu : X.A.units + 65 < cLine) : OpR X (compareOp .In) (rInT X.K) := by
  intro pins s σ H x y v u Q I rx ry h
  obtain ⟨d, ds, hd, he, sd, se, q⟩ := h
  obtain ⟨as, r1⟩ := Dp.reads I d x v hd rx
  obtain ⟨bs, r2⟩ := Dp.reads I (.tuple ds) y u he ry
  exact SeqAt.in_tuple_reads r2 r1 (SeqAt.canLay_of_shaped se) (SeqAt.canLay_of_shaped sd) (PyProof.Rows.room_in_shaped sd hu) ⟨.bl _, H, I, rfl, q⟩
theorem op_notInT (hu : X.A.units + 65 < cLine) : OpR X (compareOp .NotIn) (rNotInT X.K) := by
  intro pins s σ H x y v u Q I rx ry h
  obtain ⟨d, ds, hd, he, sd, se, q⟩ := h
  obtain ⟨as, r1⟩ := Dp.reads I d x v hd rx
  obtain ⟨bs, r2⟩ := Dp.reads I (.tuple ds) y u he ry
  exact SeqAt.notIn_tuple_reads r2 r1 (SeqAt.canLay_of_shaped se) (SeqAt.canLay_of_shaped sd) (PyProof.Rows.room_in_shaped sd hu) ⟨.bl _, H, I, rfl, q⟩
def rInA (K : PySem.W.Frag) : R2 := fun x y H Q => rInD K x y H Q ∨ rInT K x y H Q ∨ rInS x y H Q
def rNotInA (K : PySem.W.Frag) : R2 := fun x y H Q => rNotInD K x y H Q ∨ rNotInT K x y H Q ∨ rNotInS x y H Q
theorem op_inA (hu : X.A.units + 65 < cLine) : OpR X (compareOp .In) (rInA X.K) := OpR.or (op_inD hu) (OpR.or (op_inT hu) op_inS)
theorem op_notInA (hu : X.A.units + 65 < cLine) : OpR X (compareOp .NotIn) (rNotInA X.K) := OpR.or (op_notInD hu) (OpR.or (op_notInT hu) op_notInS)
theorem inD_spec {x y : D} {b : Bool} (h : inD x y = some b) : (∃ ys, y = .list ys ∧ SeqAt.shaped x = true ∧ SeqAt.shaped (.list ys) = true ∧ b = ys.any fun z => PyData.eqv z x) ∨ (∃ ys, y = .tuple ys ∧ SeqAt.shaped x = true ∧ SeqAt.shaped (.tuple ys) = true ∧ b = ys.any fun z => PyData.eqv z x) ∨ ∃ (k : Nat) (z : Str), x = .str ⟨#[k]⟩ ∧ y = .str z ∧ b = decide (k ∈ z.cps.toList) := by
  unfold inD at h
  split at h
  · rename_i ys
    split at h
    · rename_i z
      cases h
      rw [Bool.and_eq_true] at z
      exact .inl ⟨ys, rfl, z.1, z.2, rfl⟩
    · cases h
  · rename_i ys
    split at h
    · rename_i z
      cases h
      rw [Bool.and_eq_true] at z
      exact .inr (.inl ⟨ys, rfl, z.1, z.2, rfl⟩)
    · cases h
  · rename_i z
    split at h
    · rename_i k
      cases h
      exact .inr (.inr ⟨k, z, rfl, rfl, rfl⟩)
    · cases h
  · cases h
theorem vIn : VOp2 c (rInA c.K) gIn := VOp2.of fun Hs H x y dx dy d s rx ry e => by
  unfold gIn at e
  obtain ⟨b, e1, e2⟩ := Option.map_eq_some_iff.mp e
  subst e2
  refine ⟨_, .bl b, fun Q q => ?_⟩
  rcases inD_spec e1 with ⟨ys, rfl, h1, h2, rfl⟩ | ⟨ys, rfl, h1, h2, rfl⟩ | ⟨k, z, rfl, rfl, rfl⟩
  · exact .inl ⟨dx, ys, (dp_mono s rx).dp (shp_nd h1), (dp_mono s ry).dp (shp_nd h2), h1, h2, q⟩
  · exact .inr (.inl ⟨dx, ys, (dp_mono s rx).dp (shp_nd h1), (dp_mono s ry).dp (shp_nd h2), h1, h2, q⟩)
  · cases rx; cases ry
    exact .inr (.inr ⟨k, z, rfl, rfl, q⟩)
theorem vNotIn : VOp2 c (rNotInA c.K) gNotIn := VOp2.of fun Hs H x y dx dy d s rx ry e => by
  unfold gNotIn at e
  obtain ⟨b, e1, e2⟩ := Option.map_eq_some_iff.mp e
  subst e2
  refine ⟨_, .bl (!b), fun Q q => ?_⟩
  rcases inD_spec e1 with ⟨ys, rfl, h1, h2, rfl⟩ | ⟨ys, rfl, h1, h2, rfl⟩ | ⟨k, z, rfl, rfl, rfl⟩
  · exact .inl ⟨dx, ys, (dp_mono s rx).dp (shp_nd h1), (dp_mono s ry).dp (shp_nd h2), h1, h2, q⟩
  · exact .inr (.inl ⟨dx, ys, (dp_mono s rx).dp (shp_nd h1), (dp_mono s ry).dp (shp_nd h2), h1, h2, q⟩)
  · cases rx; cases ry
    exact .inr (.inr ⟨k, z, rfl, rfl, q⟩)
/-! ### subscripts -/
def gIx : D → D → Option D
  | .list xs, .int i => atI xs i
  | .tuple xs, .int i => atI xs i
  | .str z, .int i => if z.length ≤ 1000000 then (atI z.cps.toList i).map fun k => .str ⟨#[k]⟩ else none
  | _, _ => none
theorem rpa_atI {K : PySem.W.Frag} {H : Hp} {ds : List D} {vs : List V} {i : Int} {d : D} (r : RpAll K H vs ds) (h : atI ds i = some d) : ∃ v, atI vs i = some v ∧ Rp K H v d := by
  unfold atI at h ⊢
  rw [dpa_len r]
  cases e : ixN ds.length i with
  | none => rw [e] at h; cases h
  | some j =>
    rw [e] at h
    exact dpa_get r h
theorem vIx : VOp2 c (rIx c.K) gIx := VOp2.of fun Hs H x y dx dy d s rx ry e => by
  cases rx with
  | @lst a xs ds h1 r1 => cases ry with
    | int i =>
      obtain ⟨v, e2, r2⟩ := rpa_atI r1 e
      exact ⟨v, r2, fun Q q => .inl ⟨a, xs, i, v, rfl, rfl, same_l s h1, e2, q⟩⟩
    | _ => cases e
  | @tup a xs ds h1 r1 => cases ry with
    | int i =>
      obtain ⟨v, e2, r2⟩ := rpa_atI r1 e
      exact ⟨v, r2, fun Q q => .inr (.inl ⟨a, xs, i, v, rfl, rfl, same_t s h1, e2, q⟩)⟩
    | _ => cases e
  | str z => cases ry with
    | int i =>
      simp only [gIx] at e
      split at e
      · rename_i hl
        obtain ⟨k, e1, e2⟩ := Option.map_eq_some_iff.mp e
        subst e2
        exact ⟨_, .str _, fun Q q => .inr (.inr ⟨z, i, k, rfl, rfl, million hl, e1, q⟩)⟩
      · cases e
    | _ => cases e
  | _ => cases e
variable {E : XK} {a b e : Expr} {pos : Pos} {fa fb : En → Re (D × En)}
theorem de_ix (ha : PE X a (tD c E fa)) (hb : PE X b (tD c E fb)) (hK : c.K = X.K) (hs : PlainIx b) : PE X (.Subscript a b pos) (tD c E (eOp gIx fa fb)) :=
  PE.imp (pe_ix ix_seq ha hb hs) fun σ H Q h => by
    rw [← hK]
    exact v_op vIx h
/-! ### -x -/
def gNeg : D → Option D
  | .int i => some (.int (-i))
  | _ => none
def eUn (g : D → Option D) (fa : En → Re (D × En)) : En → Re (D × En) := fun δ => (fa δ).bd fun p => (opt (g p.1)).bd fun d => .ok (d, p.2)
def pUn (g : D → Option D) (fa : En → Re D) : En → Re D := fun δ => (fa δ).bd fun p => opt (g p)
theorem eUn_pu (g : D → Option D) (fa : En → Re D) : eUn g (Pu fa) = Pu (pUn g fa) := by
  funext δ; unfold eUn Pu pUn; cases fa δ <;> rfl
theorem de_neg (ha : PE X a (tD c E fa)) : PE X (.UnaryOp .USub a pos) (tD c E (eUn gNeg fa)) := PE.imp (pe_un un_neg ha) fun σ H Q ⟨Hs, G, δ, S, q⟩ =>
  ⟨Hs, G, δ, S, PoG.seq q fun ds δ1 Hs1 H1 s1 q1 x S1 r1 => by
    obtain ⟨d, hd, q2⟩ := PoG.last (k := fun d => (d, δ1)) q1
    cases r1 with
    | int i => cases hd; exact ⟨i, rfl, q2 Hs1 H1 (Same.refl _) _ S1 (.int _)⟩
    | _ => cases hd⟩
/-! ### slices -/
def tO (c : DC) (E : XK) (f : En → Re (Option Int × En)) : TO := fun σ H Q => ∃ Hs G δ, Sat c Hs G H σ δ ∧
  PoG c E Hs G (fun o δ' Hs' H' => Sat c Hs' G H' σ δ' → Q o H') (f δ)
def pNoP : En → Re (Option Int) := fun _ => .ok none
def eSoP (f : En → Re (D × En)) : En → Re (Option Int × En) := fun δ => (f δ).bd fun p => match p.1 with
  | .int i => .ok (some i, p.2)
  | _ => .bad
def pSoP (f : En → Re D) : En → Re (Option Int) := fun δ => (f δ).bd fun p => match p with
  | .int i => .ok (some i)
  | _ => .bad
theorem eSoP_pu (f : En → Re D) : eSoP (Pu f) = Pu (pSoP f) := by
  funext δ; unfold eSoP Pu pSoP
  cases f δ with
  | ok x => cases x <;> rfl
  | _ => rfl
theorem do_none : PO X none (tO c E (Pu pNoP)) := ⟨fun pins s σ H Q I ⟨Hs, G, δ, S, q⟩ => po_none.run pins s σ H Q I (q Hs H (Same.refl _) S)⟩
theorem do_some (h : PE X e (tD c E fa)) : PO X (some e) (tO c E (eSoP fa)) := ⟨fun pins s σ H Q I ⟨Hs, G, δ, S, q⟩ => (po_some h).run pins s σ H Q I ⟨Hs, G, δ, S, PoG.seq q fun d δ1 Hs1 H1 s1 q1 x S1 r1 => by
    cases r1 with
    | int i => exact ⟨i, rfl, q1 Hs1 H1 (Same.refl _) S1⟩
    | _ => exact False.elim q1⟩⟩
def cutD (xs : List D) (lo hi : Option Int) : List D := (xs.drop (HT.sIx xs.length 0 lo)).take (HT.sIx xs.length xs.length hi - HT.sIx xs.length 0 lo)
theorem rpa_cut {K : PySem.W.Frag} {H : Hp} {ds : List D} {vs : List V} {lo hi : Option Int} (r : RpAll K H vs ds) : RpAll K H (cutV vs lo hi) (cutD ds lo hi) := by
  unfold cutV cutD
  rw [dpa_len r]
  exact dpa_take (dpa_drop r)
def gSl : D → Option Int → Option Int → Option D
  | .list xs, lo, hi => some (.list (cutD xs lo hi))
  | .tuple xs, lo, hi => some (.tuple (cutD xs lo hi))
  | .str z, lo, hi => if z.length ≤ 1000000 then some (.str (cutS z lo hi)) else none
  | _, _, _ => none
def gSlF : D → Option Int → Option Int → Option (List D)
  | .list xs, lo, hi => some (cutD xs lo hi)
  | _, _, _ => none
def eSl {α : Type} (g : D → Option Int → Option Int → Option α) (fa : En → Re (D × En)) (fl fh : En → Re (Option Int × En)) : En → Re (α × En) := fun δ => (fa δ).bd fun p => (fl p.2).bd fun l => (fh l.2).bd fun h => (opt (g p.1 l.1 h.1)).bd fun d => .ok (d, h.2)
def pSl {α : Type} (g : D → Option Int → Option Int → Option α) (fa : En → Re D) (fl fh : En → Re (Option Int)) : En → Re α := fun δ => (fa δ).bd fun p => (fl δ).bd fun l => (fh δ).bd fun h => opt (g p l h)
theorem eSl_pu {α : Type} (g : D → Option Int → Option Int → Option α) (fa : En → Re D) (fl fh : En → Re (Option Int)) : eSl g (Pu fa) (Pu fl) (Pu fh) = Pu (pSl g fa fl fh) := by
  funext δ; unfold eSl Pu pSl
  cases fa δ with
  | ok x =>
    simp only [Re.bd_ok]
    cases fl δ with
    | ok y =>
      simp only [Re.bd_ok]
      cases fh δ with
      | ok z => rfl
      | _ => rfl
    | _ => rfl
  | _ => rfl
def rSlAA (K : PySem.W.Frag) : V → Option Int → Option Int → Hp → VK → Prop := fun x lo hi H Q => rSlL K x lo hi H Q ∨ rSlA K x lo hi H Q ∨ rSlS x lo hi H Q
theorem sl_all : SlR X (rSlAA X.K) := SlR.or sl_list (SlR.or sl_tupA sl_str)
theorem cut_whole {α : Type} {xs : List α} {lo hi : Option Int} (h : HT.sIx xs.length 0 lo = 0 ∧ HT.sIx xs.length xs.length hi = xs.length) : (xs.drop (HT.sIx xs.length 0 lo)).take (HT.sIx xs.length xs.length hi - HT.sIx xs.length 0 lo) = xs := by
  rw [h.1, h.2]; simp
variable {lo hi : Option Expr} {fl fh : En → Re (Option Int × En)} {p2 : Pos}
theorem de_slF (ha : PE X a (tD c E fa)) (hl : PO X lo (tO c E fl)) (hh : PO X hi (tO c E fh)) (hK : c.K = X.K) : PE X (.Subscript a (.Slice lo hi none p2) pos) (tF c E (eSl gSlF fa fl fh)) := PE.imp (pe_slice sl_list ha hl hh) fun σ H Q ⟨Hs, G, δ, S, q⟩ =>
  ⟨Hs, G, δ, S, PoG.seq q fun dx δ1 Hs1 H1 s1 q1 x S1 r1 => ⟨Hs1, G, δ1, S1, PoG.seq q1 fun l δ2 Hs2 H2 s2 q2 S2 => ⟨Hs2, G, δ2, S2, PoG.seq q2 fun h δ3 Hs3 H3 s3 q3 S3 => by
    obtain ⟨d, hd, q4⟩ := PoG.last (k := fun d => (d, δ3)) q3
    cases r1 with
    | @lst r xs ds h1 r2 =>
      cases hd
      refine ⟨r, xs, rfl, (hK ▸ same_l S3.sh (same_l s3 (same_l s2 h1))), fun p hp => ?_⟩
      exact q4 Hs3 _ (Same.refl _) p _ (S3.loose hp) (S3.loose_of hp) upd_same (rpa_cut (dpa_mono (s2.trans s3) r2))
    | _ => cases hd⟩⟩⟩
theorem de_sl (ha : PE X a (tD c E fa)) (hl : PO X lo (tO c E fl)) (hh : PO X hi (tO c E fh)) (hK : c.K = X.K) : PE X (.Subscript a (.Slice lo hi none p2) pos) (tD c E (eSl gSl fa fl fh)) := PE.imp (pe_slice sl_all ha hl hh) fun σ H Q ⟨Hs, G, δ, S, q⟩ =>
  ⟨Hs, G, δ, S, PoG.seq q fun dx δ1 Hs1 H1 s1 q1 x S1 r1 => ⟨Hs1, G, δ1, S1, PoG.seq q1 fun l δ2 Hs2 H2 s2 q2 S2 => ⟨Hs2, G, δ2, S2, PoG.seq q2 fun h δ3 Hs3 H3 s3 q3 S3 => by
    obtain ⟨d, hd, q4⟩ := PoG.last (k := fun d => (d, δ3)) q3
    cases r1 with
    | @lst r xs ds h1 r2 =>
      cases hd
      refine .inl ⟨r, xs, rfl, (hK ▸ same_l S3.sh (same_l s3 (same_l s2 h1))), fun p hp => ?_⟩
      have f := Sat.fresh_s S3.toFrm hp
      exact q4 (upd Hs3 p (.lst (cutV xs l h))) _ (same_new f) _ (S3.new hp) (.lst (SqL.of upd_same) (dpa_mono (same_new f) (rpa_cut (dpa_mono (s2.trans s3) r2))))
    | @tup r xs ds h1 r2 =>
      cases hd
      have r3 := dpa_mono (s2.trans s3) r2
      have h3 := same_t (s2.trans s3) h1
      refine .inr (.inl ⟨r, xs, rfl, by rw [← hK]; exact same_t S3.sh h3, fun hw => ?_, fun hw p hp => ?_⟩)
      · refine q4 Hs3 _ (Same.refl _) _ S3 (.tup h3 ?_)
        have e1 := rpa_cut (lo := l) (hi := h) r3
        unfold cutV at e1
        rw [cut_whole hw] at e1
        exact e1
      · have f := Sat.fresh_s S3.toFrm hp
        exact q4 (upd Hs3 p (.tup (cutV xs l h))) _ (same_new f) _ (S3.new hp) (.tup (SqT.of upd_same) (dpa_mono (same_new f) (rpa_cut r3)))
    | str z =>
      simp only [gSl] at hd
      split at hd
      · rename_i hz
        cases hd
        exact .inr (.inr ⟨z, rfl, million hz, q4 Hs3 _ (Same.refl _) _ S3 (.str _)⟩)
      · cases hd
    | _ => cases hd⟩⟩⟩
/-! ### built-ins -/
theorem VCall.of {r : List V → Hp → VK → Prop} {g : List D → Option D} (h : ∀ (Hs H : Hp) (vs : List V) (ds : List D) (d : D), Same Hs H → RpAll c.K Hs vs ds → g ds = some d → ∃ v, Rp c.K Hs v d ∧ ∀ Q : VK, Q v H → r vs H Q) : VCall c r g :=
  fun Hs G H σ δ vs ds d S rx e Q q => by
    obtain ⟨v, rv, k⟩ := h Hs H vs ds d S.sh rx e
    exact k Q (q v Hs H (Same.refl _) S rv)
theorem rpa1 {K : PySem.W.Frag} {H : Hp} {vs : List V} {d : D} (r : RpAll K H vs [d]) : ∃ v, vs = [v] ∧ Rp K H v d := by
  cases r with
  | cons h t => cases t; exact ⟨_, rfl, h⟩
theorem rpa2 {K : PySem.W.Frag} {H : Hp} {vs : List V} {d e : D} (r : RpAll K H vs [d, e]) : ∃ v w, vs = [v, w] ∧ Rp K H v d ∧ Rp K H w e := by
  cases r with
  | cons h t => cases t with
    | cons h2 t2 => cases t2; exact ⟨_, _, rfl, h, h2⟩
def gLen : List D → Option D
  | [.list xs] => some (.int xs.length)
  | [.tuple xs] => some (.int xs.length)
  | [.str z] => if z.length ≤ 1000000 then some (.int z.length) else none
  | _ => none
def rLenA (K : PySem.W.Frag) : List V → Hp → VK → Prop := fun xs H Q => ∃ x n, xs = [x] ∧ LenV K x H n ∧ Q (.int n) H
theorem gLen_inv {ds : List D} {d : D} (h : gLen ds = some d) : (∃ xs, ds = [.list xs] ∧ d = .int xs.length) ∨ (∃ xs, ds = [.tuple xs] ∧ d = .int xs.length) ∨ (∃ z, ds = [.str z] ∧ z.length ≤ 1000000 ∧ d = .int z.length) := by
  unfold gLen at h
  split at h
  · cases h; exact .inl ⟨_, rfl, rfl⟩
  · cases h; exact .inr (.inl ⟨_, rfl, rfl⟩)
  · split at h
    · rename_i z hz; cases h; exact .inr (.inr ⟨_, rfl, hz, rfl⟩)
    · cases h
  · cases h
theorem vLen : VCall c (rLenA c.K) gLen := VCall.of fun Hs H vs ds d s r e => by
  rcases gLen_inv e with ⟨xs, rfl, rfl⟩ | ⟨xs, rfl, rfl⟩ | ⟨z, rfl, hz, rfl⟩
  · obtain ⟨v, rfl, rv⟩ := rpa1 r
    cases rv with
    | @lst a ys _ h1 r1 => exact ⟨_, .int _, fun Q q => ⟨_, _, rfl, .inl ⟨_, same_l s h1, by rw [dpa_len r1]⟩, q⟩⟩
  · obtain ⟨v, rfl, rv⟩ := rpa1 r
    cases rv with
    | @tup a ys _ h1 r1 => exact ⟨_, .int _, fun Q q => ⟨_, _, rfl, .inr ⟨_, same_t s h1, by rw [dpa_len r1]⟩, q⟩⟩
  · obtain ⟨v, rfl, rv⟩ := rpa1 r
    cases rv
    exact ⟨_, .int _, fun Q q => ⟨_, _, rfl, ⟨million hz, rfl⟩, q⟩⟩
def boolsOf : List D → Option (List Bool)
  | [] => some []
  | .bool i :: r => (boolsOf r).map (i :: ·)
  | _ => none
theorem rpa_boolsOf {K : PySem.W.Frag} {H : Hp} : ∀ {ds : List D} {vs : List V} {ns : List Bool}, RpAll K H vs ds → boolsOf ds = some ns → vs = ns.map V.bl
  | _, _, _, .nil, e => by cases e; rfl
  | _, _, ns, .cons h1 h2, e => by
    cases h1 with
    | bl i =>
      simp only [boolsOf, Option.map_eq_some_iff] at e
      obtain ⟨ms, e1, e2⟩ := e
      subst e2
      rw [rpa_boolsOf h2 e1]
      rfl
    | _ => cases e
theorem boolsOf_map : ∀ ns : List Bool, boolsOf (ns.map PyData.bool) = some ns
  | [] => rfl
  | n :: ns => by show (boolsOf (ns.map PyData.bool)).map (n :: ·) = _; rw [boolsOf_map ns]; rfl
def gAll : List D → Option D
  | [.list xs] => (boolsOf xs).map fun bs => .bool (bs.all id)
  | _ => none
theorem vAll : VCall c (rAll c.K) gAll := VCall.of fun Hs H vs ds d s r e => by
  unfold gAll at e
  split at e
  · obtain ⟨bs, e1, e2⟩ := Option.map_eq_some_iff.mp e
    subst e2
    obtain ⟨v, rfl, rv⟩ := rpa1 r
    cases rv with
    | @lst a ys _ h1 r1 =>
      have z := rpa_boolsOf r1 e1
      subst z
      exact ⟨_, .bl _, fun Q q => ⟨a, bs, rfl, same_l s h1, q⟩⟩
  · cases e
def gAbs : List D → Option D
  | [.int i] => some (.int (if i < 0 then -i else i))
  | _ => none
theorem vAbs : VCall c (fun xs H Q => ∃ i, xs = [.int i] ∧ Q (.int (if i < 0 then -i else i)) H) gAbs := VCall.of fun Hs H vs ds d s r e => by
  unfold gAbs at e
  split at e
  · cases e
    obtain ⟨v, rfl, rv⟩ := rpa1 r
    cases rv
    exact ⟨_, .int _, fun Q q => ⟨_, rfl, q⟩⟩
  · cases e
def gMax : List D → Option D
  | [.int i, .int j] => some (.int (if j > i then j else i))
  | _ => none
def gMin : List D → Option D
  | [.int i, .int j] => some (.int (if j < i then j else i))
  | _ => none
theorem vMax : VCall c (fun xs H Q => ∃ i j, xs = [.int i, .int j] ∧ Q (.int (if j > i then j else i)) H) gMax := VCall.of fun Hs H vs ds d s r e => by
  unfold gMax at e
  split at e
  · cases e
    obtain ⟨v, w, rfl, rv, rw'⟩ := rpa2 r
    cases rv; cases rw'
    exact ⟨_, .int _, fun Q q => ⟨_, _, rfl, q⟩⟩
  · cases e
theorem vMin : VCall c (fun xs H Q => ∃ i j, xs = [.int i, .int j] ∧ Q (.int (if j < i then j else i)) H) gMin := VCall.of fun Hs H vs ds d s r e => by
  unfold gMin at e
  split at e
  · cases e
    obtain ⟨v, w, rfl, rv, rw'⟩ := rpa2 r
    cases rv; cases rw'
    exact ⟨_, .int _, fun Q q => ⟨_, _, rfl, q⟩⟩
  · cases e
/-- list(xs), list(t), list(text) -/
def gList : List D → Option (List D)
  | [.list xs] => some xs
  | [.tuple xs] => some xs
  | [.str z] => if z.length ≤ 1000000 then some (z.cps.toList.map fun k => .str ⟨#[k]⟩) else none
  | _ => none
theorem rpa_signs {K : PySem.W.Frag} {H : Hp} : ∀ l : List Nat, RpAll K H (l.map fun k => V.str ⟨#[k]⟩) (l.map fun k => PyData.str ⟨#[k]⟩)
  | [] => .nil
  | k :: l => .cons (.str _) (rpa_signs l)
theorem call_listS {X : Cx} (hc : X.calm = true) : CallR X (.type "list") (fun xs H Q => ∃ z : Str, xs = [.str z] ∧ z.length ≤ sizeLine ∧ ∀ l, H l = none → Q (.ref l) (upd H l (.lst (z.cps.toList.map fun k => V.str ⟨#[k]⟩)))) := by
  intro pins s σ H xs us Q I r h
  obtain ⟨z, rfl, hz, q⟩ := h
  obtain ⟨u, rfl, t, rfl⟩ := vals1 r
  refine call_list_str (I.ok.hd hc) z t (hn := hz) fun h' tk acc' c' hkeep hS hacc => ?_
  refine ⟨.ref s.heap.objs.size, upd H s.heap.objs.size (.lst (z.cps.toList.map fun k => V.str ⟨#[k]⟩)), I.laid hkeep (Nat.le_refl _) (show ObjOk X.prog X.w _ _ _ (.lst (z.cps.toList.map fun k => V.str ⟨#[k]⟩)) from ⟨?_, acc'.toList, c', ?_, ?_⟩), rfl, q _ (I.hok.fresh (Nat.le_refl _))⟩
  · rw [List.length_map, Array.length_toList]; exact hz
  · have el : acc'.toList.length = acc'.size := by simp
    refine vals_of_at (by rw [List.length_map, el, hacc.1, Array.length_toList]) fun j x w h1 h2 => ?_
    obtain ⟨k, y, hky, hi⟩ := hacc.2 j w (by rw [← Array.getElem?_toList]; exact h2)
    rw [List.getElem?_map, Array.getElem?_toList, hky] at h1
    cases h1
    exact ⟨y, hi⟩
  · rw [Array.toArray_toList]; exact hS
theorem vList : VCallF c (fun xs H Q => (∃ p ys, xs = [.ref p] ∧ (SqL c.K H p ys ∨ SqT c.K H p ys) ∧ ∀ l, H l = none → Q (.ref l) (upd H l (.lst ys))) ∨ ∃ z : Str, xs = [.str z] ∧ z.length ≤ sizeLine ∧ ∀ l, H l = none → Q (.ref l) (upd H l (.lst (z.cps.toList.map fun k => V.str ⟨#[k]⟩)))) gList := fun Hs G H σ δ vs ds d S r e Q q => by
  unfold gList at e
  split at e
  · cases e
    obtain ⟨v, rfl, rv⟩ := rpa1 r
    cases rv with
    | @lst a ys _ h1 r1 => exact .inl ⟨a, ys, rfl, .inl (same_l S.sh h1), fun l hl => q l ys Hs _ (Same.refl _) (S.loose hl) (S.loose_of hl) upd_same r1⟩
  · cases e
    obtain ⟨v, rfl, rv⟩ := rpa1 r
    cases rv with
    | @tup a ys _ h1 r1 => exact .inl ⟨a, ys, rfl, .inr (same_t S.sh h1), fun l hl => q l ys Hs _ (Same.refl _) (S.loose hl) (S.loose_of hl) upd_same r1⟩
  · split at e
    · rename_i hz
      cases e
      obtain ⟨v, rfl, rv⟩ := rpa1 r
      cases rv with
      | str _ => exact .inr ⟨_, rfl, Nat.le_trans hz (by decide), fun l hl => q l _ Hs _ (Same.refl _) (S.loose hl) (S.loose_of hl) upd_same (rpa_signs _)⟩
    · cases e
  · cases e
/-- tuple(xs), tuple(t) -/
def gTuple : List D → Option D
  | [.list xs] => some (.tuple xs)
  | [.tuple xs] => some (.tuple xs)
  | _ => none
theorem vTuple : VCall c (fun xs H Q => ∃ p ys, xs = [.ref p] ∧ ((SqL c.K H p ys ∧ ∀ l, H l = none → Q (.ref l) (upd H l (.tup ys))) ∨ (SqT c.K H p ys ∧ Q (.ref p) H))) gTuple := fun Hs G H σ δ vs ds d S r e Q q => by
  unfold gTuple at e
  split at e
  · cases e
    obtain ⟨v, rfl, rv⟩ := rpa1 r
    cases rv with
    | @lst a ys _ h1 r1 => exact ⟨a, ys, rfl, .inl ⟨same_l S.sh h1, fun l hl => q _ (upd Hs l (.tup ys)) _ (same_new (Sat.fresh_s S.toFrm hl)) (S.new hl) (.tup (SqT.of upd_same) (dpa_mono (same_new (Sat.fresh_s S.toFrm hl)) r1))⟩⟩
  · cases e
    obtain ⟨v, rfl, rv⟩ := rpa1 r
    cases rv with
    | @tup a ys _ h1 r1 => exact ⟨a, ys, rfl, .inr ⟨same_t S.sh h1, q _ Hs H (Same.refl _) S (.tup h1 r1)⟩⟩
  · cases e
def gSum : List D → Option D
  | [.list xs] => (intsOf xs).map fun ns => .int ns.sum
  | _ => none
theorem vSum : VCall c (rSum c.K) gSum := VCall.of fun Hs H vs ds d s r e => by
  unfold gSum at e
  split at e
  · obtain ⟨bs, e1, e2⟩ := Option.map_eq_some_iff.mp e
    subst e2
    obtain ⟨v, rfl, rv⟩ := rpa1 r
    cases rv with
    | @lst a ys _ h1 r1 =>
      have z := rpa_intsOf r1 e1
      subst z
      exact ⟨_, .int _, fun Q q => ⟨a, bs, rfl, same_l s h1, q⟩⟩
  · cases e
/-! ### isinstance -/
def tyN : D → String
  | .none => "NoneType" | .bool _ => "bool" | .int _ => "int" | .str _ => "str" | .list _ => "list" | .tuple _ => "tuple" | .dict _ => "dict"
def isiD (d : D) (T : String) : Bool := tyN d == T || (T == "int" && tyN d == "bool")
theorem rp_ty {K : PySem.W.Frag} {H : Hp} {v : V} {d : D} (r : Rp K H v d) : TyX K H v (.type (tyN d)) := by
  cases r with
  | non => exact .base .non
  | bl b => exact .base (.bl b)
  | int b => exact .base (.int b)
  | str b => exact .base (.str b)
  | lst h _ =>
    rcases h with (h | ⟨o, h⟩) | ⟨o, its, n, h, hc, _⟩
    · exact .base (.lst h)
    · exact .base (.frz h)
    · exact .kList h hc
  | tup h _ =>
    rcases h with (h | ⟨o, h⟩) | ⟨o, its, n, h, hc, _⟩
    · exact .base (.tup h)
    · exact .fTuple h
    · exact .kTuple h hc
  | dic h _ _ =>
    rcases h with h | ⟨o, h⟩
    · exact .base (.dK h)
    · exact .fDict h
def eIsi (T : String) (fa : En → Re (D × En)) : En → Re (D × En) := fun δ => (fa δ).bd fun p => .ok (.bool (isiD p.1 T), p.2)
def pIsi (T : String) (fa : En → Re D) : En → Re D := fun δ => (fa δ).bd fun p => .ok (.bool (isiD p T))
theorem eIsi_pu (T : String) (fa : En → Re D) : eIsi T (Pu fa) = Pu (pIsi T fa) := by
  funext δ; unfold eIsi Pu pIsi; cases fa δ <;> rfl
def kitAll (T : String) : Bool := ["NoneType", "bool", "int", "str", "list", "tuple", "dict"].all fun t => decide (kitB t T = some (t == T || (T == "int" && t == "bool")))
theorem kit_all {T : String} (h : kitAll T = true) (d : D) : kitB (tyN d) T = some (isiD d T) := by
  unfold kitAll at h
  have h1 := List.all_eq_true.mp h (tyN d) (by cases d <;> simp [tyN])
  exact of_decide_eq_true h1
theorem same_tyx {K : PySem.W.Frag} {H H' : Hp} {v : V} {d : D} (s : Same H H') (r : Rp K H v d) : TyX K H' v (.type (tyN d)) := rp_ty (dp_mono s r)
theorem de_isi {T : String} {x y : Str} {p p1 : Pos} (ha : PE X a (tD c E fa)) (hT : kitAll T = true) (hK : c.K = X.K) (hg : Gl X x) (hm : X.mg x = none) (hv : bootBuiltins x = some (.builtin "isinstance")) (hg2 : Gl X y) (hm2 : X.mg y = none) (hv2 : bootBuiltins y = some (.type T))
    (hn : x ≠ "__name__" := by decide) (hdb : (x == ("__debug__" : Str)) = false := by decide) (hn2 : y ≠ "__name__" := by decide) (hdb2 : (y == ("__debug__" : Str)) = false := by decide)
    (hs : starEach [a, .Name y p1] X.env = (false, eval a X.env) :: starEach [.Name y p1] X.env := by rfl) (hs2 : starEach [.Name y p1] X.env = (false, eval (.Name y p1) X.env) :: starEach [] X.env := by rfl)
    (hpl : (backTo pos (starEach [.Name y p1] X.env)).any (·.1) = false := by rfl) :
    PE X (.Call (.Name x p) [a, .Name y p1] [] pos) (tD c E (eIsi T fa)) := PE.imp (pe_callB call_isi hg hm hv (pa_cons ha (pa_cons (pe_bltn (v := .ty T) hg2 hm2 hv2 rfl hn2 hdb2) pa_nil hs2) hs) hn hdb hs hpl) fun σ H Q ⟨Hs, G, δ, S, q⟩ =>
  ⟨Hs, G, δ, S, PoG.seq q fun d δ1 Hs1 H1 s1 q1 v S1 r1 => ⟨v, .ty T, .type (tyN d), .type T, isiD d T, rfl, .ty T, by rw [← hK]; exact same_tyx S1.sh r1, kit_ty (kit_all hT d), q1 Hs1 H1 (Same.refl _) _ S1 (.bl _)⟩⟩
end
end DL

/-! DL3: targets, what is walked, comprehensions, statements, loops over data -/
namespace DL
open PySem L2

/-! ### targets -/
/-- d is stored: the names' slots that change are among ts -/
def tG (c : DC) (ts : List Nat) (g : D → En → Option En) : TG := fun v σ H Q => ∃ Hs G δ d δ', Sat c Hs G H σ δ ∧ Rp c.K Hs v d ∧ g d δ = some δ' ∧
  ∀ σ', Sat c Hs G H σ' δ' → (∀ vs : List Nat, (∀ t ∈ ts, t ∈ vs) → wipe σ' vs = wipe σ vs) → Q σ' H
def tGs (c : DC) (ts : List Nat) (g : List D → En → Option En) : TGs := fun v σ H Q => ∃ Hs G δ d δ', Sat c Hs G H σ δ ∧ RpAll c.K Hs v d ∧ g d δ = some δ' ∧
  ∀ σ', Sat c Hs G H σ' δ' → (∀ vs : List Nat, (∀ t ∈ ts, t ∈ vs) → wipe σ' vs = wipe σ vs) → Q σ' H
theorem PG.imp {X : Cx} {e : Expr} {t t' : TG} (h : PG X e t) (w : ∀ v σ H Q, t' v σ H Q → t v σ H Q) : PG X e t' := ⟨fun pins s σ H v u Q I r q => h.run pins s σ H v u Q I r (w v σ H Q q)⟩
theorem PGs.imp {X : Cx} {e : List Expr} {t t' : TGs} (h : PGs X e t) (w : ∀ v σ H Q, t' v σ H Q → t v σ H Q) : PGs X e t' := ⟨fun pins s σ H v u Q I r q => h.run pins s σ H v u Q I r (w v σ H Q q)⟩
theorem wipe_set {i : Nat} {w : Option V} : ∀ {vs : List Nat} {σ : St}, i ∈ vs → wipe (σ.set i w) vs = wipe σ vs
  | v :: vs, σ, h => by
    unfold wipe
    by_cases e : i = v
    · subst e
      have q : ∀ (vs : List Nat) (σ : St), (wipe (σ.set i w) vs).set i none = (wipe σ vs).set i none := by
        intro vs
        induction vs with
        | nil => intro σ; unfold wipe; rw [List.set_set]
        | cons u us ih =>
          intro σ
          unfold wipe
          by_cases e2 : u = i
          · subst e2
            rw [List.set_set, List.set_set]
            exact ih σ
          · rw [List.set_comm _ _ e2, List.set_comm _ _ e2, ih σ]
      exact q vs σ
    · rw [wipe_set (by
        rcases List.mem_cons.mp h with z | z
        · exact absurd z e
        · exact z)]
def gNm (i : Nat) : D → En → Option En := fun d δ => some (δ.set i (.sh d))
def gsNil : List D → En → Option En := fun ds δ => match ds with
  | [] => some δ
  | _ => none
def gsCons (g : D → En → Option En) (gs : List D → En → Option En) : List D → En → Option En := fun ds δ => match ds with
  | d :: r => (g d δ).bind fun δ' => gs r δ'
  | [] => none
def gTp (gs : List D → En → Option En) : D → En → Option En := fun d δ => match d with
  | .tuple ds => gs ds δ
  | _ => none
section
variable {X : Cx} {c : DC} {pos : Pos}
theorem dg_name {i : Nat} {x : Str} (hm : i ∉ c.mi) (hN : X.N.Nodup) (hi : X.N[i]? = some x) (hx : Loc X.env.scope x) (hf : X.fn x = true ∨ X.env.scope.names.lookup x = some .local := by first | exact .inl rfl | exact .inr rfl | assumption) : PG X (.Name x pos) (tG c [i] (gNm i)) :=
  PG.imp (pg_name hN hi hx hf) fun v σ H Q ⟨Hs, G, δ, d, δ', S, r, e, q⟩ => by
    cases e
    exact q _ (S.setSh hm r) fun vs h => wipe_set (h i (by simp))
theorem dgs_nil : PGs X [] (tGs c [] gsNil) := PGs.imp pgs_nil fun v σ H Q ⟨Hs, G, δ, d, δ', S, r, e, q⟩ => by
  cases r with
  | nil => cases e; exact ⟨rfl, q σ S fun _ _ => rfl⟩
  | cons _ _ => cases e
theorem dgs_cons {e : Expr} {es : List Expr} {ts us : List Nat} {g : D → En → Option En} {gs : List D → En → Option En} (h1 : PG X e (tG c ts g)) (h2 : PGs X es (tGs c us gs))
    (hs : (assignEach (e :: es) X.env).map (·.2) = assign e X.env :: (assignEach es X.env).map (·.2) := by rfl) : PGs X (e :: es) (tGs c (ts ++ us) (gsCons g gs)) := PGs.imp (pgs_cons h1 h2 hs) fun v σ H Q ⟨Hs, G, δ, d, δ', S, r, e, q⟩ => by
  cases r with
  | nil => cases e
  | cons r1 r2 =>
    obtain ⟨δ1, e1, e2⟩ := Option.bind_eq_some_iff.mp e
    exact ⟨_, _, rfl, Hs, G, δ, _, δ1, S, r1, e1, fun σ1 S1 w1 => ⟨Hs, G, δ1, _, δ', S1, r2, e2, fun σ2 S2 w2 => q σ2 S2 fun vs h => (w2 vs fun t ht => h t (List.mem_append_right _ ht)).trans (w1 vs fun t ht => h t (List.mem_append_left _ ht))⟩⟩
theorem gs_len {ts : List Nat} {gs : List D → En → Option En} {es : List Expr} : PGs X es (tGs c ts gs) → True := fun _ => trivial
/-- the target's number is told: n -/
def gTpN (n : Nat) (gs : List D → En → Option En) : D → En → Option En := fun d δ => match d with
  | .tuple ds => if ds.length = n then gs ds δ else none
  | .list ds => if ds.length = n then gs ds δ else none
  | _ => none
theorem dg_tup {es : List Expr} {k : Nat} {ts : List Nat} {gs : List D → En → Option En} {n : Nat} (hK : c.K = X.K) (hc : X.calm = true) (h : PGs X es (tGs c ts gs))
    (hn : (assignEach es X.env).length = n := by rfl) (hst : (assignEach es X.env).findIdx? (·.1) = none := by rfl) : PG X (.Tuple es k pos) (tG c ts (gTpN n gs)) := ⟨fun pins s σ H v u Q I rv ⟨Hs, G, δ, d, δ', S, r, e, q⟩ => by
  cases r with
  | @tup a xs ds h1 r1 =>
    unfold gTpN at e
    simp only at e
    split at e
    · rename_i hl
      exact (pg_tup hc h hn hst).run pins s σ H _ _ Q I rv ⟨a, xs, rfl, by rw [← hK]; exact same_t S.sh h1, by rw [dpa_len r1]; exact hl, Hs, G, δ, ds, δ', S, r1, e, q⟩
    · cases e
  | @lst a xs ds h1 r1 =>
    unfold gTpN at e
    simp only at e
    split at e
    · rename_i hl
      exact (pg_lst hc h hn hst).run pins s σ H _ _ Q I rv ⟨a, xs, rfl, by rw [← hK]; exact same_l S.sh h1, by rw [dpa_len r1]; exact hl, Hs, G, δ, ds, δ', S, r1, e, q⟩
    · cases e
  | _ => cases e⟩

/-! ### what is walked -/
/-- the iterator gives the items ds one after another, whatever the frame is -/
def ItD (c : DC) (J : It) (H0 : Hp) (ds : List D) : Prop := ∀ (Hs G H : Hp) (σ : St) (δ : En), Same H0 Hs → Sat c Hs G H σ δ →
  (∀ (i : Nat) (d : D), ds[i]? = some d → J.go i H ∧ ∀ x H', J.yld i H x H' → ∃ Hs', Same Hs Hs' ∧ Sat c Hs' G H' σ δ ∧ Rp c.K Hs' x d) ∧ ∀ i, ds.length ≤ i → J.stop i H
def tI (c : DC) (E : XK) (f : En → Re (List D × En)) : TI := fun σ H R => ∃ Hs G δ, Sat c Hs G H σ δ ∧
  PoG c E Hs G (fun ds δ' Hs' H' => ∀ J, Sat c Hs' G H' σ δ' → ItD c J Hs' ds → R J H') (f δ)
theorem PI.imp {X : Cx} {tg e : Expr} {t t' : TI} (h : PI X tg e t) (w : ∀ σ H Q, t' σ H Q → t σ H Q) : PI X tg e t' := ⟨fun pins s σ H Q I q => h.run pins s σ H Q I (w σ H Q q)⟩
variable {E : XK} {tg e e2 : Expr} {fa : En → Re (D × En)} {fr : En → Re (List D × En)}
theorem sql_same {K : PySem.W.Frag} {H : Hp} {a : Addr} {xs ys : List V} (h : H a = some (.lst xs)) (h' : SqL K H a ys) (hk : K.lookup a = none ∨ True) : Rd H a (.lst ys) → ys = xs := fun r => by
  rcases r with r | ⟨o, r⟩
  · rw [h] at r; cases r; rfl
  · rw [h] at r; cases r
/-- for x in e, e a list -/
def eLi (fa : En → Re (D × En)) : En → Re (List D × En) := fun δ => (fa δ).bd fun p => match p.1 with
  | .list ds => .ok (ds, p.2)
  | _ => .bad
def pLi (fa : En → Re D) : En → Re (List D) := fun δ => (fa δ).bd fun p => match p with
  | .list ds => .ok ds
  | _ => .bad
theorem eLi_pu (f : En → Re D) : eLi (Pu f) = Pu (pLi f) := by
  funext δ; unfold eLi Pu pLi
  cases f δ with
  | ok x => cases x <;> rfl
  | _ => rfl
theorem itd_list {a : Addr} {xs : List V} {ds : List D} {Hs : Hp} (h1 : SqL c.K Hs a xs) (r1 : RpAll c.K Hs xs ds) : ItD c (Itl c.K a) Hs ds := fun Hs2 G H σ δ s S => by
  have h2 : SqL c.K H a xs := same_l S.sh (same_l s h1)
  refine ⟨fun i d hi => ?_, fun i hi => ⟨xs, h2, by rw [dpa_len r1]; exact hi⟩⟩
  obtain ⟨v, hv, rv⟩ := dpa_get r1 hi
  refine ⟨⟨xs, v, h2, hv⟩, fun x H' y => ?_⟩
  obtain ⟨e, y⟩ := y
  subst e
  have := y xs (h2)
  rw [hv] at this
  cases this
  exact ⟨Hs2, Same.refl _, S, dp_mono s rv⟩
theorem itd_tup {a : Addr} {xs : List V} {ds : List D} {Hs : Hp} (h1 : SqT c.K Hs a xs) (r1 : RpAll c.K Hs xs ds) : ItD c (Itt c.K a) Hs ds := fun Hs2 G H σ δ s S => by
  have h2 : SqT c.K H a xs := same_t S.sh (same_t s h1)
  refine ⟨fun i d hi => ?_, fun i hi => ⟨xs, h2, by rw [dpa_len r1]; exact hi⟩⟩
  obtain ⟨v, hv, rv⟩ := dpa_get r1 hi
  refine ⟨⟨xs, v, h2, hv⟩, fun x H' y => ?_⟩
  obtain ⟨e, y⟩ := y
  subst e
  have := y xs h2
  rw [hv] at this
  cases this
  exact ⟨Hs2, Same.refl _, S, dp_mono s rv⟩
theorem di_list (hK : c.K = X.K) (ha : PE X e (tD c E fa)) : PI X tg e (tI c E (eLi fa)) := PI.imp (pi_list ha) fun σ H R ⟨Hs, G, δ, S, q⟩ =>
  ⟨Hs, G, δ, S, PoG.seq q fun d δ1 Hs1 H1 s1 q1 v S1 r1 => by
    cases r1 with
    | @lst a xs ds h1 r1 => exact ⟨a, rfl, ⟨xs, (hK ▸ same_l S1.sh h1)⟩, by rw [← hK]; exact q1 Hs1 H1 (Same.refl _) _ S1 (itd_list h1 r1)⟩
    | _ => exact False.elim q1⟩
/-- a tuple -/
def eTi (fa : En → Re (D × En)) : En → Re (List D × En) := fun δ => (fa δ).bd fun p => match p.1 with
  | .tuple ds => .ok (ds, p.2)
  | _ => .bad
def pTi (fa : En → Re D) : En → Re (List D) := fun δ => (fa δ).bd fun p => match p with
  | .tuple ds => .ok ds
  | _ => .bad
theorem eTi_pu (f : En → Re D) : eTi (Pu f) = Pu (pTi f) := by
  funext δ; unfold eTi Pu pTi
  cases f δ with
  | ok x => cases x <;> rfl
  | _ => rfl
theorem di_tup (hK : c.K = X.K) (ha : PE X e (tD c E fa)) : PI X tg e (tI c E (eTi fa)) := PI.imp (pi_tup ha) fun σ H R ⟨Hs, G, δ, S, q⟩ =>
  ⟨Hs, G, δ, S, PoG.seq q fun d δ1 Hs1 H1 s1 q1 v S1 r1 => by
    cases r1 with
    | @tup a xs ds h1 r1 => exact ⟨a, rfl, ⟨xs, by rw [← hK]; exact same_t S1.sh h1⟩, by rw [← hK]; exact q1 Hs1 H1 (Same.refl _) _ S1 (itd_tup h1 r1)⟩
    | _ => exact False.elim q1⟩
/-- a text, sign by sign -/
def eSi (fa : En → Re (D × En)) : En → Re (List D × En) := fun δ => (fa δ).bd fun p => match p.1 with
  | .str z => .ok (z.cps.toList.map fun k => .str ⟨#[k]⟩, p.2)
  | _ => .bad
def pSi (fa : En → Re D) : En → Re (List D) := fun δ => (fa δ).bd fun p => match p with
  | .str z => .ok (z.cps.toList.map fun k => .str ⟨#[k]⟩)
  | _ => .bad
theorem eSi_pu (f : En → Re D) : eSi (Pu f) = Pu (pSi f) := by
  funext δ; unfold eSi Pu pSi
  cases f δ with
  | ok x => cases x <;> rfl
  | _ => rfl
theorem di_str (ha : PE X e (tD c E fa)) : PI X tg e (tI c E (eSi fa)) := PI.imp (pi_str ha) fun σ H R ⟨Hs, G, δ, S, q⟩ =>
  ⟨Hs, G, δ, S, PoG.seq q fun d δ1 Hs1 H1 s1 q1 v S1 r1 => by
    cases r1 with
    | str z =>
      refine ⟨z, rfl, q1 Hs1 H1 (Same.refl _) _ S1 fun Hs2 G2 H2 σ2 δ2 s2 S2 => ⟨fun i d hi => ?_, fun i hi => ?_⟩⟩
      · rw [List.getElem?_map] at hi
        obtain ⟨k, hk, hd⟩ := Option.map_eq_some_iff.mp hi
        subst hd
        have hk' : z.cps[i]? = some k := by simpa using hk
        refine ⟨(Array.getElem?_eq_some_iff.mp hk').1, fun x H' y => ?_⟩
        obtain ⟨e, k2, h2, h3⟩ := y
        subst e h3
        rw [hk'] at h2
        cases h2
        exact ⟨Hs2, Same.refl _, S2, .str _⟩
      · show z.cps.size ≤ i
        simpa using hi
    | _ => exact False.elim q1⟩
/-- range(n), range(a, b) -/
def rgD (i j : Int) : List D := (List.range (j - i).toNat).map fun k => .int (i + (k : Nat))
def gRg1 : List D → Option (List D)
  | [.int j] => if j < 2 ^ 62 ∧ -(2 ^ 62) ≤ j then some (rgD 0 j) else none
  | _ => none
def gRg2 : List D → Option (List D)
  | [.int i, .int j] => if (j < 2 ^ 62 ∧ -(2 ^ 62) ≤ j) ∧ (i < 2 ^ 62 ∧ -(2 ^ 62) ≤ i) then some (rgD i j) else none
  | _ => none
/-- range(a, b, -1) -/
def rgDn (i j : Int) : List D := (List.range (i - j).toNat).map fun k => .int (i + (k : Nat) * -1)
def gRg3 : List D → Option (List D)
  | [.int i, .int j, .int s] => if s = -1 ∧ (j < 2 ^ 62 ∧ -(2 ^ 62) ≤ j) ∧ (i < 2 ^ 62 ∧ -(2 ^ 62) ≤ i) then some (rgDn i j) else none
  | _ => none
theorem gRg1_inv {ds r : List D} (h : gRg1 ds = some r) : ∃ j, ds = [.int j] ∧ (j < 2 ^ 62 ∧ -(2 ^ 62) ≤ j) ∧ r = rgD 0 j := by
  unfold gRg1 at h
  split at h
  · split at h
    · rename_i j hj; cases h; exact ⟨j, rfl, hj, rfl⟩
    · cases h
  · cases h
theorem gRg2_inv {ds r : List D} (h : gRg2 ds = some r) : ∃ i j, ds = [.int i, .int j] ∧ ((j < 2 ^ 62 ∧ -(2 ^ 62) ≤ j) ∧ (i < 2 ^ 62 ∧ -(2 ^ 62) ≤ i)) ∧ r = rgD i j := by
  unfold gRg2 at h
  split at h
  · split at h
    · rename_i i j hj; cases h; exact ⟨i, j, rfl, hj, rfl⟩
    · cases h
  · cases h
theorem gRg3_inv {ds r : List D} (h : gRg3 ds = some r) : ∃ i j, ds = [.int i, .int j, .int (-1)] ∧ ((j < 2 ^ 62 ∧ -(2 ^ 62) ≤ j) ∧ (i < 2 ^ 62 ∧ -(2 ^ 62) ≤ i)) ∧ r = rgDn i j := by
  unfold gRg3 at h
  split at h
  · split at h
    · rename_i i j s hj
      cases h
      obtain ⟨rfl, h2⟩ := hj
      exact ⟨i, j, rfl, h2, rfl⟩
    · cases h
  · cases h
theorem itd_rg {i j : Int} {Hs : Hp} {n : Nat} (hn : n = (j - i).toNat) : ItD c (Itr i n) Hs (rgD i j) := fun Hs2 G H σ δ s S => by
  refine ⟨fun k d hk => ?_, fun k hk => ?_⟩
  · unfold rgD at hk
    rw [List.getElem?_map] at hk
    obtain ⟨m, hm, hd⟩ := Option.map_eq_some_iff.mp hk
    subst hd
    obtain ⟨hlt, e2⟩ := List.getElem?_eq_some_iff.mp hm
    have e3 : k = m := by simpa using e2
    subst e3
    refine ⟨?_, fun x H' y => ?_⟩
    · show k < n
      rw [List.length_range] at hlt
      omega
    obtain ⟨e, y⟩ := y
    subst e y
    exact ⟨Hs2, Same.refl _, S, .int _⟩
  · show n ≤ k
    unfold rgD at hk
    rw [List.length_map, List.length_range] at hk
    omega
theorem itd_rgn {i j : Int} {Hs : Hp} {n : Nat} (hn : n = (i - j).toNat) : ItD c (Itc i (-1) n) Hs (rgDn i j) := fun Hs2 G H σ δ s S => by
  refine ⟨fun k d hk => ?_, fun k hk => ?_⟩
  · unfold rgDn at hk
    rw [List.getElem?_map] at hk
    obtain ⟨m, hm, hd⟩ := Option.map_eq_some_iff.mp hk
    subst hd
    obtain ⟨hlt, e2⟩ := List.getElem?_eq_some_iff.mp hm
    have e3 : k = m := by simpa using e2
    subst e3
    refine ⟨?_, fun x H' y => ?_⟩
    · show k < n
      rw [List.length_range] at hlt
      omega
    obtain ⟨e, y⟩ := y
    subst e y
    exact ⟨Hs2, Same.refl _, S, .int _⟩
  · show n ≤ k
    unfold rgDn at hk
    rw [List.length_map, List.length_range] at hk
    omega
theorem di_range1 {p pos : Pos} (hg : Gl X "range") (hm : X.mg "range" = none) (ha : PA X [e] (tA c E fr)) (hs : starEach [e] X.env = [(false, eval e X.env)] := by rfl) : PI X tg (.Call (.Name "range" p) [e] [] pos) (tI c E (eCa gRg1 fr)) := PI.imp (pi_range1 hg hm ha hs) fun σ H R ⟨Hs, G, δ, S, q⟩ =>
  ⟨Hs, G, δ, S, PoG.seq q fun ds δ1 Hs1 H1 s1 q1 vs S1 r1 => by
    obtain ⟨d, hd, q2⟩ := PoG.last (k := fun d => (d, δ1)) q1
    obtain ⟨j, rfl, hj, rfl⟩ := gRg1_inv hd
    obtain ⟨v, rfl, rv⟩ := rpa1 r1
    cases rv
    exact ⟨j, rfl, hj.2, hj.1, q2 Hs1 H1 (Same.refl _) _ S1 (itd_rg (by rw [Int.sub_zero]))⟩⟩
theorem di_range2 {p pos : Pos} (hg : Gl X "range") (hm : X.mg "range" = none) (ha : PA X [e, e2] (tA c E fr)) (hs : starEach [e, e2] X.env = [(false, eval e X.env), (false, eval e2 X.env)] := by rfl) (hs2 : starEach [e2] X.env = [(false, eval e2 X.env)] := by rfl) : PI X tg (.Call (.Name "range" p) [e, e2] [] pos) (tI c E (eCa gRg2 fr)) := PI.imp (pi_range2 hg hm ha hs hs2) fun σ H R ⟨Hs, G, δ, S, q⟩ =>
  ⟨Hs, G, δ, S, PoG.seq q fun ds δ1 Hs1 H1 s1 q1 vs S1 r1 => by
    obtain ⟨d, hd, q2⟩ := PoG.last (k := fun d => (d, δ1)) q1
    obtain ⟨i, j, rfl, hj, rfl⟩ := gRg2_inv hd
    obtain ⟨v, w', rfl, rv, rw'⟩ := rpa2 r1
    cases rv
    cases rw'
    exact ⟨i, j, rfl, ⟨hj.2.2, hj.2.1, hj.1.2, hj.1.1⟩, q2 Hs1 H1 (Same.refl _) _ S1 (itd_rg rfl)⟩⟩
theorem rpa3 {K : PySem.W.Frag} {H : Hp} {vs : List V} {d e f : D} (r : RpAll K H vs [d, e, f]) : ∃ v w u, vs = [v, w, u] ∧ Rp K H v d ∧ Rp K H w e ∧ Rp K H u f := by
  cases r with
  | cons h t => cases t with
    | cons h2 t2 => cases t2 with
      | cons h3 t3 => cases t3; exact ⟨_, _, _, rfl, h, h2, h3⟩
theorem di_range3 {e3 : Expr} {p pos : Pos} (hg : Gl X "range") (hm : X.mg "range" = none) (ha : PA X [e, e2, e3] (tA c E fr)) (hs : starEach [e, e2, e3] X.env = (false, eval e X.env) :: starEach [e2, e3] X.env := by rfl) (hpl : (backTo pos (starEach [e2, e3] X.env)).any (·.1) = false := by rfl) : PI X tg (.Call (.Name "range" p) [e, e2, e3] [] pos) (tI c E (eCa gRg3 fr)) := PI.imp (pi_range3 hg hm ha hs hpl) fun σ H R ⟨Hs, G, δ, S, q⟩ =>
  ⟨Hs, G, δ, S, PoG.seq q fun ds δ1 Hs1 H1 s1 q1 vs S1 r1 => by
    obtain ⟨d, hd, q2⟩ := PoG.last (k := fun d => (d, δ1)) q1
    obtain ⟨i, j, rfl, hj, rfl⟩ := gRg3_inv hd
    obtain ⟨v, w', u, rfl, rv, rw', ru⟩ := rpa3 r1
    cases rv
    cases rw'
    cases ru
    exact ⟨i, j, -1, _, rfl, RgC.neg hj.2.2 hj.2.1 hj.1.2 hj.1.1, q2 Hs1 H1 (Same.refl _) _ S1 (itd_rgn rfl)⟩⟩
/-- zip of two lists, enumerate, reversed of a list -/
def gZip : List D → Option (List D)
  | [.list xs, .list ys] => some (List.zipWith (fun x y => .tuple [x, y]) xs ys)
  | _ => none
def gEnum : List D → Option (List D)
  | [.list xs] => some (xs.mapIdx fun i x => .tuple [.int (i : Nat), x])
  | _ => none
def gRevd : List D → Option (List D)
  | [.list xs] => some xs.reverse
  | _ => none
theorem gZip_inv {ds r : List D} (h : gZip ds = some r) : ∃ xs ys, ds = [.list xs, .list ys] ∧ r = List.zipWith (fun x y => .tuple [x, y]) xs ys := by
  unfold gZip at h
  split at h
  · cases h; exact ⟨_, _, rfl, rfl⟩
  · cases h
theorem gEnum_inv {ds r : List D} (h : gEnum ds = some r) : ∃ xs, ds = [.list xs] ∧ r = xs.mapIdx fun i x => .tuple [.int (i : Nat), x] := by
  unfold gEnum at h
  split at h
  · cases h; exact ⟨_, rfl, rfl⟩
  · cases h
theorem gRevd_inv {ds r : List D} (h : gRevd ds = some r) : ∃ xs, ds = [.list xs] ∧ r = xs.reverse := by
  unfold gRevd at h
  split at h
  · cases h; exact ⟨_, rfl, rfl⟩
  · cases h
theorem di_zip {p pos tpos : Pos} {elts : List Expr} {kk : Nat} (hK : c.K = X.K) (hg : Gl X "zip") (hm : X.mg "zip" = none) (ha : PA X [e, e2] (tA c E fr)) (hs : starEach [e, e2] X.env = (false, eval e X.env) :: starEach [e2] X.env := by rfl) (hpl : (backTo pos (starEach [e2] X.env)).any (·.1) = false := by rfl) :
    PI X (.Tuple elts kk tpos) (.Call (.Name "zip" p) [e, e2] [] pos) (tI c E (eCa gZip fr)) := PI.imp (pi_zip hg hm ha hs hpl) fun σ H R ⟨Hs, G, δ, S, q⟩ =>
  ⟨Hs, G, δ, S, PoG.seq q fun ds δ1 Hs1 H1 s1 q1 vs S1 r1 => by
    obtain ⟨d, hd, q2⟩ := PoG.last (k := fun d => (d, δ1)) q1
    obtain ⟨xs0, ys0, rfl, rfl⟩ := gZip_inv hd
    obtain ⟨v, w', rfl, rv, rw'⟩ := rpa2 r1
    cases rv with
    | @lst a xs _ h1 q9 => cases rw' with
      | @lst b ys _ h2 r2 =>
        refine ⟨a, b, xs, ys, rfl, (hK ▸ same_l S1.sh h1), (hK ▸ same_l S1.sh h2), q2 Hs1 H1 (Same.refl _) _ S1 fun Hs2 G2 H2 σ2 δ2 s2 S2 => ⟨fun i d hi => ?_, fun i hi => ?_⟩⟩
        · rw [List.getElem?_zipWith] at hi
          split at hi
          · rename_i x y ex ey
            cases hi
            obtain ⟨vx, hvx, rx⟩ := dpa_get q9 ex
            obtain ⟨vy, hvy, ry⟩ := dpa_get r2 ey
            have g1 : SqL X.K H2 a xs := (hK ▸ same_l S2.sh (same_l s2 h1))
            have g2 : SqL X.K H2 b ys := (hK ▸ same_l S2.sh (same_l s2 h2))
            refine ⟨⟨xs, ys, vx, vy, g1, g2, hvx, hvy⟩, fun z H' y => ?_⟩
            obtain ⟨T, x1, y1, rfl, hT, rfl, p1, p2⟩ := y
            have e1 := p1 xs g1
            have e2 := p2 ys g2
            rw [hvx] at e1
            rw [hvy] at e2
            cases e1
            cases e2
            have f := Sat.fresh_s S2.toFrm hT
            exact ⟨upd Hs2 T (.tup [vx, vy]), same_new f, S2.new hT, .tup (SqT.of upd_same) (.cons (dp_mono (s2.trans (same_new f)) rx) (.cons (dp_mono (s2.trans (same_new f)) ry) .nil))⟩
          · cases hi
        · refine ⟨xs, ys, (hK ▸ same_l S2.sh (same_l s2 h1)), (hK ▸ same_l S2.sh (same_l s2 h2)), ?_⟩
          rw [List.length_zipWith] at hi
          rw [dpa_len q9, dpa_len r2]
          omega⟩
theorem di_enum {p pos tpos : Pos} {elts : List Expr} {kk : Nat} (hK : c.K = X.K) (hg : Gl X "enumerate") (hm : X.mg "enumerate" = none) (ha : PA X [e] (tA c E fr)) (hs : starEach [e] X.env = [(false, eval e X.env)] := by rfl) :
    PI X (.Tuple elts kk tpos) (.Call (.Name "enumerate" p) [e] [] pos) (tI c E (eCa gEnum fr)) := PI.imp (pi_enum hg hm ha hs) fun σ H R ⟨Hs, G, δ, S, q⟩ =>
  ⟨Hs, G, δ, S, PoG.seq q fun ds δ1 Hs1 H1 s1 q1 vs S1 r1 => by
    obtain ⟨d, hd, q2⟩ := PoG.last (k := fun d => (d, δ1)) q1
    obtain ⟨xs0, rfl, rfl⟩ := gEnum_inv hd
    obtain ⟨v, rfl, rv⟩ := rpa1 r1
    cases rv with
    | @lst a xs _ h1 q9 =>
      refine ⟨a, xs, rfl, (hK ▸ same_l S1.sh h1), q2 Hs1 H1 (Same.refl _) _ S1 fun Hs2 G2 H2 σ2 δ2 s2 S2 => ⟨fun i d hi => ?_, fun i hi => ?_⟩⟩
      · rw [List.getElem?_mapIdx] at hi
        obtain ⟨x, ex, ed⟩ := Option.map_eq_some_iff.mp hi
        subst ed
        obtain ⟨vx, hvx, rx⟩ := dpa_get q9 ex
        have g1 : SqL X.K H2 a xs := (hK ▸ same_l S2.sh (same_l s2 h1))
        refine ⟨⟨xs, vx, g1, hvx⟩, fun z H' y => ?_⟩
        obtain ⟨T, x1, rfl, hT, rfl, p1⟩ := y
        have e1 := p1 xs g1
        rw [hvx] at e1
        cases e1
        have f := Sat.fresh_s S2.toFrm hT
        exact ⟨upd Hs2 T (.tup [.int (i : Nat), vx]), same_new f, S2.new hT, .tup (SqT.of upd_same) (.cons (.int _) (.cons (dp_mono (s2.trans (same_new f)) rx) .nil))⟩
      · refine ⟨xs, (hK ▸ same_l S2.sh (same_l s2 h1)), ?_⟩
        rw [List.length_mapIdx] at hi
        rw [dpa_len q9]
        exact hi⟩
theorem di_rev {p pos : Pos} (hK : c.K = X.K) (hg : Gl X "reversed") (hm : X.mg "reversed" = none) (ha : PA X [e] (tA c E fr)) (hs : starEach [e] X.env = [(false, eval e X.env)] := by rfl) :
    PI X tg (.Call (.Name "reversed" p) [e] [] pos) (tI c E (eCa gRevd fr)) := PI.imp (pi_reversed hg hm ha hs) fun σ H R ⟨Hs, G, δ, S, q⟩ =>
  ⟨Hs, G, δ, S, PoG.seq q fun ds δ1 Hs1 H1 s1 q1 vs S1 r1 => by
    obtain ⟨d, hd, q2⟩ := PoG.last (k := fun d => (d, δ1)) q1
    obtain ⟨xs0, rfl, rfl⟩ := gRevd_inv hd
    obtain ⟨v, rfl, rv⟩ := rpa1 r1
    cases rv with
    | @lst a xs _ h1 q9 =>
      refine ⟨a, xs, rfl, (hK ▸ same_l S1.sh h1), q2 Hs1 H1 (Same.refl _) _ S1 fun Hs2 G2 H2 σ2 δ2 s2 S2 => ⟨fun i d hi => ?_, fun i hi => ?_⟩⟩
      · obtain ⟨hlt, _⟩ := List.getElem?_eq_some_iff.mp hi
        rw [List.length_reverse] at hlt
        rw [List.getElem?_reverse hlt] at hi
        obtain ⟨vx, hvx, rx⟩ := dpa_get q9 hi
        have g1 : SqL X.K H2 a xs := (hK ▸ same_l S2.sh (same_l s2 h1))
        rw [← dpa_len q9] at hvx hlt
        refine ⟨⟨hlt, xs, vx, g1, hvx⟩, fun z H' y => ?_⟩
        obtain ⟨rfl, p1⟩ := y
        have e1 := p1 xs g1
        rw [hvx] at e1
        cases e1
        exact ⟨Hs2, Same.refl _, S2, dp_mono s2 rx⟩
      · show xs.length ≤ i
        rw [List.length_reverse] at hi
        rw [dpa_len q9]
        exact hi⟩
end
end DL

/-! DL4: comprehensions -/
namespace DL
open PySem L2

/-- slots forgotten, slots as they were -/
def wp (δ : En) : List Nat → En
  | [] => δ
  | v :: vs => (wp δ vs).set v .no
def chk (δ : En) (vs : List Nat) : Bool := vs.all fun i => match δ[i]? with
  | some (.sh _) => true
  | some .no => true
  | _ => false
def rs (δ0 : En) : En → List Nat → En
  | δ, [] => δ
  | δ, v :: vs => rs δ0 (δ.set v (δ0.getD v .no)) vs

theorem wp_set {i : Nat} {s : Sl} : ∀ {vs : List Nat} {δ : En}, i ∈ vs → wp (δ.set i s) vs = wp δ vs
  | v :: vs, δ, h => by
    unfold wp
    by_cases e : i = v
    · subst e
      have q : ∀ (vs : List Nat) (δ : En), (wp (δ.set i s) vs).set i .no = (wp δ vs).set i .no := by
        intro vs
        induction vs with
        | nil => intro δ; unfold wp; rw [List.set_set]
        | cons u us ih =>
          intro δ
          unfold wp
          by_cases e2 : u = i
          · subst e2
            rw [List.set_set, List.set_set]
            exact ih δ
          · rw [List.set_comm _ _ e2, List.set_comm _ _ e2, ih δ]
      exact q vs δ
    · rw [wp_set (by
        rcases List.mem_cons.mp h with z | z
        · exact absurd z e
        · exact z)]
theorem wp_len (δ : En) : ∀ vs : List Nat, (wp δ vs).length = δ.length
  | [] => rfl
  | v :: vs => by unfold wp; rw [List.length_set, wp_len δ vs]
theorem wp_out {i : Nat} (δ : En) : ∀ {vs : List Nat}, i ∉ vs → (wp δ vs)[i]? = δ[i]?
  | [], _ => rfl
  | v :: vs, h => by
    unfold wp
    rw [List.getElem?_set_ne (by rintro rfl; exact h List.mem_cons_self)]
    exact wp_out δ fun z => h (List.mem_cons_of_mem _ z)
theorem wp_subset {ws : List Nat} : ∀ {vs : List Nat} {δ : En}, (∀ v ∈ vs, v ∈ ws) → wp (wp δ vs) ws = wp δ ws
  | [], δ, _ => rfl
  | v :: vs, δ, h => by
    show wp ((wp δ vs).set v .no) ws = wp δ ws
    rw [wp_set (h v List.mem_cons_self)]
    exact wp_subset fun u hu => h u (List.mem_cons_of_mem _ hu)
theorem wp_idem (δ : En) (vs : List Nat) : wp (wp δ vs) vs = wp δ vs := wp_subset fun _ h => h
theorem wipe_subset {ws : List Nat} : ∀ {vs : List Nat} {σ : St}, (∀ v ∈ vs, v ∈ ws) → wipe (wipe σ vs) ws = wipe σ ws
  | [], σ, _ => rfl
  | v :: vs, σ, h => by
    show wipe ((wipe σ vs).set v none) ws = wipe σ ws
    rw [wipe_set (h v List.mem_cons_self)]
    exact wipe_subset fun u hu => h u (List.mem_cons_of_mem _ hu)
theorem wipe_idem (σ : St) (vs : List Nat) : wipe (wipe σ vs) vs = wipe σ vs := wipe_subset fun _ h => h
theorem rs_len (δ0 : En) : ∀ (vs : List Nat) (δ : En), (rs δ0 δ vs).length = δ.length
  | [], _ => rfl
  | v :: vs, δ => by unfold rs; rw [rs_len δ0 vs, List.length_set]
theorem rs_out {i : Nat} (δ0 : En) : ∀ {vs : List Nat} {δ : En}, i ∉ vs → (rs δ0 δ vs)[i]? = δ[i]?
  | [], _, _ => rfl
  | v :: vs, δ, h => by
    unfold rs
    rw [rs_out δ0 fun z => h (List.mem_cons_of_mem _ z), List.getElem?_set_ne (by rintro rfl; exact h List.mem_cons_self)]
theorem rs_in {i : Nat} (δ0 : En) : ∀ {vs : List Nat} {δ : En}, i ∈ vs → i < δ.length → (rs δ0 δ vs)[i]? = some (δ0.getD i .no)
  | v :: vs, δ, h, hl => by
    unfold rs
    by_cases hv : i ∈ vs
    · exact rs_in δ0 hv (by rw [List.length_set]; exact hl)
    · have e : i = v := by
        rcases List.mem_cons.mp h with z | z
        · exact z
        · exact absurd z hv
      subst e
      rw [rs_out δ0 hv, List.getElem?_set_self hl]
theorem rs_wp (δ : En) (vs : List Nat) : rs δ (wp δ vs) vs = δ := by
  apply List.ext_getElem?
  intro i
  by_cases h : i ∈ vs
  · by_cases hl : i < δ.length
    · rw [rs_in δ h (by rw [wp_len]; exact hl)]
      rw [List.getElem?_eq_getElem hl]
      simp [hl]
    · rw [List.getElem?_eq_none (by rw [rs_len, wp_len]; omega), List.getElem?_eq_none (by omega)]
  · rw [rs_out δ h, wp_out δ h]

section
variable {c : DC} {Hs Hs' G G' H H' : Hp} {σ : St} {δ : En}
theorem Sat.wipe (S : Sat c Hs G H σ δ) : ∀ {vs : List Nat}, (∀ v ∈ vs, v ∉ c.mi) → Sat c Hs G H (L2.wipe σ vs) (wp δ vs)
  | [], _ => S
  | v :: vs, h => (Sat.wipe S fun u hu => h u (List.mem_cons_of_mem _ hu)).setNo (h v List.mem_cons_self)
theorem Sat.weakG (S : Sat c Hs G' H σ δ) (e : Same G G') : Sat c Hs G H σ δ :=
  S.keep ⟨S.bs, S.sh, e.trans S.gm, S.nw, S.hin, fun a o o' q q' => S.gs a o o' (e a o q) q'⟩ (Same.refl _) (fun _ _ _ _ _ _ q => q) (fun j s b hj f => (foot_own (S.sl j s hj) f).1.1) fun j s b hj f => by
    cases q : G b with
    | none => rfl
    | some o =>
      have := (foot_own (S.sl j s hj) f).1.2.1
      rw [e b o q] at this
      cases this
/-- a slot as it was: nothing or stable data -/
theorem Sat.unset {v : Nat} {s : Sl} (S : Sat c Hs G H (σ.set v none) δ) (hv : v ∉ c.mi) (ok : SlOk c Hs G H v σ[v]? s) (hs : ∀ w a, Foot H w s a → False) : Sat c Hs G H σ (δ.set v s) := by
  by_cases hl : v < σ.length
  · have e : (σ.set v none).set v σ[v] = σ := by rw [List.set_set, List.set_getElem_self]
    rw [List.getElem?_eq_getElem hl] at ok
    have q := S.setAny (v := σ[v]) hv ok fun j t b _ f _ => hs _ _ f
    rw [e] at q
    exact q
  · have e1 : σ.set v none = σ := List.set_eq_of_length_le (by omega)
    rw [e1] at S
    rw [List.set_eq_of_length_le (by rw [S.ln]; omega)]
    exact S
theorem chk_at {δ0 : En} {vs : List Nat} {v : Nat} (h : chk δ0 vs = true) (hv : v ∈ vs) : δ0[v]? = some .no ∨ ∃ d, δ0[v]? = some (.sh d) := by
  have q := List.all_eq_true.mp h v hv
  cases e : δ0[v]? with
  | none => rw [e] at q; cases q
  | some s =>
    rw [e] at q
    cases s with
    | no => exact .inl rfl
    | sh d => exact .inr ⟨d, rfl⟩
    | _ => cases q
theorem Sat.unwipe {Hs0 G0 H0 : Hp} {δ0 : En} (S0 : Sat c Hs0 G0 H0 σ δ0) (e : Same Hs0 Hs) : ∀ {vs : List Nat} {δ : En}, vs.Nodup → chk δ0 vs = true → (∀ v ∈ vs, v ∉ c.mi) → Sat c Hs G H (L2.wipe σ vs) δ → Sat c Hs G H σ (rs δ0 δ vs)
  | [], _, _, _, _, S => S
  | v :: vs, δ, nd, ck, hm, S => by
    have nd' := List.nodup_cons.mp nd
    have hw : (L2.wipe σ vs)[v]? = σ[v]? := by
      have : ∀ {us : List Nat}, v ∉ us → (L2.wipe σ us)[v]? = σ[v]? := by
        intro us
        induction us with
        | nil => intro _; rfl
        | cons u us ih =>
          intro h
          unfold L2.wipe
          rw [List.getElem?_set_ne (by rintro rfl; exact h List.mem_cons_self)]
          exact ih fun z => h (List.mem_cons_of_mem _ z)
      exact this nd'.1
    have S2 : Sat c Hs G H (L2.wipe σ vs) (δ.set v (δ0.getD v .no)) := by
      refine Sat.unset S (hm v List.mem_cons_self) ?_ ?_
      · rw [hw]
        rcases chk_at ck List.mem_cons_self with q | ⟨d, q⟩
        · rw [List.getD_eq_getElem?_getD, q]; trivial
        · rw [List.getD_eq_getElem?_getD, q]
          obtain ⟨x, e1, r⟩ := S0.sl v _ q
          exact ⟨x, e1, dp_mono e r⟩
      · intro w a f
        rcases chk_at ck List.mem_cons_self with q | ⟨d, q⟩
        · rw [List.getD_eq_getElem?_getD, q] at f; exact foot_no f
        · rw [List.getD_eq_getElem?_getD, q] at f; exact foot_sh f
    refine Sat.unwipe S0 e (vs := vs) nd'.2 ?_ (fun u hu => hm u (List.mem_cons_of_mem _ hu)) S2
    unfold chk at ck ⊢
    rw [List.all_cons, Bool.and_eq_true] at ck
    exact ck.2
/-- a hidden object changes -/
theorem Sat.regrow {p : Addr} {o o' : HO} (S : Sat c Hs G H σ δ) (hg : G p = some o) (hi : c.Hin p = none) : Sat c Hs (upd G p o') (upd H p o') σ δ := by
  have hs : Hs p = none := by
    cases q : Hs p with
    | none => rfl
    | some u =>
      obtain ⟨z, hz⟩ := S.gs p o u hg q
      rw [hi] at hz; cases hz
  have nf : ∀ (j : Nat) (s : Sl) (b : Addr), δ[j]? = some s → Foot H σ[j]? s b → b ≠ p := fun j s b hj f z => by
    have := (foot_own (S.sl j s hj) f).1.2.1
    rw [z, hg] at this; cases this
  refine S.keep ⟨S.bs, fun b u q => ?_, fun b u q => ?_, S.nw, fun b u q => ?_, fun b u u' q q' => ?_⟩ (Same.refl _) (fun j s b u hj f q => by rw [upd_ne (nf j s b hj f)]; exact q)
    (fun j s b hj f => (foot_own (S.sl j s hj) f).1.1) fun j s b hj f => by rw [upd_ne (nf j s b hj f)]; exact (foot_own (S.sl j s hj) f).1.2.1
  · rw [upd_ne (by rintro rfl; rw [hs] at q; cases q)]; exact S.sh b u q
  · by_cases hb : b = p
    · subst hb; rw [upd_same] at q ⊢; exact q
    · rw [upd_ne hb] at q ⊢; exact S.gm b u q
  · obtain ⟨u', e'⟩ := S.hin b u q
    by_cases hb : b = p
    · subst hb; exact ⟨o', upd_same⟩
    · exact ⟨u', by rw [upd_ne hb]; exact e'⟩
  · by_cases hb : b = p
    · subst hb; rw [hs] at q'; cases q'
    · rw [upd_ne hb] at q; exact S.gs b u u' q q'
/-- a new hidden object -/
theorem Sat.hide {p : Addr} {o : HO} (S : Sat c Hs G H σ δ) (h : H p = none) : Sat c Hs (upd G p o) (upd H p o) σ δ := by
  have nf : ∀ (j : Nat) (s : Sl) (b : Addr), δ[j]? = some s → Foot H σ[j]? s b → b ≠ p := fun j s b hj f z => by
    obtain ⟨_, u, e⟩ := foot_own (S.sl j s hj) f
    rw [z, h] at e; cases e
  refine S.keep ⟨S.bs, S.sh.trans (same_new h), fun b u q => ?_, S.nw, fun b u q => ?_, fun b u u' q q' => ?_⟩ (Same.refl _) (fun j s b u hj f q => same_new h b u q)
    (fun j s b hj f => (foot_own (S.sl j s hj) f).1.1) fun j s b hj f => by rw [upd_ne (nf j s b hj f)]; exact (foot_own (S.sl j s hj) f).1.2.1
  · by_cases hb : b = p
    · subst hb; rw [upd_same] at q ⊢; exact q
    · rw [upd_ne hb] at q ⊢; exact S.gm b u q
  · obtain ⟨u', e'⟩ := S.hin b u q
    by_cases hb : b = p
    · subst hb; exact ⟨o, upd_same⟩
    · exact ⟨u', by rw [upd_ne hb]; exact e'⟩
  · by_cases hb : b = p
    · subst hb; rw [Sat.fresh_s S.toFrm h] at q'; cases q'
    · rw [upd_ne hb] at q; exact S.gs b u u' q q'
end

/-! ### comprehensions -/
def nb {α β : Type} (x : Re α) (k : α → Re β) : Re β := match x with
  | .ok a => k a
  | _ => .bad
@[simp] theorem nb_ok {α β : Type} (a : α) (k : α → Re β) : nb (.ok a) k = k a := (rfl)
def lcL (vs : List Nat) (g : D → En → Option En) (t : En → Re (Bool × En)) (f : En → Re (D × En)) : List D → En → Re (List D × En)
  | [], δ => .ok ([], δ)
  | d :: ds, δ => match g d δ with
    | none => .bad
    | some δ1 => nb (t δ1) fun p => match p.1 with
      | true => nb (f p.2) fun q => nb (lcL vs g t f ds (wp q.2 vs)) fun r => .ok (q.1 :: r.1, r.2)
      | false => lcL vs g t f ds (wp p.2 vs)
def eLc (fi : En → Re (List D × En)) (vs : List Nat) (g : D → En → Option En) (t : En → Re (Bool × En)) (f : En → Re (D × En)) : En → Re (List D × En) := fun δ => (fi δ).bd fun p =>
  if p.1.length ≤ 1000000 ∧ chk p.2 vs = true then nb (lcL vs g t f p.1 (wp p.2 vs)) fun q => .ok (q.1, rs p.2 q.2 vs) else .bad
def lcP (g : D → En → Option En) (t : En → Re Bool) (f : En → Re D) : List D → En → Re (List D)
  | [], _ => .ok []
  | d :: ds, δ => match g d δ with
    | none => .bad
    | some δ1 => nb (t δ1) fun p => match p with
      | true => nb (f δ1) fun q => nb (lcP g t f ds δ) fun r => .ok (q :: r)
      | false => lcP g t f ds δ
def pLc (fi : En → Re (List D)) (vs : List Nat) (g : D → En → Option En) (t : En → Re Bool) (f : En → Re D) : En → Re (List D) := fun δ => (fi δ).bd fun ds =>
  if ds.length ≤ 1000000 ∧ chk δ vs = true then nb (lcP g t f ds (wp δ vs)) .ok else .bad
/-- the target changes the block's own slots alone -/
def GOk (vs : List Nat) (g : D → En → Option En) : Prop := ∀ d δ δ', g d δ = some δ' → wp δ' vs = wp δ vs
def GsOk (vs : List Nat) (g : List D → En → Option En) : Prop := ∀ d δ δ', g d δ = some δ' → wp δ' vs = wp δ vs
theorem gok_nm {vs : List Nat} {i : Nat} (h : i ∈ vs) : GOk vs (gNm i) := fun d δ δ' e => by cases e; exact wp_set h
theorem gsok_nil {vs : List Nat} : GsOk vs gsNil := fun d δ δ' e => by
  unfold gsNil at e
  split at e
  · cases e; rfl
  · cases e
theorem gsok_cons {vs : List Nat} {g : D → En → Option En} {gs : List D → En → Option En} (h : GOk vs g) (h2 : GsOk vs gs) : GsOk vs (gsCons g gs) := fun d δ δ' e => by
  unfold gsCons at e
  split at e
  · obtain ⟨δ1, e1, e2⟩ := Option.bind_eq_some_iff.mp e
    exact (h2 _ _ _ e2).trans (h _ _ _ e1)
  · cases e
theorem gok_tp {vs : List Nat} {n : Nat} {gs : List D → En → Option En} (h : GsOk vs gs) : GOk vs (gTpN n gs) := fun d δ δ' e => by
  unfold gTpN at e
  split at e
  · split at e
    · exact h _ _ _ e
    · cases e
  · split at e
    · exact h _ _ _ e
    · cases e
  · cases e
theorem lcL_pu {vs : List Nat} {g : D → En → Option En} {t : En → Re Bool} {f : En → Re D} (hg : GOk vs g) : ∀ (ds : List D) (δ : En), wp δ vs = δ → lcL vs g (Pu t) (Pu f) ds δ = (lcP g t f ds δ).bd fun r => .ok (r, δ)
  | [], δ, _ => rfl
  | d :: ds, δ, h => by
    unfold lcL lcP
    cases hgd : g d δ with
    | none => rfl
    | some δ1 =>
      have w := (hg d δ δ1 hgd).trans h
      have ih := lcL_pu (t := t) (f := f) hg ds δ h
      unfold Pu at ih ⊢
      simp only
      cases t δ1 with
      | bad => rfl
      | er e => rfl
      | ok b =>
        simp only [Re.bd_ok, nb_ok]
        cases b with
        | true =>
          simp only
          cases f δ1 with
          | bad => rfl
          | er e => rfl
          | ok y =>
            simp only [Re.bd_ok, nb_ok, w]
            rw [ih]
            cases lcP g t f ds δ <;> rfl
        | false =>
          simp only [w]
          exact ih
theorem eLc_pu {fi : En → Re (List D)} {vs : List Nat} {g : D → En → Option En} {t : En → Re Bool} {f : En → Re D} (hg : GOk vs g) : eLc (Pu fi) vs g (Pu t) (Pu f) = Pu (pLc fi vs g t f) := by
  funext δ
  have q := fun ds => lcL_pu (t := t) (f := f) hg ds (wp δ vs) (wp_idem δ vs)
  unfold Pu at q ⊢
  simp only [eLc, pLc]
  cases fi δ with
  | bad => rfl
  | er e => rfl
  | ok ds =>
    simp only [Re.bd_ok]
    by_cases h : ds.length ≤ 1000000 ∧ chk δ vs = true
    · rw [if_pos h, if_pos h]
      rw [q ds]
      cases lcP g t f ds (wp δ vs) with
      | bad => rfl
      | er e => rfl
      | ok r =>
        simp only [Re.bd_ok, nb_ok, rs_wp]
    · rw [if_neg h, if_neg h]
      rfl
theorem PoG.of_ok {α : Type} {c : DC} {E : XK} {Hs G : Hp} {W : α → En → Hp → Hp → Prop} {a : α} {δ : En} (h : ∀ Hs' H', Same Hs Hs' → W a δ Hs' H') : PoG c E Hs G W (.ok (a, δ)) := h
theorem lcL_ne {vs : List Nat} {g : D → En → Option En} {t : En → Re (Bool × En)} {f : En → Re (D × En)} : ∀ (ds : List D) (δ : En), lcL vs g t f ds δ = .bad ∨ ∃ r, lcL vs g t f ds δ = .ok r
  | [], δ => .inr ⟨_, rfl⟩
  | d :: ds, δ => by
    unfold lcL
    cases g d δ with
    | none => exact .inl rfl
    | some δ1 =>
      simp only
      cases t δ1 with
      | bad => exact .inl rfl
      | er e => exact .inl rfl
      | ok p =>
        simp only [nb_ok]
        cases p.1 with
        | true =>
          simp only
          cases f p.2 with
          | bad => exact .inl rfl
          | er e => exact .inl rfl
          | ok q =>
            simp only [nb_ok]
            rcases lcL_ne ds (wp q.2 vs) with e | ⟨r, e⟩
            · rw [e]; exact .inl rfl
            · rw [e]; exact .inr ⟨_, rfl⟩
        | false => exact lcL_ne ds (wp p.2 vs)
section
variable {c : DC} {E : XK} {fi : En → Re (List D × En)} {vs ts : List Nat} {g : D → En → Option En} {t : En → Re (Bool × En)} {f : En → Re (D × En)}
theorem v_lc (hn : vs.Nodup) (hm : ∀ v ∈ vs, v ∉ c.mi) (ht : ∀ t ∈ ts, t ∈ vs) {σ : St} {H : Hp} {Q : VK} (h : tF c E (eLc fi vs g t f) σ H Q) : tLc (tI c E fi) (tG c ts g) (tT c E0 t) (tD c E0 f) vs σ H Q := by
  obtain ⟨Hs, G, δ, S, q⟩ := h
  refine ⟨Hs, G, δ, S, PoG.seq q fun ds δ1 Hs1 H1 s1 q1 J S1 it D hD => ?_⟩
  simp only at q1
  split at q1
  · rename_i hc
    obtain ⟨hlen, hck⟩ := hc
    rcases lcL_ne (vs := vs) (g := g) (t := t) (f := f) ds (wp δ1 vs) with e | ⟨r, hr⟩
    · rw [e] at q1; exact q1.elim
    · rw [hr] at q1
      obtain ⟨R, δF⟩ := r
      have hIn : c.Hin D = none := Sat.fresh_in S1.toFrm hD
      have hG : G D = none := Sat.fresh_G S1.toFrm hD
      refine ⟨fun i m H => m = ds.length - i ∧ i ≤ ds.length ∧ ∃ Hs2 δ2 acc xs r, Same Hs1 Hs2 ∧ Sat c Hs2 (upd G D (.lst xs)) H (wipe σ vs) δ2 ∧ RpAll c.K Hs2 xs acc ∧ xs.length ≤ i ∧ lcL vs g t f (ds.drop i) δ2 = .ok (r, δF) ∧ R = acc ++ r,
        ⟨ds.length, by simp, Nat.zero_le _, Hs1, wp δ1 vs, [], [], R, Same.refl _, (S1.hide hD).wipe hm, .nil, Nat.le_refl _, by simpa using hr, rfl⟩, ?_⟩
      rintro i m H2 ⟨rfl, hi, Hs2, δ2, acc, xs, r, s2, S2, ra, hxl, hl, hR⟩
      by_cases hlt : i < ds.length
      · right
        obtain ⟨hgo, hstep⟩ := (it Hs2 _ H2 _ δ2 s2 S2).1 i ds[i] (by simp [hlt])
        rw [List.drop_eq_getElem_cons hlt] at hl
        unfold lcL at hl
        refine ⟨hgo, _, fun H' n => ⟨ds.length - (i + 1), by omega, n⟩, fun x H' y => ?_⟩
        obtain ⟨Hs3, s3, S3, r3⟩ := hstep x H' y
        cases hg : g ds[i] δ2 with
        | none => rw [hg] at hl; cases hl
        | some δ3 =>
          rw [hg] at hl
          refine ⟨Hs3, _, δ2, ds[i], δ3, S3, r3, hg, fun σ3 S4 w => ⟨?_, ?_⟩⟩
          · rw [w vs ht, wipe_idem]
          · have w' : wipe σ3 vs = wipe σ vs := by rw [w vs ht, wipe_idem]
            refine ⟨Hs3, _, δ3, S4, ?_⟩
            simp only at hl
            cases htt : t δ3 with
            | bad => rw [htt] at hl; cases hl
            | er e => rw [htt] at hl; cases hl
            | ok p =>
              rw [htt, nb_ok] at hl
              obtain ⟨b, δ5⟩ := p
              refine PoG.of_ok fun Hs5 H5 s5 S5 => ?_
              simp only at hl
              cases b with
              | true =>
                show if true = true then _ else _
                rw [if_pos rfl]
                simp only at hl
                refine ⟨Hs5, _, δ5, S5, ?_⟩
                cases hf : f δ5 with
                | bad => rw [hf] at hl; cases hl
                | er e => rw [hf] at hl; cases hl
                | ok p =>
                  rw [hf, nb_ok] at hl
                  obtain ⟨d6, δ6⟩ := p
                  refine PoG.of_ok fun Hs6 H6 s6 y S6 r6 => ?_
                  simp only at hl
                  refine ⟨xs, S6.gm _ _ upd_same, Nat.lt_of_le_of_lt hxl (Nat.lt_of_lt_of_le hlt (million hlen)), rfl, hlt, ?_⟩
                  rcases lcL_ne (vs := vs) (g := g) (t := t) (f := f) (ds.drop (i + 1)) (wp δ6 vs) with e | ⟨r2, hr2⟩
                  · rw [e] at hl; cases hl
                  · rw [hr2, nb_ok] at hl
                    obtain ⟨r3', δ7⟩ := r2
                    cases hl
                    refine ⟨Hs6, wp δ6 vs, acc ++ [d6], xs ++ [y], r3', ((s2.trans s3).trans s5).trans s6, ?_, dpa_append (dpa_mono ((s3.trans s5).trans s6) ra) (.cons r6 .nil), by simpa using hxl, hr2, by simp [hR]⟩
                    rw [← w']
                    have S7 := (S6.regrow (o' := .lst (xs ++ [y])) upd_same hIn).wipe hm
                    rw [upd_upd] at S7
                    exact S7
              | false =>
                show if false = true then _ else _
                rw [if_neg Bool.false_ne_true]
                simp only at hl
                refine ⟨rfl, hlt, Hs5, wp δ5 vs, acc, xs, r, (s2.trans s3).trans s5, ?_, dpa_mono (s3.trans s5) ra, Nat.le_succ_of_le hxl, hl, hR⟩
                rw [← w']
                exact S5.wipe hm
      · left
        have e : i = ds.length := by omega
        subst e
        refine ⟨(it Hs2 _ H2 _ δ2 s2 S2).2 _ (Nat.le_refl _), ?_⟩
        rw [List.drop_length] at hl
        cases hl
        rw [List.append_nil] at hR
        subst hR
        have S3 := Sat.unwipe S1 s2 hn hck hm S2
        have sg : Same G (upd G D (.lst xs)) := same_new hG
        refine q1 Hs2 H2 s2 D xs (S3.weakG sg) ⟨?_, hG, hIn, fun j s hj fo => ?_⟩ (S3.gm _ _ upd_same) ra
        · cases z : Hs2 D with
          | none => rfl
          | some u =>
            obtain ⟨o, ho⟩ := S3.gs D _ u upd_same z
            rw [hIn] at ho; cases ho
        · have := (foot_own (S3.sl j s hj) fo).1.2.1
          rw [upd_same] at this
          cases this
  · exact q1.elim
variable {X : Cx} {elt tg iter : Expr} {ifs : List Expr} {scope : Scope} {own : List (Str × Nat)} {pos : Pos}
/-- a clause's tests over data -/
theorem dts_nil : PTs X [] (tT c E (Pu fun _ => .ok true)) := ⟨fun pins s σ H Q I ⟨Hs, G, δ, S, q⟩ => pts_nil.run pins s σ H Q I (q Hs H (Same.refl _) S)⟩
theorem dts_one {e : Expr} (h : PT X e (tT c E t)) : PTs X [e] (tT c E t) := pts_one h
theorem de_lc (hc : X.calm = true) (hN : X.N.Nodup) (hn : (own.map (·.2)).Nodup) (hm : ∀ v ∈ own.map (·.2), v ∉ c.mi) (hts : ∀ t ∈ ts, t ∈ own.map (·.2)) (hi : PI X tg iter (tI c E fi)) (ok : BlkOk X.N X.env.scope scope own)
    (hg : ∀ (s : Shared) (H : Hp) (C : Addr) (cl : List (Str × Addr)) (fp : List Addr), PG (X.blk s H scope (compEnvC scope cl C X.env) fp) tg (tG c ts g)) (ht : ∀ (s : Shared) (H : Hp) (C : Addr) (cl : List (Str × Addr)) (fp : List Addr), PTs (X.blk s H scope (compEnvC scope cl C X.env) fp) ifs (tT c E0 t))
    (he : ∀ (s : Shared) (H : Hp) (C : Addr) (cl : List (Str × Addr)) (fp : List Addr), PE (X.blk s H scope (compEnvC scope cl C X.env) fp) elt (tD c E0 f)) (hs : ∀ x, foldedSetIterable iter X.env x = pure x := by intro _; rfl) :
    PE X (.ListComp elt [⟨tg, iter, ifs, 0⟩] scope pos) (tF c E (eLc fi (own.map (·.2)) g t f)) := PE.imp (pe_lc hc hN hi ok hg ht he hs) fun _ _ _ h => v_lc hn hm hts h
end
end DL

/-! DL5: statements over data -/
namespace DL
open PySem L2

inductive Fl where
  | nx (δ : En) | rt (d : D) (δ : En) | bk (δ : En) | ct (δ : En) | rf (ds : List D) (δ : En) | rf2 (dss : List (List D)) (δ : En)
def PoS (c : DC) (E : XK) (Hs G : Hp) (De : Ends) : Re Fl → Prop
  | .bad => False
  | .er e => ∀ Hs' H', Same Hs Hs' → Frm c Hs' G H' → XOk c E Hs' H' e
  | .ok (.nx δ') => ∀ σ' Hs' H', Same Hs Hs' → Sat c Hs' G H' σ' δ' → De.nx σ' H'
  | .ok (.rt d δ') => ∀ v σ' Hs' H', Same Hs Hs' → Sat c Hs' G H' σ' δ' → Rp c.K Hs' v d → De.rt v H'
  | .ok (.bk δ') => ∀ σ' Hs' H', Same Hs Hs' → Sat c Hs' G H' σ' δ' → De.bk σ' H'
  | .ok (.ct δ') => ∀ σ' Hs' H', Same Hs Hs' → Sat c Hs' G H' σ' δ' → De.ct σ' H'
  | .ok (.rf ds δ') => ∀ p xs σ' Hs' H', Same Hs Hs' → Sat c Hs' G H' σ' δ' → Loose c Hs' G H' σ' δ' p → H' p = some (.lst xs) → RpAll c.K Hs' xs ds → De.rt (.ref p) H'
  | .ok (.rf2 dss δ') => ∀ p rs σ' Hs' H', Same Hs Hs' → Sat c Hs' G H' σ' δ' → Loose2 c Hs' G H' σ' δ' p rs dss → De.rt (.ref p) H'
def tS (c : DC) (E : XK) (F : En → Re Fl) : TS := fun De σ H => ∃ Hs G δ, Sat c Hs G H σ δ ∧ PoS c E Hs G De (F δ)
theorem PoS.mono {c : DC} {E : XK} {Hs Hs' G : Hp} {De : Ends} {x : Re Fl} (e : Same Hs Hs') (h : PoS c E Hs G De x) : PoS c E Hs' G De x := by
  cases x with
  | bad => exact h
  | er e' => exact fun Hs2 H2 s2 => h Hs2 H2 (e.trans s2)
  | ok f => cases f with
    | nx δ => exact fun σ2 Hs2 H2 s2 => h σ2 Hs2 H2 (e.trans s2)
    | rt d δ => exact fun v σ2 Hs2 H2 s2 => h v σ2 Hs2 H2 (e.trans s2)
    | bk δ => exact fun σ2 Hs2 H2 s2 => h σ2 Hs2 H2 (e.trans s2)
    | ct δ => exact fun σ2 Hs2 H2 s2 => h σ2 Hs2 H2 (e.trans s2)
    | rf ds δ => exact fun p xs σ2 Hs2 H2 s2 => h p xs σ2 Hs2 H2 (e.trans s2)
    | rf2 ds δ => exact fun p xs σ2 Hs2 H2 s2 => h p xs σ2 Hs2 H2 (e.trans s2)
/-- an expression, then a statement's end -/
theorem PoS.seq {α : Type} {c : DC} {E : XK} {Hs G : Hp} {De : Ends} {W : α → En → Hp → Hp → Prop} {r : Re (α × En)} {k : α × En → Re Fl} (h : PoS c E Hs G De (r.bd k))
    (w : ∀ a δ' Hs' H', Same Hs Hs' → PoS c E Hs' G De (k (a, δ')) → W a δ' Hs' H') : PoG c E Hs G W r := by
  cases r with
  | bad => exact h
  | er e => exact h
  | ok p => exact fun Hs' H' s => w p.1 p.2 Hs' H' s (PoS.mono s h)

section
variable {X : Cx} {c : DC} {E : XK} {e a b : Expr} {pos : Pos} {st : Stmt} {rest : List Stmt} {F A B : En → Re Fl} {f fa : En → Re (D × En)} {fr : En → Re (List D × En)} {t : En → Re (Bool × En)}

/-! ### blocks -/
def nopS : En → Re Fl := fun δ => .ok (.nx δ)
def seqS (A B : En → Re Fl) : En → Re Fl := fun δ => (A δ).bd fun r => match r with
  | .nx δ' => B δ'
  | r => .ok r
theorem dss_nil : PSs X [] (tS c E nopS) := PSs.imp pss_nil fun σ H De ⟨Hs, G, δ, S, q⟩ => q σ Hs H (Same.refl _) S
theorem dss_one (h : PS X st (tS c E F)) : PSs X [st] (tS c E F) := pss_one h
theorem dss_cons (h : PS X st (tS c E A)) (h2 : PSs X rest (tS c E B)) : PSs X (st :: rest) (tS c E (seqS A B)) := PSs.imp (pss_cons h h2) fun σ H De ⟨Hs, G, δ, S, q⟩ => by
  refine ⟨Hs, G, δ, S, ?_⟩
  unfold seqS at q
  cases hA : A δ with
  | bad => rw [hA] at q; exact q
  | er e => rw [hA] at q; exact q
  | ok r =>
    rw [hA] at q
    simp only [Re.bd_ok] at q
    cases r with
    | nx δ1 => exact fun σ' Hs' H' s S' => ⟨Hs', G, δ1, S', PoS.mono s q⟩
    | rt d δ1 => exact q
    | bk δ1 => exact q
    | ct δ1 => exact q
    | rf ds δ1 => exact q
    | rf2 ds δ1 => exact q
/-- code that is not reached -/
def nevS : En → Re Fl := fun _ => .bad
theorem ds_never : PS X st (tS c E nevS) := PS.imp ps_never fun σ H De ⟨Hs, G, δ, S, q⟩ => q
theorem dss_never {sts : List Stmt} : PSs X sts (tS c E nevS) := PSs.imp pss_never fun σ H De ⟨Hs, G, δ, S, q⟩ => q
theorem ds_pass : PS X (.Pass pos) (tS c E nopS) := PS.imp ps_pass fun σ H De ⟨Hs, G, δ, S, q⟩ => q σ Hs H (Same.refl _) S
def bkS : En → Re Fl := fun δ => .ok (.bk δ)
def ctS : En → Re Fl := fun δ => .ok (.ct δ)
theorem ds_break : PS X (.Break pos) (tS c E bkS) := PS.imp ps_break fun σ H De ⟨Hs, G, δ, S, q⟩ => q σ Hs H (Same.refl _) S
theorem ds_continue : PS X (.Continue pos) (tS c E ctS) := PS.imp ps_continue fun σ H De ⟨Hs, G, δ, S, q⟩ => q σ Hs H (Same.refl _) S
def exS (f : En → Re (D × En)) : En → Re Fl := fun δ => (f δ).bd fun p => .ok (.nx p.2)
theorem ds_expr (h : PE X e (tD c E f)) (hs : swapsWith e none pos.line X.env = pure false := by rfl) : PS X (.Expr e pos) (tS c E (exS f)) := PS.imp (ps_expr h hs) fun σ H De ⟨Hs, G, δ, S, q⟩ =>
  ⟨Hs, G, δ, S, PoS.seq q fun d δ1 Hs1 H1 s1 q1 v S1 r1 => q1 σ Hs1 H1 (Same.refl _) S1⟩
def rtS (f : En → Re (D × En)) : En → Re Fl := fun δ => (f δ).bd fun p => .ok (.rt p.1 p.2)
theorem ds_ret (h : PE X e (tD c E f)) : PS X (.Return (some e) pos) (tS c E (rtS f)) := PS.imp (ps_ret h) fun σ H De ⟨Hs, G, δ, S, q⟩ =>
  ⟨Hs, G, δ, S, PoS.seq q fun d δ1 Hs1 H1 s1 q1 v S1 r1 => q1 v σ Hs1 H1 (Same.refl _) S1 r1⟩
def rfS (fr : En → Re (List D × En)) : En → Re Fl := fun δ => (fr δ).bd fun p => .ok (.rf p.1 p.2)
theorem ds_retF (h : PE X e (tF c E fr)) : PS X (.Return (some e) pos) (tS c E (rfS fr)) := PS.imp (ps_ret h) fun σ H De ⟨Hs, G, δ, S, q⟩ =>
  ⟨Hs, G, δ, S, PoS.seq q fun d δ1 Hs1 H1 s1 q1 p xs S1 L h1 r1 => q1 p xs σ Hs1 H1 (Same.refl _) S1 L h1 r1⟩
/-- the name's own list is handed back -/
def roS (i : Nat) : En → Re Fl := fun δ => match δ[i]? with
  | some (.ow ds) => .ok (.rf ds (δ.set i .no))
  | _ => .bad
theorem ds_retO {i : Nat} {x : Str} {xp : Pos} (hm : i ∉ c.mi) (hx : PE X (.Name x xp) (tVar i)) : PS X (.Return (some (.Name x xp)) pos) (tS c E (roS i)) := PS.imp (ps_ret hx) fun σ H De ⟨Hs, G, δ, S, q⟩ => by
  unfold roS at q
  cases hi : δ[i]? with
  | none => rw [hi] at q; exact q.elim
  | some s => cases s with
    | ow ds =>
      rw [hi] at q
      obtain ⟨l, xs, e1, h1, r1, w1⟩ := S.sl i _ hi
      refine ⟨.ref l, e1, q l xs σ Hs H (Same.refl _) (S.dropSl i) ⟨w1.1, w1.2.1, w1.2.2.1, fun j t hj f => ?_⟩ h1 r1⟩
      by_cases e : j = i
      · subst e
        have hlt : j < δ.length := (List.getElem?_eq_some_iff.mp hi).1
        rw [List.getElem?_set_self hlt] at hj
        cases hj
        exact foot_no f
      · rw [List.getElem?_set_ne (Ne.symm e)] at hj
        exact S.sp j i t _ l e hj hi f (by rw [e1]; rfl)
    | _ => rw [hi] at q; exact q.elim
def rnS : En → Re Fl := fun δ => .ok (.rt .none δ)
theorem ds_retN : PS X (.Return none pos) (tS c E rnS) := PS.imp ps_retN fun σ H De ⟨Hs, G, δ, S, q⟩ => q _ σ Hs H (Same.refl _) S .non
def ifS (t : En → Re (Bool × En)) (A B : En → Re Fl) : En → Re Fl := fun δ => (t δ).bd fun p => match p.1 with
  | true => A p.2
  | false => B p.2
theorem ds_if {sa sb : List Stmt} (ht : PT X e (tT c E t)) (ha : PSs X sa (tS c E A)) (hb : PSs X sb (tS c E B)) : PS X (.If e sa sb pos) (tS c E (ifS t A B)) := PS.imp (ps_if ht ha hb) fun σ H De ⟨Hs, G, δ, S, q⟩ =>
  ⟨Hs, G, δ, S, PoS.seq q fun d δ1 Hs1 H1 s1 q1 S1 => by
    cases d with
    | true =>
      show if true = true then _ else _
      rw [if_pos rfl]
      exact ⟨Hs1, G, δ1, S1, q1⟩
    | false =>
      show if false = true then _ else _
      rw [if_neg Bool.false_ne_true]
      exact ⟨Hs1, G, δ1, S1, q1⟩⟩
/-! ### assignments -/
def asS (i : Nat) (f : En → Re (D × En)) : En → Re Fl := fun δ => (f δ).bd fun p => .ok (.nx (p.2.set i (.sh p.1)))
def owS (i : Nat) (f : En → Re (List D × En)) : En → Re Fl := fun δ => (f δ).bd fun p => .ok (.nx (p.2.set i (.ow p.1)))
def agS (g : D → En → Option En) (f : En → Re (D × En)) : En → Re Fl := fun δ => (f δ).bd fun p => (opt (g p.1 p.2)).bd fun δ' => .ok (.nx δ')
theorem v_as {i : Nat} (hm : i ∉ c.mi) {σ : St} {H : Hp} {De : Ends} (h : tS c E (asS i f) De σ H) : tAsg (tD c E f) (gName i) De σ H := by
  obtain ⟨Hs, G, δ, S, q⟩ := h
  exact ⟨Hs, G, δ, S, PoS.seq q fun d δ1 Hs1 H1 s1 q1 v S1 r1 => q1 _ Hs1 H1 (Same.refl _) (S1.setSh hm r1)⟩
theorem v_ow {i : Nat} (hm : i ∉ c.mi) {σ : St} {H : Hp} {De : Ends} (h : tS c E (owS i fr) De σ H) : tAsg (tF c E fr) (gName i) De σ H := by
  obtain ⟨Hs, G, δ, S, q⟩ := h
  exact ⟨Hs, G, δ, S, PoS.seq q fun d δ1 Hs1 H1 s1 q1 p xs S1 L h r1 => q1 _ Hs1 H1 (Same.refl _) (S1.setOw hm L h r1)⟩
theorem ds_set {i : Nat} {x : Str} {pos' : Pos} (hm : i ∉ c.mi) (hN : X.N.Nodup) (hi : X.N[i]? = some x) (hx : Loc X.env.scope x) (he : PE X e (tD c E f)) (hs : swapsWith e (some (.Name x pos')) pos.line X.env = pure false := by rfl) (hf : X.fn x = true ∨ X.env.scope.names.lookup x = some .local := by first | exact .inl rfl | exact .inr rfl | assumption) :
    PS X (.Assign [.Name x pos'] e pos) (tS c E (asS i f)) := PS.imp (ps_set hN hi hx he hs hf) fun σ H De h => v_as hm h
theorem ds_own {i : Nat} {x : Str} {pos' : Pos} (hm : i ∉ c.mi) (hN : X.N.Nodup) (hi : X.N[i]? = some x) (hx : Loc X.env.scope x) (he : PE X e (tF c E fr)) (hs : swapsWith e (some (.Name x pos')) pos.line X.env = pure false := by rfl) (hf : X.fn x = true ∨ X.env.scope.names.lookup x = some .local := by first | exact .inl rfl | exact .inr rfl | assumption) :
    PS X (.Assign [.Name x pos'] e pos) (tS c E (owS i fr)) := PS.imp (ps_set hN hi hx he hs hf) fun σ H De h => v_ow hm h
theorem ds_asg {tg : Expr} {ts : List Nat} {g : D → En → Option En} (he : PE X e (tD c E f)) (hg : PG X tg (tG c ts g)) (hs : swapsWithSole [tg] e pos.line X.env = pure false := by rfl) (hw : swappedStores [tg] e X.env = pure none := by rfl)
    (h1 : (assignEach [tg] X.env).map (·.2) = [assign tg X.env] := by rfl) : PS X (.Assign [tg] e pos) (tS c E (agS g f)) := PS.imp (ps_asg he hg hs hw h1) fun σ H De ⟨Hs, G, δ, S, q⟩ =>
  ⟨Hs, G, δ, S, PoS.seq q fun d δ1 Hs1 H1 s1 q1 v S1 r1 => by
    cases hz : g d δ1 with
    | none => rw [hz] at q1; exact q1.elim
    | some δ2 =>
      rw [hz] at q1
      exact ⟨Hs1, G, δ1, d, δ2, S1, r1, hz, fun σ' S2 _ => q1 σ' Hs1 H1 (Same.refl _) S2⟩⟩
/-- a, b = x, y (local names): stored from the right -/
def paS (i j : Nat) (fr : En → Re (List D × En)) : En → Re Fl := fun δ => (fr δ).bd fun p => match p.1 with
  | [d, e] => .ok (.nx ((p.2.set i (.sh d)).set j (.sh e)))
  | _ => .bad
theorem ds_par {i j : Nat} {x y : Str} {px py pt : Pos} {kt k2 : Nat} {pt2 : Pos} (hm : i ∉ c.mi) (hm2 : j ∉ c.mi) (hc : X.calm = true) (hN : X.N.Nodup) (hi : X.N[i]? = some x) (hj : X.N[j]? = some y) (hij : i ≠ j)
    (hx : X.env.scope.names.lookup x = some .local) (hy : X.env.scope.names.lookup y = some .local) (ha : PA X [a, b] (tA c E fr))
    (hw : swappedStores [.Tuple [.Name x px, .Name y py] kt pt] (.Tuple [a, b] k2 pt2) X.env = pure (some [x, y]))
    (hs : swapsWithSole [.Tuple [.Name x px, .Name y py] kt pt] (.Tuple [a, b] k2 pt2) pos.line X.env = pure false := by rfl) :
    PS X (.Assign [.Tuple [.Name x px, .Name y py] kt pt] (.Tuple [a, b] k2 pt2) pos) (tS c E (paS i j fr)) := PS.imp (ps_par hc hN hi hj hij hx hy ha hw hs) fun σ H De ⟨Hs, G, δ, S, q⟩ =>
  ⟨Hs, G, δ, S, PoS.seq q fun ds δ1 Hs1 H1 s1 q1 vs S1 r1 => by
    unfold PoS at q1
    match ds, r1, q1 with
    | [d, e], r1, q1 =>
      obtain ⟨v, w, rfl, rv, rw'⟩ := rpa2 r1
      exact ⟨v, w, rfl, q1 _ Hs1 H1 (Same.refl _) ((S1.setSh hm rv).setSh hm2 rw')⟩
    | [], _, q1 => exact q1.elim
    | [_], _, q1 => exact q1.elim
    | _ :: _ :: _ :: _, _, q1 => exact q1.elim⟩
/-! ### y = [.. for ..] -/
section
variable {fi : En → Re (List D × En)} {ts : List Nat} {g : D → En → Option En} {elt tg iter : Expr} {ifs : List Expr} {scope : Scope} {own : List (Str × Nat)} {spos : Pos}
theorem ds_ownLc {i : Nat} {y : Str} {py : Pos} (hmi : i ∉ c.mi) (hc : X.calm = true) (hN : X.N.Nodup) (hy : X.N[i]? = some y) (hyl : X.env.scope.names.lookup y = some .local)
    (hsw : swapsWith (.ListComp elt [⟨tg, iter, ifs, 0⟩] scope pos) (some (.Name y py)) spos.line X.env = pure true) (hn : (own.map (·.2)).Nodup) (hm : ∀ v ∈ own.map (·.2), v ∉ c.mi) (hts : ∀ t ∈ ts, t ∈ own.map (·.2)) (hi : PI X tg iter (tI c E fi)) (ok : BlkOk X.N X.env.scope scope own)
    (hg : ∀ (s : Shared) (H : Hp) (C : Addr) (cl : List (Str × Addr)) (fp : List Addr), PG (X.blk s H scope (compEnvC scope cl C X.env) fp) tg (tG c ts g)) (ht : ∀ (s : Shared) (H : Hp) (C : Addr) (cl : List (Str × Addr)) (fp : List Addr), PTs (X.blk s H scope (compEnvC scope cl C X.env) fp) ifs (tT c E0 t))
    (he : ∀ (s : Shared) (H : Hp) (C : Addr) (cl : List (Str × Addr)) (fp : List Addr), PE (X.blk s H scope (compEnvC scope cl C X.env) fp) elt (tD c E0 f)) (hs : ∀ x, foldedSetIterable iter X.env x = pure x := by intro _; rfl) :
    PS X (.Assign [.Name y py] (.ListComp elt [⟨tg, iter, ifs, 0⟩] scope pos) spos) (tS c E (owS i (eLc fi (own.map (·.2)) g t f))) := PS.imp (ps_setLc hc hN hy hyl hsw hi ok hg ht he hs) fun σ H De h =>
  v_lc hn hm hts (Q := fun x H1 => gName i x σ H1 De.nx) (by
    obtain ⟨Hs, G, δ, S, q⟩ := h
    exact ⟨Hs, G, δ, S, PoS.seq q fun d δ1 Hs1 H1 s1 q1 p xs S1 L h r1 => q1 _ Hs1 H1 (Same.refl _) (S1.setOw hmi L h r1)⟩)
theorem ds_setLc {i : Nat} {y : Str} {py : Pos} (hmi : i ∉ c.mi) (hc : X.calm = true) (hN : X.N.Nodup) (hy : X.N[i]? = some y) (hyl : X.env.scope.names.lookup y = some .local)
    (hsw : swapsWith (.ListComp elt [⟨tg, iter, ifs, 0⟩] scope pos) (some (.Name y py)) spos.line X.env = pure true) (hn : (own.map (·.2)).Nodup) (hm : ∀ v ∈ own.map (·.2), v ∉ c.mi) (hts : ∀ t ∈ ts, t ∈ own.map (·.2)) (hi : PI X tg iter (tI c E fi)) (ok : BlkOk X.N X.env.scope scope own)
    (hg : ∀ (s : Shared) (H : Hp) (C : Addr) (cl : List (Str × Addr)) (fp : List Addr), PG (X.blk s H scope (compEnvC scope cl C X.env) fp) tg (tG c ts g)) (ht : ∀ (s : Shared) (H : Hp) (C : Addr) (cl : List (Str × Addr)) (fp : List Addr), PTs (X.blk s H scope (compEnvC scope cl C X.env) fp) ifs (tT c E0 t))
    (he : ∀ (s : Shared) (H : Hp) (C : Addr) (cl : List (Str × Addr)) (fp : List Addr), PE (X.blk s H scope (compEnvC scope cl C X.env) fp) elt (tD c E0 f)) (hs : ∀ x, foldedSetIterable iter X.env x = pure x := by intro _; rfl) :
    PS X (.Assign [.Name y py] (.ListComp elt [⟨tg, iter, ifs, 0⟩] scope pos) spos) (tS c E (asS i (fz (eLc fi (own.map (·.2)) g t f)))) := PS.imp (ps_setLc hc hN hy hyl hsw hi ok hg ht he hs) fun σ H De h =>
  v_lc hn hm hts (Q := fun x H1 => gName i x σ H1 De.nx) (by
    obtain ⟨Hs, G, δ, S, q⟩ := h
    have q' : PoS c E Hs G De ((eLc fi (own.map (·.2)) g t f δ).bd fun p => .ok (.nx (p.2.set i (.sh (.list p.1))))) := by
      unfold asS fz at q
      cases hz : eLc fi (own.map (·.2)) g t f δ with
      | bad => rw [hz] at q; exact q
      | er e => rw [hz] at q; exact q
      | ok p => rw [hz] at q; exact q
    exact ⟨Hs, G, δ, S, PoS.seq q' fun d δ1 Hs1 H1 s1 q1 p xs S1 L h r1 => q1 _ (upd Hs1 p (.lst xs)) H1 (same_new L.s) ((S1.freeze L h).setSh hmi (.lst (SqL.of upd_same) (dpa_mono (same_new L.s) r1)))⟩)
end
theorem fz_pu (f : En → Re (List D)) : fz (Pu f) = Pu fun δ => (f δ).bd fun ds => .ok (.list ds) := by
  funext δ; unfold fz Pu; simp only; cases f δ <;> rfl
/-! ### freezing -/
def fzE (i : Nat) (δ : En) : En := match δ[i]? with
  | some (.ow ds) => δ.set i (.sh (.list ds))
  | some (.ow2 dss) => δ.set i (.sh (.list (dss.map .list)))
  | some (.dk kvs) => δ.set i (.sh (dkD kvs))
  | _ => δ
theorem Sat.fzE {Hs G H : Hp} {σ : St} {δ : En} (S : Sat c Hs G H σ δ) {i : Nat} (hm : i ∉ c.mi) : ∃ Hs', Same Hs Hs' ∧ Sat c Hs' G H σ (DL.fzE i δ) := by
  unfold DL.fzE
  cases h : δ[i]? with
  | none => exact ⟨Hs, Same.refl _, S⟩
  | some s => cases s with
    | ow ds =>
      obtain ⟨v, Hs', _, q1, q2, _⟩ := S.freezeOw h hm
      exact ⟨Hs', q1, q2⟩
    | ow2 dss =>
      obtain ⟨v, Hs', _, q1, q2, _⟩ := S.freezeOw2 h hm
      exact ⟨Hs', q1, q2⟩
    | dk kvs =>
      obtain ⟨v, Hs', _, q1, q2, _⟩ := S.freezeDk h hm
      exact ⟨Hs', q1, q2⟩
    | _ => exact ⟨Hs, Same.refl _, S⟩
def fzS (i : Nat) (F : En → Re Fl) : En → Re Fl := fun δ => F (fzE i δ)
theorem dss_fz {sts : List Stmt} {i : Nat} (hm : i ∉ c.mi) (h : PSs X sts (tS c E F)) : PSs X sts (tS c E (fzS i F)) := PSs.imp h fun σ H De ⟨Hs, G, δ, S, q⟩ => by
  obtain ⟨Hs', s, S'⟩ := S.fzE hm
  exact ⟨Hs', G, _, S', PoS.mono s q⟩
theorem ds_fz {i : Nat} (hm : i ∉ c.mi) (h : PS X st (tS c E F)) : PS X st (tS c E (fzS i F)) := PS.imp h fun σ H De ⟨Hs, G, δ, S, q⟩ => by
  obtain ⟨Hs', s, S'⟩ := S.fzE hm
  exact ⟨Hs', G, _, S', PoS.mono s q⟩
/-! ### owned lists: methods, stores -/
/-- a method that changes the list itself -/
def VMu (r : V → List V → Hp → VK → Prop) (m : List D → List D → Option (List D × D)) : Prop := ∀ (K : PySem.W.Frag) (Hs H : Hp) (l : Addr) (xs as : List V) (ds es ds' : List D) (d : D), H l = some (.lst xs) → Same Hs H → Hs l = none → RpAll K Hs xs ds → RpAll K Hs as es → m ds es = some (ds', d) → ∀ Q : VK,
  (∀ xs' v, RpAll K Hs xs' ds' → Rp K Hs v d → Q v (upd H l (.lst xs'))) → r (.ref l) as H Q
def eMu (i : Nat) (m : List D → List D → Option (List D × D)) (fr : En → Re (List D × En)) : En → Re (D × En) := fun δ => match δ[i]? with
  | some (.ow _) => (fr δ).bd fun p => match p.2[i]? with
    | some (.ow ds) => (opt (m ds p.1)).bd fun q => .ok (q.2, p.2.set i (.ow q.1))
    | _ => .bad
  | _ => .bad
theorem v_mu {i : Nat} {r : V → List V → Hp → VK → Prop} {m : List D → List D → Option (List D × D)} (hr : VMu r m) {K : PySem.W.Frag} {σ : St} {H : Hp} {Q : VK} (h : tD c E (eMu i m fr) σ H Q) : tBM K "list" r (tVar i) (tA c E fr) σ H Q := by
  obtain ⟨Hs, G, δ, S, q⟩ := h
  unfold eMu at q
  cases hi : δ[i]? with
  | none => rw [hi] at q; exact q.elim
  | some s => cases s with
    | ow ds0 =>
      rw [hi] at q
      simp only at q
      obtain ⟨l, xs, e1, h1, _, _⟩ := S.sl i _ hi
      refine ⟨.ref l, e1, .inl ⟨rfl, xs, SqL.of h1⟩, Hs, G, δ, S, PoG.seq q fun es δ1 Hs1 H1 s1 q1 as S1 r1 => ?_⟩
      simp only at q1
      cases hi1 : δ1[i]? with
      | none => rw [hi1] at q1; exact q1.elim
      | some s => cases s with
        | ow ds =>
          rw [hi1] at q1
          simp only at q1
          cases hz : m ds es with
          | none => rw [hz] at q1; exact q1.elim
          | some z =>
            rw [hz] at q1
            obtain ⟨ds', d⟩ := z
            obtain ⟨l', ys, e2, h2, r2, w2⟩ := S1.sl i _ hi1
            rw [e1] at e2
            cases e2
            refine hr c.K Hs1 H1 l ys as ds es ds' d h2 S1.sh w2.1 r2 r1 hz Q fun xs' v rx rv => ?_
            exact q1 Hs1 _ (Same.refl _) v (S1.writeOw hi1 e1 rx) rv
        | _ => rw [hi1] at q1; exact q1.elim
    | _ => rw [hi] at q; exact q.elim
variable {es : List Expr} {name : Str} {apos cpos : Pos} {id : String} {r : V → List V → Hp → VK → Prop} {m : List D → List D → Option (List D × D)} {i : Nat} {x : Str} {xp : Pos}
theorem de_mu (slot : Slot "list" name id) (hty : typeOf (.builtin id) = pure (.type "method_descriptor")) (hm : MtR X id r) (hr : VMu r m) (ho : PE X (.Name x xp) (tVar i)) (ha : PA X (e :: es) (tA c E fr))
    (hbase : attributeBase (.Name x xp) name X.env (eval (.Name x xp) X.env) = eval (.Name x xp) X.env := by rfl)
    (hfew : ((backTo cpos (starEach (e :: es) X.env)).all (fun x => !x.1) && (backToKw cpos (keywordEach [] X.env)).all (fun x => x.1.isSome)
      && decide ((e :: es).length + ([] : List Keyword).length + (if ([] : List Keyword).isEmpty then 0 else 1) < 30)) = true := by rfl)
    (hline : (apos.endLine == cpos.line) = true := by rfl) (hs : starEach (e :: es) X.env = (false, eval e X.env) :: starEach es X.env := by rfl) (hplain : (backTo cpos (starEach es X.env)).any (·.1) = false := by rfl) :
    PE X (.Call (.Attribute (.Name x xp) name apos) (e :: es) [] cpos) (tD c E (eMu i m fr)) := PE.imp (pe_bm PySem.F.plainAttrs_list slot hty hm ho ha hbase hfew hline hs hplain) fun _ _ _ h => v_mu hr h
def eMu0 (i : Nat) (m : List D → List D → Option (List D × D)) : En → Re (D × En) := fun δ => match δ[i]? with
  | some (.ow ds) => (opt (m ds [])).bd fun q => .ok (q.2, δ.set i (.ow q.1))
  | _ => .bad
theorem de_mu0 (slot : Slot "list" name id) (hty : typeOf (.builtin id) = pure (.type "method_descriptor")) (hm : MtR X id r) (hr : VMu r m) (ho : PE X (.Name x xp) (tVar i))
    (hbase : attributeBase (.Name x xp) name X.env (eval (.Name x xp) X.env) = eval (.Name x xp) X.env := by rfl) (hline : (apos.endLine == cpos.line) = true := by rfl) :
    PE X (.Call (.Attribute (.Name x xp) name apos) [] [] cpos) (tD c E (eMu0 i m)) := PE.imp (pe_bm0 PySem.F.plainAttrs_list slot hty hm ho hbase hline) fun σ H Q ⟨Hs, G, δ, S, q⟩ => by
  unfold eMu0 at q
  cases hi : δ[i]? with
  | none => rw [hi] at q; exact q.elim
  | some s => cases s with
    | ow ds =>
      rw [hi] at q
      simp only at q
      obtain ⟨l, xs, e1, h1, r1, w1⟩ := S.sl i _ hi
      refine ⟨.ref l, e1, .inl ⟨rfl, xs, SqL.of h1⟩, ?_⟩
      cases hz : m ds [] with
      | none => rw [hz] at q; exact q.elim
      | some z =>
        rw [hz] at q
        obtain ⟨ds', d⟩ := z
        exact hr c.K Hs H l xs [] ds [] ds' d h1 S.sh w1.1 r1 .nil hz Q fun xs' v rx rv => q Hs _ (Same.refl _) v (S.writeOw hi e1 rx) rv
    | _ => rw [hi] at q; exact q.elim
def mApp : List D → List D → Option (List D × D)
  | ds, [d] => if ds.length < 1000000 then some (ds ++ [d], .none) else none
  | _, _ => none
theorem vApp : VMu rAppend mApp := fun K Hs H l xs as ds es ds' d h s n r1 r2 e Q q => by
  unfold mApp at e
  split at e
  · split at e
    · rename_i hl
      cases e
      obtain ⟨v, rfl, rv⟩ := rpa1 r2
      exact ⟨l, xs, v, rfl, rfl, h, by rw [dpa_len r1]; exact Nat.lt_of_lt_of_le hl (by decide), q _ _ (dpa_append r1 (.cons rv .nil)) .non⟩
    · cases e
  · cases e
def mPop : List D → List D → Option (List D × D)
  | ds, [] => (ds[ds.length - 1]?).map fun d => (ds.dropLast, d)
  | _, _ => none
theorem vPop : VMu rPop mPop := fun K Hs H l xs as ds es ds' d h s n r1 r2 e Q q => by
  unfold mPop at e
  split at e
  · obtain ⟨z, e1, e2⟩ := Option.map_eq_some_iff.mp e
    cases e2
    cases r2
    obtain ⟨v, hv, rv⟩ := dpa_get r1 e1
    rw [← dpa_len r1] at hv
    exact ⟨l, xs, v, rfl, rfl, h, hv, q _ _ (dpa_last r1) rv⟩
  · cases e
def mPopAt : List D → List D → Option (List D × D)
  | ds, [.int i] => if -(2 ^ 63) ≤ i ∧ i < 2 ^ 63 then (seqIndex? i ds.length).bind fun k => (ds[k]?).map fun d => (ds.eraseIdx k, d) else none
  | _, _ => none
theorem vPopAt : VMu rPopAt mPopAt := fun K Hs H l xs as ds es ds' d h s n r1 r2 e Q q => by
  unfold mPopAt at e
  split at e
  · split at e
    · rename_i hb
      obtain ⟨k, e1, e2⟩ := Option.bind_eq_some_iff.mp e
      obtain ⟨z, e3, e4⟩ := Option.map_eq_some_iff.mp e2
      cases e4
      obtain ⟨v, rfl, rv⟩ := rpa1 r2
      cases rv
      obtain ⟨v, hv, rv⟩ := dpa_get r1 e3
      exact ⟨l, xs, _, k, v, rfl, rfl, h, hb.1, hb.2, by rw [dpa_len r1]; exact e1, hv, q _ _ (dpa_erase r1) rv⟩
    · cases e
  · cases e
def mRev : List D → List D → Option (List D × D)
  | ds, [] => some (ds.reverse, .none)
  | _, _ => none
theorem vRev : VMu rReverse mRev := fun K Hs H l xs as ds es ds' d h s n r1 r2 e Q q => by
  unfold mRev at e
  split at e
  · cases e
    cases r2
    exact ⟨l, xs, rfl, rfl, h, q _ _ (dpa_reverse r1) .non⟩
  · cases e
def mClr : List D → List D → Option (List D × D)
  | _, [] => some ([], .none)
  | _, _ => none
theorem vClr : VMu rClear mClr := fun K Hs H l xs as ds es ds' d h s n r1 r2 e Q q => by
  unfold mClr at e
  split at e
  · cases e
    cases r2
    exact ⟨l, xs, rfl, rfl, h, q _ _ .nil .non⟩
  · cases e
/-- x[i] = e, x an owned list -/
def stS (k : Nat) (fi fe : En → Re (D × En)) : En → Re Fl := fun δ => (fe δ).bd fun p => match p.2[k]? with
  | some (.ow _) => (fi p.2).bd fun q => match q.1 with
    | .int i => match q.2[k]? with
      | some (.ow ds) => (opt (ixN ds.length i)).bd fun j => .ok (.nx (q.2.set k (.ow (ds.set j p.1))))
      | _ => .bad
    | _ => .bad
  | _ => .bad
theorem ds_store {k : Nat} {fi fe : En → Re (D × En)} {ix : Expr} {spos : Pos} (hx : PE X (.Name x xp) (tVar k)) (hi : PE X ix (tD c E fi)) (he : PE X e (tD c E fe))
    (hs : swapsWithSole [.Subscript (.Name x xp) ix spos] e pos.line X.env = pure false := by rfl) (hw : swappedStores [.Subscript (.Name x xp) ix spos] e X.env = pure none := by rfl)
    (h1 : (assignEach [.Subscript (.Name x xp) ix spos] X.env).map (·.2) = [assign (.Subscript (.Name x xp) ix spos) X.env] := by rfl)
    (ha : ∀ v, assign (.Subscript (.Name x xp) ix spos) X.env v = (do
      let ov ← holding [v] (eval (.Name x xp) X.env)
      let iv ← holding [v, ov] (eval ix X.env)
      standAt spos
      holding [v, ov, iv] (setItem ov iv v)
      release [v, ov, iv] []) := by intro _; rfl) : PS X (.Assign [.Subscript (.Name x xp) ix spos] e pos) (tS c E (stS k fi fe)) := PS.imp (ps_asg he (pg_sub hx hi set_list ha) hs hw h1) fun σ H De ⟨Hs, G, δ, S, q⟩ =>
  ⟨Hs, G, δ, S, PoS.seq q fun d δ1 Hs1 H1 s1 q1 v S1 r1 => by
    simp only at q1
    cases hk : δ1[k]? with
    | none => rw [hk] at q1; exact q1.elim
    | some s => cases s with
      | ow ds0 =>
        rw [hk] at q1
        simp only at q1
        obtain ⟨l, xs0, e1, h1, _, _⟩ := S1.sl k _ hk
        refine ⟨.ref l, e1, Hs1, G, δ1, S1, PoS.seq q1 fun di δ2 Hs2 H2 s2 q2 iv S2 r2 => ?_⟩
        simp only at q2
        cases r2 with
        | int i =>
          simp only at q2
          cases hk2 : δ2[k]? with
          | none => rw [hk2] at q2; exact q2.elim
          | some s => cases s with
            | ow ds =>
              rw [hk2] at q2
              simp only at q2
              obtain ⟨l', xs, e2, h2, r3, _⟩ := S2.sl k _ hk2
              rw [e1] at e2
              cases e2
              cases hj : ixN ds.length i with
              | none => rw [hj] at q2; exact q2.elim
              | some j =>
                rw [hj] at q2
                refine ⟨l, xs, i, j, rfl, rfl, h2, by rw [dpa_len r3]; exact hj, q2 σ Hs2 _ (Same.refl _) (S2.writeOw hk2 e1 (dpa_set r3 (dp_mono s2 r1)))⟩
            | _ => rw [hk2] at q2; exact q2.elim
        | _ => exact False.elim q2
      | _ => rw [hk] at q1; exact q1.elim⟩
/-! ### loops -/
def forL (g : D → En → Option En) (F : En → Re Fl) : List D → En → Re Fl
  | [], δ => .ok (.nx δ)
  | d :: ds, δ => (opt (g d δ)).bd fun δ1 => match F δ1 with
    | .ok (.nx δ2) => forL g F ds δ2
    | .ok (.ct δ2) => forL g F ds δ2
    | .ok (.bk δ2) => .ok (.nx δ2)
    | r => r
def forS (fi : En → Re (List D × En)) (g : D → En → Option En) (F : En → Re Fl) : En → Re Fl := fun δ => (fi δ).bd fun p => forL g F p.1 p.2
theorem ds_for {tg iter : Expr} {body : List Stmt} {fi : En → Re (List D × En)} {ts : List Nat} {g : D → En → Option En} (hp : PassesOwn (model X.prog X.w) X.A X.env X.xe) (hc : X.calm = true) (hi : PI X tg iter (tI c E fi)) (hg : PG X tg (tG c ts g)) (hb : PSs X body (tS c E F))
    (hs : ∀ x, foldedSetIterable iter X.env x = pure x := by intro _; rfl) : PS X (.For tg iter body [] pos) (tS c E (forS fi g F)) := PS.imp (ps_for hp hc hi hg hb hs) fun σ H De ⟨Hs, G, δ, S, q⟩ =>
  ⟨Hs, G, δ, S, PoS.seq q fun ds δ1 Hs1 H1 s1 q1 J S1 it => by
    simp only at q1
    refine ⟨fun i m σ2 H2 => m = ds.length - i ∧ i ≤ ds.length ∧ ∃ Hs2 δ2, Same Hs1 Hs2 ∧ Sat c Hs2 G H2 σ2 δ2 ∧ PoS c E Hs2 G De (forL g F (ds.drop i) δ2),
      ⟨ds.length, by simp, Nat.zero_le _, Hs1, δ1, Same.refl _, S1, by simpa using q1⟩, ?_⟩
    rintro i m σ2 H2 ⟨rfl, hi, Hs2, δ2, s2, S2, q2⟩
    by_cases hlt : i < ds.length
    · right
      obtain ⟨hgo, hstep⟩ := (it Hs2 _ H2 σ2 δ2 s2 S2).1 i ds[i] (by simp [hlt])
      rw [List.drop_eq_getElem_cons hlt] at q2
      unfold forL at q2
      refine ⟨hgo, _, fun σ' H' n => ⟨ds.length - (i + 1), by omega, n⟩, fun x H' y => ?_⟩
      obtain ⟨Hs3, s3, S3, r3⟩ := hstep x H' y
      cases hg : g ds[i] δ2 with
      | none => rw [hg] at q2; exact q2.elim
      | some δ3 =>
        rw [hg] at q2
        simp only [opt_some, Re.bd_ok] at q2
        refine ⟨Hs3, G, δ2, ds[i], δ3, S3, r3, hg, fun σ4 S4 w => ?_⟩
        refine ⟨Hs3, G, δ3, S4, ?_⟩
        have q3 := PoS.mono s3 q2
        cases hF : F δ3 with
        | bad => rw [hF] at q3; exact q3
        | er e => rw [hF] at q3; exact q3
        | ok r =>
          rw [hF] at q3
          cases r with
          | nx δ5 => exact fun σ' Hs' H' s S' => ⟨rfl, hlt, Hs', δ5, (s2.trans s3).trans s, S', PoS.mono s q3⟩
          | ct δ5 => exact fun σ' Hs' H' s S' => ⟨rfl, hlt, Hs', δ5, (s2.trans s3).trans s, S', PoS.mono s q3⟩
          | bk δ5 => exact fun σ' Hs' H' s S' => q3 σ' Hs' H' s S'
          | rt d δ5 => exact q3
          | rf ds δ5 => exact q3
          | rf2 ds δ5 => exact q3
    · left
      have e : i = ds.length := by omega
      subst e
      refine ⟨(it Hs2 _ H2 σ2 δ2 s2 S2).2 _ (Nat.le_refl _), ?_⟩
      rw [List.drop_length] at q2
      exact q2 σ2 Hs2 H2 (Same.refl _) S2⟩
def whL (t : En → Re (Bool × En)) (F : En → Re Fl) : Nat → En → Re Fl
  | 0, _ => .bad
  | n + 1, δ => (t δ).bd fun p => match p.1 with
    | false => .ok (.nx p.2)
    | true => match F p.2 with
      | .ok (.nx δ2) => whL t F n δ2
      | .ok (.ct δ2) => whL t F n δ2
      | .ok (.bk δ2) => .ok (.nx δ2)
      | r => r
def whS (n : En → Nat) (t : En → Re (Bool × En)) (F : En → Re Fl) : En → Re Fl := fun δ => whL t F (n δ) δ
theorem ds_while {test : Expr} {body : List Stmt} (n : En → Nat) (hp : PassesOwn (model X.prog X.w) X.A X.env X.xe) (ht : PT X test (tT c E t)) (hb : PSs X body (tS c E F)) : PS X (.While test body [] pos) (tS c E (whS n t F)) := PS.imp (ps_while hp ht hb) fun σ H De ⟨Hs, G, δ, S, q⟩ => by
  refine ⟨fun m σ2 H2 => ∃ Hs2 δ2, Sat c Hs2 G H2 σ2 δ2 ∧ PoS c E Hs2 G De (whL t F m δ2), ⟨n δ, Hs, δ, S, q⟩, ?_⟩
  rintro m σ2 H2 ⟨Hs2, δ2, S2, q2⟩
  cases m with
  | zero => exact q2.elim
  | succ m =>
    unfold whL at q2
    refine ⟨Hs2, G, δ2, S2, PoS.seq q2 fun b δ3 Hs3 H3 s3 q3 S3 => ?_⟩
    cases b with
    | false =>
      show if false = true then _ else _
      rw [if_neg Bool.false_ne_true]
      exact q3 σ2 Hs3 H3 (Same.refl _) S3
    | true =>
      show if true = true then _ else _
      rw [if_pos rfl]
      simp only at q3
      refine ⟨fun σ' H' => ∃ Hs2 δ2, Sat c Hs2 G H' σ' δ2 ∧ PoS c E Hs2 G De (whL t F m δ2), fun σ' H' n => ⟨m, Nat.lt_succ_self m, n⟩, Hs3, G, δ3, S3, ?_⟩
      cases hF : F δ3 with
      | bad => rw [hF] at q3; exact q3
      | er e => rw [hF] at q3; exact q3
      | ok r =>
        rw [hF] at q3
        cases r with
        | nx δ5 => exact fun σ' Hs' H' s S' => ⟨Hs', δ5, S', PoS.mono s q3⟩
        | ct δ5 => exact fun σ' Hs' H' s S' => ⟨Hs', δ5, S', PoS.mono s q3⟩
        | bk δ5 => exact fun σ' Hs' H' s S' => q3 σ' Hs' H' s S'
        | rt d δ5 => exact q3
        | rf ds δ5 => exact q3
        | rf2 ds δ5 => exact q3
end
end DL

/-! DLG: promises of defs that hold where no repr is under way -/
namespace DL
open PySem PySem.Spec PyProof.Rows L2
structure RoomG (k : Nat) (A : Around) : Prop extends Room k A where
  gd : A.guards = some []
theorem RoomG.mono {j k : Nat} {A : Around} (r : RoomG k A) (h : j ≤ k) : RoomG j A := ⟨r.toRoom.mono h, r.gd⟩
theorem RoomG.deeper {k : Nat} {A : Around} (r : RoomG (k + 1) A) (env : Env) : RoomG k (A.deeper env) := ⟨r.toRoom.deeper env, r.gd⟩
structure FnOkG (P : Program) (w : World) (K : PySem.W.Frag) (mg : Str → Option Value) (base : Heap) (CX : CXT) (k : Nat) (f : Addr) (fd : FuncData) (ps : List Str) (sp : Sp) : Prop where
  len : ∀ vs H Q E, sp vs H Q E → vs.length = ps.length
  run : ∀ (A : Around) (outer : List Env) (s : Shared) (H : Hp) (args : Args) (us : List Value) (vs : List V) (Q : VK) (E : XK), RoomG k A → Env0 P w K mg base A outer s H →
    BindsTo s fd args (ps.zip us) → Vals vs us → sp vs H Q E → codeAny (model P w) A (.call (.ref f) args) (CR CX outer P w H s Q E) s
theorem FnOkG.imp {P : Program} {w : World} {K : PySem.W.Frag} {mg : Str → Option Value} {base : Heap} {CX : CXT} {k : Nat} {f : Addr} {fd : FuncData} {ps : List Str} {sp sp' : Sp} (F : FnOkG P w K mg base CX k f fd ps sp)
    (h : ∀ vs H Q E, sp' vs H Q E → sp vs H Q E) : FnOkG P w K mg base CX k f fd ps sp' :=
  ⟨fun vs H Q E z => F.len vs H Q E (h _ _ _ _ z), fun A outer s H args us vs Q E r1 r2 r3 r4 z => F.run A outer s H args us vs Q E r1 r2 r3 r4 (h _ _ _ _ z)⟩
section
variable {P : Program} {w : World} {K : PySem.W.Frag} {mg : Str → Option Value} {base : Heap}
theorem fun_okG {x qual : Str} {st : Stmt} {f : Addr} {fd : FuncData} {N ps : List Str} {k : Nat} {sp : Sp} (F : Fun K x qual st f fd) (S : FnScope N ps (defScope st)) (len : ∀ vs H Q E, sp vs H Q E → vs.length = ps.length)
    (body : ∀ (cdv : Value) (A : Around) (outer : List Env) (s : Shared) (H : Hp) (vs : List V) (Q : VK) (E : XK), RoomG k (A.deeper (envOfC qual (defScope st) s.heap.objs.size f cdv)) → sp vs H Q E →
      ∃ t, PSs (cxOf (L2.CX P w) P w K mg base N qual (defScope st) f cdv A outer s H E) (defBody st) t ∧ t { nx := fun _ H' => Q .non H', rt := Q } (start N vs) H) : FnOkG P w K mg base (L2.CX P w) (k + 1) f fd ps sp := by
  obtain ⟨oc, od, kV, doc, pm, an, cdv, ct, osl, rfl, lk, code⟩ := F.ex
  constructor
  · exact len
  intro A outer s H args us vs Q E room e0 bnd rv hsp
  have nvs := len _ _ _ _ hsp
  have kin : K.In s.heap := e0.mod.kin.keeps fun b o e => (e0.bs b o e).1
  have lim : s.heap.NoLimit := e0.mod.nolimit.keeps fun b o e => (e0.bs b o e).1
  have kinds : ∀ z ∈ ps.zip us, (defScope st).names.lookup z.1 = some .local ∨ ((defScope st).names.lookup z.1 = some .cell ∧ ((cellsFrom (s.heap.objs.size + 1) (defScope st).names []).lookup z.1).isSome = true) := by
    rintro ⟨n, v⟩ hz
    cases S.par n (List.of_mem_zip hz).1 with
    | inl z => exact .inl z
    | inr z => exact .inr ⟨z, PySem.W.cellsFrom_some _ _ _ (.inl z)⟩
  refine codeAny_call_function room.toRoom.depth (kin _ _ lk) rfl S.co S.gen rfl (PySem.W.codeRec_of kin code) (bnd _ _ _ _ ?_)
  refine wpAny_newFunctionEnv_cells S.kind kinds fun env henv s1 made => ?_
  cases henv
  refine ⟨lim.keeps made.toInCall.keep, codeAny_func ?_⟩
  obtain ⟨t, run, start⟩ := body cdv A outer s H vs Q E (room.deeper _) hsp
  have I := inv_start (CX := L2.CX P w) (E := E) S room.hd e0 nvs rv made
  refine wpAny_mono (run.run [] s1 (L2.start N vs) H _ I start) (fun fl s' z => ?_) fun e s' z => z
  cases fl with
  | ret u =>
    obtain ⟨v, σ', H', J, r, q⟩ := z
    exact ⟨v, H', J.os, J.bare, J.base, J.hok, r, q⟩
  | next =>
    obtain ⟨σ', H', J, q⟩ := z
    exact ⟨V.non, H', J.os, J.bare, J.base, J.hok, rfl, q⟩
  | brk => exact (z.elim fun _ z => z.elim fun _ z => z.2).elim
  | cont => exact (z.elim fun _ z => z.elim fun _ z => z.2).elim
end
section
variable {X : Cx} {CX : CXT} {k : Nat} {f : Addr} {fd : FuncData} {ps ks : List Str} {sp : Sp} {E : XK} {x : Str} {p pos : Pos} {e : Expr} {es : List Expr} {kws : List Keyword} {t tk : TA} {ds : List Value} {dvs : List V} {g : List Value → List Value → List Value} {gV : List V → List V → List V}
theorem run_fnG {pins : List (Addr × Obj)} {σ : L2.St} {H : Hp} {s : Shared} {Q : VK} {us : List Value} {vs : List V} (F : FnOkG X.prog X.w X.K X.mg X.base CX k f fd ps sp) (room : RoomG k X.A) (bnd : Binds X.K fd ps ds) (dv : Vals dvs ds) (pass : Passes CX X E)
    (I : Inv X pins σ H s) (r : Vals vs us) (h : sp (vs ++ dvs) H Q E) : wpAny (model X.prog X.w) X.A (call (.ref f) us) (EP X pins σ Q) X.xe s := by
  have all : Vals (vs ++ dvs) (us ++ ds) := r.append dv
  have num : (us ++ ds).length = ps.length := all.length.symm.trans (F.len _ _ _ _ h)
  have c := F.run X.A X.stack s H ⟨us, []⟩ (us ++ ds) (vs ++ dvs) Q E room I.env0 (bnd s us I.kIn num) all h
  refine wpAny_call (codeAny_mono c fun r s' z => ?_)
  match r, z with
  | .error e, z => exact pass pins σ H s e s' I z
  | .ok (.ret u), z => exact I.after z
  | .ok .next, z => exact z.elim
  | .ok .brk, z => exact z.elim
  | .ok .cont, z => exact z.elim
theorem pe_callG (F : FnOkG X.prog X.w X.K X.mg X.base CX k f fd ps sp) (room : RoomG k X.A) (hg : Gl X x) (hm : X.mg x = some (.ref f)) (kept : PySem.W.keepIn X.K (.ref f) = true) (bnd : Binds X.K fd ps ds) (dv : Vals dvs ds) (pass : Passes CX X E)
    (ha : PA X (e :: es) t) (hdb : (x == ("__debug__" : Str)) = false := by decide) (he : starEach (e :: es) X.env = (false, eval e X.env) :: starEach es X.env := by rfl) (hpl : (backTo pos (starEach es X.env)).any (·.1) = false := by rfl) : PE X (.Call (.Name x p) (e :: es) [] pos) (tCall sp dvs E t) where
  run := fun pins s σ H Q I h => wpAny_Call_Name_kw (ld_glob I hg hm (PySem.W.callWith_K (h₀ := X.base) I.ok.mod.kin kept (thn (ha.run pos pins s σ H _ I h) fun us s1 ⟨vs, H1, I1, r, q⟩ => ⟨I1.kIn, run_fnG F room bnd dv pass I1 r q⟩) he hpl) hdb)
theorem run_fnkG {pins : List (Addr × Obj)} {σ : L2.St} {H : Hp} {s : Shared} {Q : VK} {us ws : List Value} {vs zs : List V} (F : FnOkG X.prog X.w X.K X.mg X.base CX k f fd ps sp) (room : RoomG k X.A) (bnd : KBinds X.K fd ps ks g gV) (pass : Passes CX X E)
    (I : Inv X pins σ H s) (r : Vals vs us) (rz : Vals zs ws) (h : sp (gV vs zs) H Q E) : wpAny (model X.prog X.w) X.A (call (.ref f) us (ks.zip ws)) (EP X pins σ Q) X.xe s := by
  have all := bnd.rel r rz
  have num : (g us ws).length = ps.length := all.length.symm.trans (F.len _ _ _ _ h)
  have c := F.run X.A X.stack s H ⟨us, ks.zip ws⟩ (g us ws) (gV vs zs) Q E room I.env0 (bnd.to s us ws I.kIn num) all h
  refine wpAny_call (codeAny_mono c fun r s' z => ?_)
  match r, z with
  | .error e, z => exact pass pins σ H s e s' I z
  | .ok (.ret u), z => exact I.after z
  | .ok .next, z => exact z.elim
  | .ok .brk, z => exact z.elim
  | .ok .cont, z => exact z.elim
theorem pe_callKG (F : FnOkG X.prog X.w X.K X.mg X.base CX k f fd ps sp) (room : RoomG k X.A) (hg : Gl X x) (hm : X.mg x = some (.ref f)) (kept : PySem.W.keepIn X.K (.ref f) = true) (bnd : KBinds X.K fd ps ks g gV) (pass : Passes CX X E)
    (ha : PA X (e :: es) t) (hkw : PK X kws tk) (hall : (backToKw pos (keywordEach kws X.env)).all (·.1.isSome) = true := by rfl) (hks : (backToKw pos (keywordEach kws X.env)).filterMap (·.1) = ks := by rfl)
    (hdb : (x == ("__debug__" : Str)) = false := by decide) (he : starEach (e :: es) X.env = (false, eval e X.env) :: starEach es X.env := by rfl)
    (hpl : ((backTo pos (starEach (e :: es) X.env)).any (·.1) || (backToKw pos (keywordEach kws X.env)).any (·.1.isNone)) = false := by rfl) : PE X (.Call (.Name x p) (e :: es) kws pos) (tCallK sp gV E t tk) where
  run := fun pins s σ H Q I h => wpAny_Call_Name_kw (ld_glob I hg hm (PySem.W.callWith_KW (h₀ := X.base) I.ok.mod.kin kept hall (thn (ha.run pos pins s σ H _ I h) fun us s1 ⟨vs, H1, I1, r, q⟩ => thn (hkw.run pos pins s1 σ H1 _ I1 q) fun ws s2 ⟨zs, H2, I2, rz, q2⟩ => ⟨I2.kIn, by
    rw [hks]
    exact run_fnkG F room bnd pass I2 r rz q2⟩) hpl he) hdb)
theorem pe_ck0G (F : FnOkG X.prog X.w X.K X.mg X.base CX k f fd ps sp) (room : RoomG k X.A) (hg : Gl X x) (hm : X.mg x = some (.ref f)) (kept : PySem.W.keepIn X.K (.ref f) = true) (bnd : KBinds X.K fd ps ks g gV) (pass : Passes CX X E)
    (hkw : PK X kws tk) (hall : (backToKw pos (keywordEach kws X.env)).all (·.1.isSome) = true := by rfl) (hks : (backToKw pos (keywordEach kws X.env)).filterMap (·.1) = ks := by rfl)
    (hdb : (x == ("__debug__" : Str)) = false := by decide) (hpl : ((backTo pos (starEach [] X.env)).any (·.1) || (backToKw pos (keywordEach kws X.env)).any (·.1.isNone)) = false := by rfl) : PE X (.Call (.Name x p) [] kws pos) (tCallK sp gV E tNil tk) where
  run := fun pins s σ H Q I h => wpAny_Call_Name_kw (ld_glob I hg hm (PySem.W.callWith_KW0 (h₀ := X.base) I.ok.mod.kin kept hall (thn (hkw.run pos pins s σ H _ I h) fun ws s2 ⟨zs, H2, I2, rz, q2⟩ => ⟨I2.kIn, by
    rw [hks]
    exact run_fnkG F room bnd pass I2 .nil rz q2⟩) hpl) hdb)
end
/-! the law's call -/
section
variable {P : Program} {w : World} {K : PySem.W.Frag} {mg mb : Str → Option Value} {CX : CXT} {k : Nat} {fa a : Addr} {fd : FuncData} {x : Str} {sp : Sp} {s1 : Shared} {vs : List Value} {ns : List Int}
def Ends1 (s1 : Shared) : Result → Shared → Prop := fun r s' => r = .ok (.ret (.bool true)) ∧ OldK s1.heap s'.heap ∧ s'.os = s1.os ∧ AllBare s'.gens
theorem core_callG {H : Hp} (kin : K.In s1.heap) (nsm : s1.heap.Ns mainGlobals mg) (nsb : s1.heap.Ns builtinsNs mb) (boot : ∀ x : Str, x ≠ "__name__" → mb x = bootBuiltins x) (lim : s1.heap.NoLimit) (nog : s1.gens = #[])
    (obj : s1.heap.get? a = some { cls := .type "list", data := .seq vs.toArray }) (room : RoomG k callerA) (F : ∀ base : Heap, K.In base → base.Ns mainGlobals mg → FnOkG P w K mg base CX k fa fd [x] sp) (bnd : ∀ (s : Shared) (u : Value), BindsTo s fd ⟨[u], []⟩ [(x, u)])
    (hsp : sp [.ref a] H (fun v _ => v = .bl true) fun _ _ _ => False) (err : ∀ e s', CX [] H s1 (fun _ _ _ => False) e s' → False) (only : Only H) (hok : HOk P w H s1.heap) (one : ∀ b, H b ≠ none → b = a) (free : H a ≠ none → K.lookup a = none) :
    codeAny (model P w) callerA (.call (.ref fa) ⟨[.ref a], []⟩) (Ends1 s1) s1 := by
  have isA : ∀ {b : Addr} {u : HO}, H b = some u → b = a := fun {b u} z => one b (by rw [z]; exact fun z => nomatch z)
  have keep : ∀ {b : Addr} {o : Obj}, s1.heap.get? b = some o → H b = none → (hidT s1.heap H).get? b = some o := fun z n => hidT_get z n
  have dictFree : ∀ {b : Addr} {o : Obj} {es : Array DictEntry} {ep : Nat}, s1.heap.get? b = some o → o.data = .dict es ep → H b = none := fun {b o es ep} z d => by
    cases q : H b with
    | none => rfl
    | some u =>
      obtain rfl := isA q
      rw [obj] at z
      cases z
      exact nomatch (show Data.seq vs.toArray _ = Data.dict es ep from d)
  have nsT : ∀ {b : Addr} {m : Str → Option Value}, s1.heap.Ns b m → (hidT s1.heap H).Ns b m := fun {b m} ⟨o, es, ep, z, d, r⟩ => ⟨o, es, ep, keep z (dictFree z d), d, r⟩
  have kinT : K.In (hidT s1.heap H) := fun b o z => keep (kin b o z) (by
    cases q : H b with
    | none => rfl
    | some u =>
      obtain rfl := isA q
      rw [free (by rw [q]; exact fun z => nomatch z)] at z
      cases z)
  obtain ⟨mc, l1, l2⟩ := lim
  have top : Mod K mg (hidT s1.heap H) := ⟨kinT, nsT nsm, ⟨mb, nsT nsb, boot⟩, ⟨mc, nsT l1, l2⟩⟩
  have env : Env0 P w K mg (hidT s1.heap H) callerA [] s1 H := { frames := rfl, mod := top, bs := fun b o z => of_hidT z, bsz := Nat.le_of_eq (hidT_size _ _), funs := trivial, frf := (fun b hb => nomatch hb), hok := hok, bare := .of_eq nog }
  have ran := (F _ kinT (nsT nsm)).run callerA [] s1 H ⟨[.ref a], []⟩ [.ref a] [.ref a] _ _ room env (bnd s1 (.ref a)) (.cons rfl .nil) hsp
  refine codeAny_mono ran fun r s' z => ?_
  match r, z with
  | .error e, z => exact (err e s' z).elim
  | .ok .next, z => exact z.elim
  | .ok .brk, z => exact z.elim
  | .ok .cont, z => exact z.elim
  | .ok (.ret u), ⟨v, H', os, bare, un, hok', rel, q⟩ =>
    cases (show v = .bl true from q)
    cases (show u = Value.bool true from rel)
    refine ⟨rfl, OldK.of_keep fun b o z => ?_, os, bare⟩
    cases qb : H b with
    | none => exact un.keep b o z qb (fun m => nomatch m) (by simp)
    | some u =>
      rcases only b with n | ⟨ob, xs, y⟩
      · rw [qb] at n; cases n
      · have y' := un.frzs b ob _ y
        have e1 := (hok b _ y).1
        have e2 := (hok' b _ y').1
        rw [z] at e1
        cases e1
        exact e2
theorem law_callG (kin : K.In s1.heap) (nsm : s1.heap.Ns mainGlobals mg) (nsb : s1.heap.Ns builtinsNs mb) (boot : ∀ x : Str, x ≠ "__name__" → mb x = bootBuiltins x) (lim : s1.heap.NoLimit) (nog : s1.gens = #[])
    (obj : s1.heap.get? a = some { cls := .type "list", data := .seq vs.toArray }) (inums : IntsAre vs ns) (num : ns.length ≤ sizeLine) (room : RoomG k callerA) (F : ∀ base : Heap, K.In base → base.Ns mainGlobals mg → FnOkG P w K mg base CX k fa fd [x] sp) (bnd : ∀ (s : Shared) (u : Value), BindsTo s fd ⟨[u], []⟩ [(x, u)])
    (hsp : ∀ H : Hp, Only H → SqL K H a (ns.map V.int) → sp [.ref a] H (fun v _ => v = .bl true) fun _ _ _ => False) (err : ∀ H e s', CX [] H s1 (fun _ _ _ => False) e s' → False) :
    codeAny (model P w) callerA (.call (.ref fa) ⟨[.ref a], []⟩) (Ends1 s1) s1 := by
  have rv := vals_ints inums
  cases look : K.lookup a with
  | some o =>
    have z := kin a o look
    rw [obj] at z
    cases z
    have only : Only fun _ => none := fun _ => .inl rfl
    have sq : SqL K (fun _ => none) a (ns.map V.int) := .inr ⟨_, vs.toArray, _, look, rfl, rfl, rfl, by rw [List.size_toArray, inums.length]; exact num, by simpa using rv⟩
    exact core_callG kin nsm nsb boot lim nog obj room F bnd (hsp _ only sq) (err _) only (fun b u z => nomatch (show (none : Option HO) = some u from z)) (fun b z => absurd rfl z) fun z => absurd rfl z
  | none =>
    obtain ⟨Hf, hf⟩ : ∃ Hf : Hp, Hf = fun b => if b = a then some (.frz { cls := .type "list", data := .seq vs.toArray } (.lst (ns.map V.int))) else none := ⟨_, rfl⟩
    have atA : Hf a = some (.frz { cls := .type "list", data := .seq vs.toArray } (.lst (ns.map V.int))) := by rw [hf]; exact if_pos rfl
    have off : ∀ b, b ≠ a → Hf b = none := fun b n => by rw [hf]; exact if_neg n
    have only : Only Hf := fun b => by
      by_cases z : b = a
      · subst z; exact .inr ⟨_, _, atA⟩
      · exact .inl (off b z)
    refine core_callG kin nsm nsb boot lim nog obj room F bnd (hsp Hf only (.inl (.inr ⟨_, atA⟩))) (err _) only (fun b u z => ?_) (fun b z => ?_) fun _ => look
    · by_cases y : b = a
      · subst y
        rw [atA] at z
        cases z
        exact ⟨obj, by rw [List.length_map]; exact num, vs, _, rv, obj⟩
      · rw [off b y] at z; cases z
    · exact Classical.byContradiction fun y => z (off b y)
end
theorem walk_ofG {l : PySem.W.OpenLaw} {n k : Nat} {q : Program} {loose : List Str} {XP : (Str → Option Value) → Heap → Prop} {YP : World → Heap → Prop} {d : DefRec} {K : Params → PySem.W.Frag} {CX : World → CXT} {sp : World → Sp} {x : Str}
    (most : l.most = some n) (small : n ≤ sizeLine) (nodf : d.params.defaults = []) (room : RoomG k callerA) (hY : ∀ (w : World) (h : Heap), YP w h → (K w.params).In h)
    (F : ∀ (w : World) (mg : Str → Option Value) (fa : Addr) (h : Heap), (K w.params).In h → h.Ns mainGlobals mg → mg d.name = some (.ref fa) → ∃ fd : FuncData, (∀ (s : Shared) (u : Value), BindsTo s fd ⟨[u], []⟩ [(x, u)]) ∧ ∀ base : Heap, (K w.params).In base → base.Ns mainGlobals mg → FnOkG l.prog w (K w.params) mg base (CX w) k fa fd [x] (sp w))
    (hsp : ∀ (w : World) (H : Hp) (a : Addr) (ns : List Int), ns.length ≤ n → SqL (K w.params) H a (ns.map V.int) → sp w [.ref a] H (fun v _ => v = .bl true) fun _ _ _ => False) (err : ∀ (w : World) (H : Hp) (s : Shared) (e : Value) (s' : Shared), CX w [] H s (fun _ _ _ => False) e s' → False) :
    PySem.W.WalkO q loose XP YP l.row.toRowW d [] (fun f vs => PySem.call f vs) := Att.attach_call most nodf fun w s₀ s₁ mg mb fa o pm cd doc a vs ns G Y ho hd hcd hmg hobj hints hlen hg => by
  obtain ⟨fd, bnd, ok⟩ := F w mg fa _ (hY w _ Y) G.T.g hmg
  exact law_callG (hY w _ Y) G.T.g G.T.b G.T.builtins G.T.nolimit hg hobj hints (Nat.le_trans hlen small) room ok bnd (fun H _ sq => hsp w H a ns hlen sq) fun H e s' => err w H s₁ e s'
theorem walk_ofGB {l : PySem.W.OpenLaw} {n k : Nat} {q : Program} {loose : List Str} {XP : (Str → Option Value) → Heap → Prop} {YP : World → Heap → Prop} {d : DefRec} {K : Params → PySem.W.Frag} {CX : World → CXT} {sp : World → Sp} {x : Str}
    (most : l.most = some n) (small : n ≤ sizeLine) (nodf : d.params.defaults = []) (room : RoomG k callerA) (hY : ∀ (w : World) (h : Heap), YP w h → (K w.params).In h)
    (F : ∀ (w : World) (mg : Str → Option Value) (fa : Addr) (h : Heap), (K w.params).In h → h.Ns mainGlobals mg → mg d.name = some (.ref fa) → ∃ fd : FuncData, (∀ (s : Shared) (u : Value), BindsTo s fd ⟨[u], []⟩ [(x, u)]) ∧ ∀ base : Heap, (K w.params).In base → base.Ns mainGlobals mg → FnOkG l.prog w (K w.params) mg base (CX w) k fa fd [x] (sp w))
    (hsp : ∀ (w : World) (H : Hp) (a : Addr) (ns : List Int), ns.length ≤ n → (∀ z ∈ ns, Builtin.Int.intBits z ≤ 1048576) → SqL (K w.params) H a (ns.map V.int) → sp w [.ref a] H (fun v _ => v = .bl true) fun _ _ _ => False) (err : ∀ (w : World) (H : Hp) (s : Shared) (e : Value) (s' : Shared), CX w [] H s (fun _ _ _ => False) e s' → False) :
    PySem.W.WalkO q loose XP YP l.row.toRowW d [] (fun f vs => PySem.call f vs) := Att.attach_callB most nodf fun w s₀ s₁ mg mb fa o pm cd doc a vs ns G Y ho hd hcd hmg hobj hints hlen hbits hg => by
  obtain ⟨fd, bnd, ok⟩ := F w mg fa _ (hY w _ Y) G.T.g hmg
  exact law_callG (hY w _ Y) G.T.g G.T.b G.T.builtins G.T.nolimit hg hobj hints (Nat.le_trans hlen small) room ok bnd (fun H _ sq => hsp w H a ns hlen hbits sq) fun H e s' => err w H s₁ e s'
end DL

/-! DL6: defs and their calls over data -/
namespace DL
open PySem L2

/-- what is new in the stable part was not there -/
def Nw (H Hs Hs' : Hp) : Prop := ∀ a o, Hs' a = some o → Hs a = some o ∨ H a = none
def XOkK (K : PySem.W.Frag) (mg : Str → Option Value) (E : XK) (Hs H : Hp) (e : Er) : Prop := match e.pay with
  | none => ∀ C, mg e.cls = some (.ref C) → E (.ref C) none H
  | some (f, d) => ∀ C dx v, mg e.cls = some (.ref C) → H dx = some (.xd [(f, v)]) → Rp K Hs v d → E (.ref C) (some dx) H
/-- a def that changes nothing; it hands back stable data | a new list -/
def PoP (K : PySem.W.Frag) (mg : Str → Option Value) (Hs H : Hp) (Q : VK) (E : XK) : Re D → Prop
  | .bad => False
  | .er e => ∀ Hs' H', Same Hs Hs' → Same Hs' H' → Same H H' → Nw H Hs Hs' → XOkK K mg E Hs' H' e
  | .ok d => ∀ v Hs' H', Same Hs Hs' → Same Hs' H' → Same H H' → Nw H Hs Hs' → Rp K Hs' v d → Q v H'
def PoPF (K : PySem.W.Frag) (mg : Str → Option Value) (Hs H : Hp) (Q : VK) (E : XK) : Re (List D) → Prop
  | .bad => False
  | .er e => ∀ Hs' H', Same Hs Hs' → Same Hs' H' → Same H H' → Nw H Hs Hs' → XOkK K mg E Hs' H' e
  | .ok ds => ∀ p xs Hs' H', Same Hs Hs' → Same Hs' H' → Same H H' → Nw H Hs Hs' → Hs' p = none → H p = none → H' p = some (.lst xs) → RpAll K Hs' xs ds → Q (.ref p) H'
def spP (K : PySem.W.Frag) (mg : Str → Option Value) (F : List D → Re D) : Sp := fun vs H Q E => ∃ Hs ds, Same Hs H ∧ RpAll K Hs vs ds ∧ PoP K mg Hs H Q E (F ds)
def spPF (K : PySem.W.Frag) (mg : Str → Option Value) (F : List D → Re (List D)) : Sp := fun vs H Q E => ∃ Hs ds, Same Hs H ∧ RpAll K Hs vs ds ∧ PoPF K mg Hs H Q E (F ds)
/-- a def that changes its first argument, a list -/
def PoM (K : PySem.W.Frag) (mg : Str → Option Value) (a : Addr) (Hs H : Hp) (Q : VK) (E : XK) : Re (D × List D) → Prop
  | .bad => False
  | .er _ => False
  | .ok (d, s) => ∀ v xs Hs' H', Same Hs Hs' → Same Hs' H' → (∀ b o, b ≠ a → H b = some o → H' b = some o) → Nw H Hs Hs' → Hs' a = none → H' a = some (.lst xs) → RpAll K Hs' xs s → Rp K Hs' v d → Q v H'
def PoMF (K : PySem.W.Frag) (mg : Str → Option Value) (a : Addr) (Hs H : Hp) (Q : VK) (E : XK) : Re (List D × List D) → Prop
  | .bad => False
  | .er _ => False
  | .ok (d, s) => ∀ p ys xs Hs' H', Same Hs Hs' → Same Hs' H' → (∀ b o, b ≠ a → H b = some o → H' b = some o) → Nw H Hs Hs' → Hs' a = none → H' a = some (.lst xs) → RpAll K Hs' xs s → Hs' p = none → H p = none → H' p = some (.lst ys) → RpAll K Hs' ys d → Q (.ref p) H'
def spM (K : PySem.W.Frag) (mg : Str → Option Value) (F : List D → List D → Re (D × List D)) : Sp := fun vs H Q E => ∃ Hs a xs src ws ds, vs = V.ref a :: ws ∧ Same Hs H ∧ Hs a = none ∧ H a = some (.lst xs) ∧ RpAll K Hs xs src ∧ RpAll K Hs ws ds ∧ PoM K mg a Hs H Q E (F src ds)
def spMF (K : PySem.W.Frag) (mg : Str → Option Value) (F : List D → List D → Re (List D × List D)) : Sp := fun vs H Q E => ∃ Hs a xs src ws ds, vs = V.ref a :: ws ∧ Same Hs H ∧ Hs a = none ∧ H a = some (.lst xs) ∧ RpAll K Hs xs src ∧ RpAll K Hs ws ds ∧ PoMF K mg a Hs H Q E (F src ds)

/-! ### from a body to the promise -/
/-- the heap but one object -/
noncomputable def but (H : Hp) (a : Addr) : Hp := fun b => open Classical in if b = a then none else H b
theorem but_ne {H : Hp} {a b : Addr} {o : HO} (h : but H a b = some o) : b ≠ a ∧ H b = some o := by
  unfold but at h
  split at h
  · cases h
  · rename_i n; exact ⟨n, h⟩
theorem but_self {H : Hp} {a : Addr} : but H a a = none := by unfold but; rw [if_pos rfl]
theorem but_of {H : Hp} {a b : Addr} (n : b ≠ a) : but H a b = H b := by unfold but; rw [if_neg n]
theorem nw_but {H Hs Hs' : Hp} {a : Addr} (h : ∀ b o, Hs' b = some o → Hs b = some o ∨ but H a b = none) (n : Hs' a = none) : Nw H Hs Hs' := fun b o e => by
  rcases h b o e with z | z
  · exact .inl z
  · by_cases c : b = a
    · subst c; rw [n] at e; cases e
    · rw [but_of c] at z; exact .inr z
def en0 (n : Nat) (ds : List D) : En := ds.map .sh ++ List.replicate (n - ds.length) .no
def dfP (np n : Nat) (F : En → Re Fl) (ds : List D) : Re D := if ds.length = np then (match F (en0 n ds) with
  | .bad => .bad
  | .er e => .er e
  | .ok (.nx _) => .ok .none
  | .ok (.rt d _) => .ok d
  | .ok _ => .bad) else .bad
def en1 (n : Nat) (src ds : List D) : En := .ow src :: (ds.map .sh ++ List.replicate (n - (ds.length + 1)) .no)
def fin1 (d : D) (δ : En) : Re (D × List D) := match δ[(0 : Nat)]? with
  | some (.ow s) => .ok (d, s)
  | _ => .bad
def dfM (np n : Nat) (F : En → Re Fl) (src ds : List D) : Re (D × List D) := if ds.length = np then (match F (en1 n src ds) with
  | .bad => .bad
  | .er e => .er e
  | .ok (.nx δ) => fin1 .none δ
  | .ok (.rt d δ) => fin1 d δ
  | .ok _ => .bad) else .bad
section
variable {P : Program} {w : World} {K : PySem.W.Frag} {mg : Str → Option Value} {base : Heap}
theorem start_at {N : List Str} {vs : List V} {i : Nat} {v : V} (h : vs[i]? = some v) : (L2.start N vs)[i]? = some (some v) := by
  unfold L2.start
  have hl := (List.getElem?_eq_some_iff.mp h).1
  rw [List.getElem?_append_left (by simpa using hl), List.getElem?_map, h]
  rfl
theorem start_len {N : List Str} {vs : List V} : (L2.start N vs).length = vs.length + (N.length - vs.length) := by
  unfold L2.start
  rw [List.length_append, List.length_map, List.length_replicate]
theorem sat0 {N : List Str} {vs : List V} {ds : List D} {Hs H : Hp} {ma : Nat → Addr} (s : Same Hs H) (r : RpAll K Hs vs ds) : Sat ⟨K, mg, H, Hs, [], ma⟩ Hs H H (L2.start N vs) (en0 N.length ds) := by
  have key : ∀ (i : Nat) (t : Sl), (en0 N.length ds)[i]? = some t → t = .no ∨ ∃ v d, vs[i]? = some v ∧ t = .sh d ∧ Rp K Hs v d := fun i t h => by
    unfold en0 at h
    by_cases hi : i < ds.length
    · rw [List.getElem?_append_left (by simpa using hi), List.getElem?_map] at h
      obtain ⟨d, e1, e2⟩ := Option.map_eq_some_iff.mp h
      obtain ⟨v, hv, rv⟩ := dpa_get r e1
      exact .inr ⟨v, d, hv, e2.symm, rv⟩
    · rw [List.getElem?_append_right (by simpa using Nat.le_of_not_lt hi), List.getElem?_replicate] at h
      split at h
      · cases h; exact .inl rfl
      · cases h
  refine ⟨⟨Same.refl _, s, Same.refl _, fun a o e => .inl e, fun a o e => ⟨o, e⟩, fun a o o' e _ => ⟨o, e⟩⟩, ?_, fun i t h => ?_, fun i j t u a ne h1 h2 f1 f2 => ?_⟩
  · rw [start_len]
    unfold en0
    rw [List.length_append, List.length_map, List.length_replicate, dpa_len r]
  · rcases key i t h with rfl | ⟨v, d, hv, rfl, rv⟩
    · trivial
    · exact ⟨v, start_at hv, rv⟩
  · rcases key i t h1 with rfl | ⟨v, d, hv, rfl, rv⟩
    · exact foot_no f1
    · exact foot_sh f1
theorem sat1 {N : List Str} {ws xs : List V} {src ds : List D} {Hs H : Hp} {a : Addr} (s : Same Hs H) (ha : Hs a = none) (h : H a = some (.lst xs)) (rx : RpAll K Hs xs src) (r : RpAll K Hs ws ds) :
    Sat ⟨K, mg, but H a, Hs, [0], fun _ => a⟩ Hs (but H a) H (L2.start N (.ref a :: ws)) (en1 N.length src ds) := by
  have key : ∀ (i : Nat) (t : Sl), (en1 N.length src ds)[i]? = some t → (i = 0 ∧ t = .ow src) ∨ (i ≠ 0 ∧ (t = .no ∨ ∃ v d, (V.ref a :: ws)[i]? = some v ∧ t = .sh d ∧ Rp K Hs v d)) := fun i t h => by
    unfold en1 at h
    cases i with
    | zero =>
      simp at h
      exact .inl ⟨rfl, h.symm⟩
    | succ i =>
      simp only [List.getElem?_cons_succ] at h
      refine .inr ⟨by omega, ?_⟩
      by_cases hi : i < ds.length
      · rw [List.getElem?_append_left (by simpa using hi), List.getElem?_map] at h
        obtain ⟨d, e1, e2⟩ := Option.map_eq_some_iff.mp h
        obtain ⟨v, hv, rv⟩ := dpa_get r e1
        exact .inr ⟨v, d, by simpa using hv, e2.symm, rv⟩
      · rw [List.getElem?_append_right (by simpa using Nat.le_of_not_lt hi), List.getElem?_replicate] at h
        split at h
        · cases h; exact .inl rfl
        · cases h
  refine ⟨⟨Same.refl _, s, fun b o e => (but_ne e).2, fun a o e => .inl e, fun a o e => ⟨o, (but_ne e).2⟩, fun b o o' e _ => ⟨o, e⟩⟩, ?_, fun i t h => ?_, fun i j t u a ne h1 h2 f1 f2 => ?_⟩
  · rw [start_len]
    unfold en1
    rw [List.length_cons, List.length_append, List.length_map, List.length_replicate, List.length_cons, dpa_len r]
    omega
  · rcases key i t h with ⟨rfl, rfl⟩ | ⟨hi, rfl | ⟨v, d, hv, rfl, rv⟩⟩
    · exact ⟨a, xs, start_at (by rfl), by assumption, rx, ha, but_self, but_self, fun _ => rfl⟩
    · trivial
    · exact ⟨v, start_at hv, rv⟩
  · rcases key i t h1 with ⟨rfl, rfl⟩ | ⟨hi, rfl | ⟨v, d, hv, rfl, rv⟩⟩
    · rcases key j u h2 with ⟨rfl, rfl⟩ | ⟨hj, rfl | ⟨v, d, hv, rfl, rv⟩⟩
      · exact ne rfl
      · exact foot_no f2
      · exact foot_sh f2
    · exact foot_no f1
    · exact foot_sh f1
variable {x qual : Str} {st : Stmt} {f : Addr} {fd : FuncData} {N ps : List Str} {k : Nat}
theorem fn_P (F : Fun K x qual st f fd) (S : FnScope N ps (defScope st)) {Fb : En → Re Fl}
    (hb : ∀ (cdv : Value) (A : Around) (outer : List Env) (s : Shared) (H : Hp) (E : XK) (Hin Hb : Hp) (ma : Nat → Addr), RoomG k (A.deeper (PyProof.Rows.envOfC qual (defScope st) s.heap.objs.size f cdv)) →
      PSs (cxOf (L2.CX P w) P w K mg base N qual (defScope st) f cdv A outer s H E) (defBody st) (tS ⟨K, mg, Hin, Hb, [], ma⟩ E Fb)) :
    FnOkG P w K mg base (L2.CX P w) (k + 1) f fd ps (spP K mg (dfP ps.length N.length Fb)) := by
  refine fun_okG F S (fun vs H Q E ⟨_, ds, _, r, h⟩ => by
    unfold dfP at h
    split at h
    · rename_i hl; rw [dpa_len r]; exact hl
    · exact h.elim) (fun cdv A outer s H vs Q E hr ⟨Hs, ds, hs, r, h⟩ => ⟨_, hb cdv A outer s H E H Hs (fun _ => 0) hr, Hs, H, en0 N.length ds, sat0 hs r, ?_⟩)
  unfold dfP at h
  split at h
  case isFalse => exact h.elim
  cases hz : Fb (en0 N.length ds) with
  | bad => rw [hz] at h; exact h
  | er e => rw [hz] at h; exact fun Hs' H' s' F' => h Hs' H' s' F'.sh F'.gm F'.nw
  | ok fl =>
    rw [hz] at h
    cases fl with
    | nx δ => exact fun σ' Hs' H' s' S' => h _ Hs' H' s' S'.sh S'.gm S'.nw .non
    | rt d δ => exact fun v σ' Hs' H' s' S' rv => h v Hs' H' s' S'.sh S'.gm S'.nw rv
    | bk δ => exact h.elim
    | ct δ => exact h.elim
    | rf ds δ => exact h.elim
    | rf2 ds δ => exact h.elim
theorem fin_at {Hs Hs' H H' : Hp} {a : Addr} {σ : St} {δ : En} {d : D} {z : D × List D} (S : Sat ⟨K, mg, but H a, Hs, [0], fun _ => a⟩ Hs' (but H a) H' σ δ) (h : fin1 d δ = .ok z) :
    z.1 = d ∧ ∃ xs, H' a = some (.lst xs) ∧ RpAll K Hs' xs z.2 ∧ Hs' a = none := by
  unfold fin1 at h
  split at h
  · rename_i s e
    cases h
    obtain ⟨r, xs, e1, h1, r1, w1, _, w2⟩ := S.sl 0 _ e
    cases w2.2 (show 0 ∈ [0] by simp)
    exact ⟨rfl, xs, h1, r1, w1⟩
  · cases h
theorem fin_ok {d : D} {δ : En} : fin1 d δ = .bad ∨ ∃ s, fin1 d δ = .ok (d, s) := by
  unfold fin1
  split
  · exact .inr ⟨_, rfl⟩
  · exact .inl rfl
theorem keep_G {H H' : Hp} {a : Addr} (h : Same (but H a) H') : ∀ b o, b ≠ a → H b = some o → H' b = some o := fun b o n e => h b o (by rw [but_of n]; exact e)
theorem fn_M (F : Fun K x qual st f fd) {p0 : Str} (S : FnScope N (p0 :: ps) (defScope st)) {Fb : En → Re Fl}
    (hb : ∀ (cdv : Value) (A : Around) (outer : List Env) (s : Shared) (H : Hp) (E : XK) (Hin Hb : Hp) (ma : Nat → Addr), RoomG k (A.deeper (PyProof.Rows.envOfC qual (defScope st) s.heap.objs.size f cdv)) →
      PSs (cxOf (L2.CX P w) P w K mg base N qual (defScope st) f cdv A outer s H E) (defBody st) (tS ⟨K, mg, Hin, Hb, [0], ma⟩ E Fb)) :
    FnOkG P w K mg base (L2.CX P w) (k + 1) f fd (p0 :: ps) (spM K mg (dfM ps.length N.length Fb)) := by
  refine fun_okG F S (fun vs H Q E ⟨_, _, _, _, ws, ds, e, _, _, _, _, r, h⟩ => by
    subst e
    unfold dfM at h
    split at h
    · rename_i hl; rw [List.length_cons, List.length_cons, dpa_len r, hl]
    · exact h.elim) (fun cdv A outer s H vs Q E hr ⟨Hs, a, xs, src, ws, ds, e, hs, ha, hx, rx, r, h⟩ => ?_)
  subst e
  refine ⟨_, hb cdv A outer s H E (but H a) Hs (fun _ => a) hr, Hs, _, en1 N.length src ds, sat1 hs ha hx rx r, ?_⟩
  unfold dfM at h
  split at h
  case isFalse => exact h.elim
  have ok : ∀ {d : D} {δ : En} {v : V} {σ' : St} {Hs' H' : Hp}, PoM K mg a Hs H Q E (fin1 d δ) → Same Hs Hs' → Sat ⟨K, mg, but H a, Hs, [0], fun _ => a⟩ Hs' (but H a) H' σ' δ → Rp K Hs' v d → Q v H' := fun {d δ v σ' Hs' H'} h s' S' rv => by
    rcases fin_ok (d := d) (δ := δ) with e | ⟨t, e⟩
    · rw [e] at h; exact h.elim
    · obtain ⟨_, ys, q1, q2, q3⟩ := fin_at S' e
      rw [e] at h
      exact h v ys Hs' H' s' S'.sh (keep_G S'.gm) (nw_but S'.nw q3) q3 q1 q2 rv
  cases hz : Fb (en1 N.length src ds) with
  | bad => rw [hz] at h; exact h
  | er e => rw [hz] at h; exact h.elim
  | ok fl =>
    rw [hz] at h
    cases fl with
    | nx δ => exact fun σ' Hs' H' s' S' => ok h s' S' .non
    | rt d δ => exact fun v σ' Hs' H' s' S' rv => ok h s' S' rv
    | bk δ => exact h.elim
    | ct δ => exact h.elim
    | rf ds δ => exact h.elim
    | rf2 ds δ => exact h.elim
/-- a def as its callers see it -/
structure Dn (P : Program) (w : World) (K : PySem.W.Frag) (mg : Str → Option Value) (base : Heap) (k : Nat) (x : Str) (ps : List Str) (sp : Sp) : Prop where
  ex : ∃ f fd, FnOkG P w K mg base (L2.CX P w) k f fd ps sp ∧ mg x = some (.ref f) ∧ PySem.W.keepIn K (.ref f) = true ∧ Binds K fd ps []
end
/-! ### calls -/
section
variable {X : Cx} {c : DC} {E : XK} {e : Expr} {es : List Expr} {fr : En → Re (List D × En)} {k : Nat} {x : Str} {ps : List Str} {n : Nat} {p pos : Pos} {Hs Hs' G H H' : Hp} {σ : St} {δ : En}
def eCr {α : Type} (F : List D → Re α) (fr : En → Re (List D × En)) : En → Re (α × En) := fun δ => (fr δ).bd fun p => (F p.1).bd fun d => .ok (d, p.2)
def pCr {α : Type} (F : List D → Re α) (fr : En → Re (List D)) : En → Re α := fun δ => (fr δ).bd fun p => F p
theorem eCr_pu {α : Type} (F : List D → Re α) (fr : En → Re (List D)) : eCr F (Pu fr) = Pu (pCr F fr) := by
  funext δ; unfold eCr Pu pCr
  cases fr δ with
  | ok x =>
    simp only [Re.bd_ok]
  | _ => rfl
theorem Sat.nw_own (S : Sat c Hs G H σ δ) (nw : Nw H Hs Hs') {i : Nat} {s : Sl} {b : Addr} (hj : δ[i]? = some s) (f : Foot H σ[i]? s b) : Hs' b = none := by
  obtain ⟨w, u, hu⟩ := foot_own (S.sl i s hj) f
  cases q : Hs' b with
  | none => rfl
  | some o =>
    rcases nw b o q with z | z
    · rw [w.1] at z; cases z
    · rw [hu] at z; cases z
/-- behind a call that kept everything -/
theorem Frm.grown (S : Frm c Hs G H) (s : Same Hs Hs') (sh : Same Hs' H') (sm : Same H H') (nw : Nw H Hs Hs') : Frm c Hs' G H' :=
  ⟨S.bs.trans s, sh, S.gm.trans sm, fun a o e => by
    rcases nw a o e with z | z
    · exact S.nw a o z
    · exact .inr (Sat.fresh_in S z), fun a o e => by
    obtain ⟨o', e'⟩ := S.hin a o e
    exact ⟨o', sm a o' e'⟩, fun a o o' e e' => by
    rcases nw a o' e' with z | z
    · exact S.gs a o o' e z
    · rw [S.gm a o e] at z; cases z⟩
theorem Sat.grown (S : Sat c Hs G H σ δ) (s : Same Hs Hs') (sh : Same Hs' H') (sm : Same H H') (nw : Nw H Hs Hs') : Sat c Hs' G H' σ δ :=
  S.keep (S.toFrm.grown s sh sm nw) s (fun _ _ b o _ _ e => sm b o e) (fun j t b hj f => S.nw_own nw hj f) fun j t b hj f => (foot_own (S.sl j t hj) f).1.2.1
theorem xok_of {e : Er} (h : XOk c E Hs H e) : XOkK c.K c.mg E Hs H e := h
theorem v_cr {F : List D → Re D} (S : Sat c Hs G H σ δ) {vs : List V} {ds : List D} (r : RpAll c.K Hs vs ds) {Q : VK} (h : PoG c E Hs G (fun d δ' Hs' H' => ∀ v, Sat c Hs' G H' σ δ' → Rp c.K Hs' v d → Q v H') ((F ds).bd fun d => .ok (d, δ))) : spP c.K c.mg F vs H Q E := by
  refine ⟨Hs, ds, S.sh, r, ?_⟩
  cases hz : F ds with
  | bad => rw [hz] at h; exact h
  | er e => rw [hz] at h; exact fun Hs' H' s sh sm nw => h Hs' H' s (S.toFrm.grown s sh sm nw)
  | ok d => rw [hz] at h; exact fun v Hs' H' s sh sm nw rv => h Hs' H' s v (S.grown s sh sm nw) rv
theorem v_crF {F : List D → Re (List D)} (S : Sat c Hs G H σ δ) {vs : List V} {ds : List D} (r : RpAll c.K Hs vs ds) {Q : VK} (h : PoG c E Hs G (fun ds δ' Hs' H' => ∀ p xs, Sat c Hs' G H' σ δ' → Loose c Hs' G H' σ δ' p → H' p = some (.lst xs) → RpAll c.K Hs' xs ds → Q (.ref p) H') ((F ds).bd fun d => .ok (d, δ))) : spPF c.K c.mg F vs H Q E := by
  refine ⟨Hs, ds, S.sh, r, ?_⟩
  cases hz : F ds with
  | bad => rw [hz] at h; exact h
  | er e => rw [hz] at h; exact fun Hs' H' s sh sm nw => h Hs' H' s (S.toFrm.grown s sh sm nw)
  | ok d =>
    rw [hz] at h
    exact fun p xs Hs' H' s sh sm nw hp hp2 hx rx => h Hs' H' s p xs (S.grown s sh sm nw) ⟨hp, Sat.fresh_G S.toFrm hp2, Sat.fresh_in S.toFrm hp2, fun j t hj f => by
      have f' := foot_keep (H' := H') (S.sl j t hj) (fun b u _ e => sm b u e) f
      obtain ⟨_, u, e⟩ := foot_own (S.sl j t hj) f'
      rw [hp2] at e; cases e⟩ hx rx
def noer {α β : Type} (F : α → Re β) : α → Re β := fun a => match F a with
  | .er _ => .bad
  | r => r
theorem spP_noer {K : PySem.W.Frag} {mg : Str → Option Value} {F : List D → Re D} {vs : List V} {H : Hp} {Q : VK} {E : XK} (E' : XK) (h : spP K mg (noer F) vs H Q E) : spP K mg F vs H Q E' := by
  obtain ⟨Hs, ds, s, r, q⟩ := h
  refine ⟨Hs, ds, s, r, ?_⟩
  unfold noer at q
  cases hz : F ds with
  | bad => rw [hz] at q; exact q
  | er e => rw [hz] at q; exact q.elim
  | ok d => rw [hz] at q; exact q
theorem spPF_noer {K : PySem.W.Frag} {mg : Str → Option Value} {F : List D → Re (List D)} {vs : List V} {H : Hp} {Q : VK} {E : XK} (E' : XK) (h : spPF K mg (noer F) vs H Q E) : spPF K mg F vs H Q E' := by
  obtain ⟨Hs, ds, s, r, q⟩ := h
  refine ⟨Hs, ds, s, r, ?_⟩
  unfold noer at q
  cases hz : F ds with
  | bad => rw [hz] at q; exact q
  | er e => rw [hz] at q; exact q.elim
  | ok d => rw [hz] at q; exact q
theorem de_cr {F : List D → Re D} (hD : Dn X.prog X.w X.K X.mg X.base k x ps (spP X.K X.mg F)) (hr : RoomG k X.A) (hg : Gl X x) (hx : Passes (L2.CX X.prog X.w) X E) (hK : c.K = X.K) (hM : c.mg = X.mg)
    (ha : PA X (e :: es) (tA c E fr)) (hdb : (x == ("__debug__" : Str)) = false := by decide) (he : starEach (e :: es) X.env = (false, eval e X.env) :: starEach es X.env := by rfl) (hpl : (backTo pos (starEach es X.env)).any (·.1) = false := by rfl) :
    PE X (.Call (.Name x p) (e :: es) [] pos) (tD c E (eCr F fr)) := by
  obtain ⟨f, fd, Fo, hm, hk, hb⟩ := hD.ex
  refine PE.imp (pe_callG Fo hr hg hm hk hb .nil hx ha hdb he hpl) fun σ H Q ⟨Hs, G, δ, S, q⟩ => ⟨Hs, G, δ, S, PoG.seq q fun ds δ1 Hs1 H1 s1 q1 vs S1 r1 => ?_⟩
  have := v_cr (F := F) S1 r1 q1
  show spP X.K X.mg F (vs ++ []) H1 Q E
  rw [List.append_nil, ← hK, ← hM]
  exact this
theorem de_crF {F : List D → Re (List D)} (hD : Dn X.prog X.w X.K X.mg X.base k x ps (spPF X.K X.mg F)) (hr : RoomG k X.A) (hg : Gl X x) (hx : Passes (L2.CX X.prog X.w) X E) (hK : c.K = X.K) (hM : c.mg = X.mg)
    (ha : PA X (e :: es) (tA c E fr)) (hdb : (x == ("__debug__" : Str)) = false := by decide) (he : starEach (e :: es) X.env = (false, eval e X.env) :: starEach es X.env := by rfl) (hpl : (backTo pos (starEach es X.env)).any (·.1) = false := by rfl) :
    PE X (.Call (.Name x p) (e :: es) [] pos) (tF c E (eCr F fr)) := by
  obtain ⟨f, fd, Fo, hm, hk, hb⟩ := hD.ex
  refine PE.imp (pe_callG Fo hr hg hm hk hb .nil hx ha hdb he hpl) fun σ H Q ⟨Hs, G, δ, S, q⟩ => ⟨Hs, G, δ, S, PoG.seq q fun ds δ1 Hs1 H1 s1 q1 vs S1 r1 => ?_⟩
  have := v_crF (F := F) S1 r1 q1
  show spPF X.K X.mg F (vs ++ []) H1 Q E
  rw [List.append_nil, ← hK, ← hM]
  exact this
/-- a callee that may raise, where it does not -/
theorem passN {X : Cx} : Passes (L2.CX X.prog X.w) X L2.E0 := L2.passL
theorem de_cr0 {F : List D → Re D} (hD : Dn X.prog X.w X.K X.mg X.base k x ps (spP X.K X.mg F)) (hr : RoomG k X.A) (hg : Gl X x) (hK : c.K = X.K) (hM : c.mg = X.mg)
    (ha : PA X (e :: es) (tA c E fr)) (hdb : (x == ("__debug__" : Str)) = false := by decide) (he : starEach (e :: es) X.env = (false, eval e X.env) :: starEach es X.env := by rfl) (hpl : (backTo pos (starEach es X.env)).any (·.1) = false := by rfl) :
    PE X (.Call (.Name x p) (e :: es) [] pos) (tD c E (eCr (noer F) fr)) := by
  obtain ⟨f, fd, Fo, hm, hk, hb⟩ := hD.ex
  refine PE.imp (pe_callG Fo hr hg hm hk hb .nil passN ha hdb he hpl) fun σ H Q ⟨Hs, G, δ, S, q⟩ => ⟨Hs, G, δ, S, PoG.seq q fun ds δ1 Hs1 H1 s1 q1 vs S1 r1 => ?_⟩
  have := v_cr (F := noer F) S1 r1 q1
  show spP X.K X.mg F (vs ++ []) H1 Q _
  rw [List.append_nil, ← hK, ← hM]
  exact spP_noer _ this
theorem de_cr0F {F : List D → Re (List D)} (hD : Dn X.prog X.w X.K X.mg X.base k x ps (spPF X.K X.mg F)) (hr : RoomG k X.A) (hg : Gl X x) (hK : c.K = X.K) (hM : c.mg = X.mg)
    (ha : PA X (e :: es) (tA c E fr)) (hdb : (x == ("__debug__" : Str)) = false := by decide) (he : starEach (e :: es) X.env = (false, eval e X.env) :: starEach es X.env := by rfl) (hpl : (backTo pos (starEach es X.env)).any (·.1) = false := by rfl) :
    PE X (.Call (.Name x p) (e :: es) [] pos) (tF c E (eCr (noer F) fr)) := by
  obtain ⟨f, fd, Fo, hm, hk, hb⟩ := hD.ex
  refine PE.imp (pe_callG Fo hr hg hm hk hb .nil passN ha hdb he hpl) fun σ H Q ⟨Hs, G, δ, S, q⟩ => ⟨Hs, G, δ, S, PoG.seq q fun ds δ1 Hs1 H1 s1 q1 vs S1 r1 => ?_⟩
  have := v_crF (F := noer F) S1 r1 q1
  show spPF X.K X.mg F (vs ++ []) H1 Q _
  rw [List.append_nil, ← hK, ← hM]
  exact spPF_noer _ this
/-! calls that change the list of a name -/
def eCm (i : Nat) (F : List D → List D → Re (D × List D)) (fr : En → Re (List D × En)) : En → Re (D × En) := fun δ => match δ[i]? with
  | some (.ow _) => (fr δ).bd fun p => match p.2[i]? with
    | some (.ow src) => nb (F src p.1) fun q => .ok (q.1, p.2.set i (.ow q.2))
    | _ => .bad
  | _ => .bad
/-- the frame behind such a call -/
theorem Sat.after {a : Addr} {i : Nat} {src ys : List D} {zs : List V} (S : Sat c Hs G H σ δ) (hi : δ[i]? = some (.ow src)) (ha : σ[i]? = some (some (.ref a))) (s : Same Hs Hs') (sh : Same Hs' H') (sm : ∀ b o, b ≠ a → H b = some o → H' b = some o) (nw : Nw H Hs Hs') (hs : Hs' a = none) (h' : H' a = some (.lst zs)) (r : RpAll c.K Hs' zs ys) :
    Sat c Hs' G H' σ (δ.set i (.ow ys)) := by
  have hlt : i < δ.length := (List.getElem?_eq_some_iff.mp hi).1
  have fa : Foot H σ[i]? (.ow src) a := by rw [ha]; rfl
  have w : Own c Hs G i a := by
    obtain ⟨r0, xs0, e0, _, _, w0⟩ := S.sl i _ hi
    rw [ha] at e0; cases e0; exact w0
  have ne : ∀ (j : Nat) (t : Sl) (b : Addr), j ≠ i → δ[j]? = some t → Foot H σ[j]? t b → b ≠ a := fun j t b hji hj f => by
    rintro rfl
    exact S.sp j i t _ b hji hj hi f fa
  refine ⟨⟨S.bs.trans s, sh, fun b o e => sm b o (by rintro rfl; rw [w.2.1] at e; cases e) (S.gm b o e), fun b o e => ?_, fun b o e => ?_, fun b o o' e e' => ?_⟩, by simp [S.ln], fun j t hj => ?_, fun j l t t' b hne hj hl f1 f2 => ?_⟩
  · rcases nw b o e with z | z
    · exact S.nw b o z
    · exact .inr (Sat.fresh_in S.toFrm z)
  · by_cases hb : b = a
    · subst hb; exact ⟨_, h'⟩
    · obtain ⟨o', e'⟩ := S.hin b o e
      exact ⟨o', sm b o' hb e'⟩
  · rcases nw b o' e' with z | z
    · exact S.gs b o o' e z
    · rw [S.gm b o e] at z; cases z
  · by_cases hji : j = i
    · subst hji
      rw [List.getElem?_set_self hlt] at hj
      cases hj
      exact ⟨a, zs, ha, h', r, hs, w.2.1, w.2.2⟩
    · rw [List.getElem?_set_ne (Ne.symm hji)] at hj
      exact slok_keep (S.sl j t hj) s (fun b o f e => sm b o (ne j t b hji hj f) e) (fun b f => S.nw_own nw hj f) fun b f => (foot_own (S.sl j t hj) f).1.2.1
  · have back : ∀ (j : Nat) (t : Sl), j ≠ i → δ[j]? = some t → Foot H' σ[j]? t b → Foot H σ[j]? t b := fun j t hji hj f => foot_keep (S.sl j t hj) (fun b o f e => sm b o (ne j t b hji hj f) e) f
    by_cases hji : j = i
    · subst hji
      rw [List.getElem?_set_self hlt] at hj
      cases hj
      rw [List.getElem?_set_ne hne] at hl
      have g2 := back l t' (Ne.symm hne) hl f2
      rw [ha] at f1
      have e : b = a := f1
      subst e
      exact ne l t' b (Ne.symm hne) hl g2 rfl
    · rw [List.getElem?_set_ne (Ne.symm hji)] at hj
      have g1 := back j t hji hj f1
      by_cases hli : l = i
      · subst hli
        rw [List.getElem?_set_self hlt] at hl
        cases hl
        rw [ha] at f2
        have e : b = a := f2
        subst e
        exact ne j t b hji hj g1 rfl
      · rw [List.getElem?_set_ne (Ne.symm hli)] at hl
        exact S.sp j l t t' b hne hj hl g1 (back l t' hli hl f2)
theorem Frm.after {a : Addr} {i : Nat} {src : List D} (S : Sat c Hs G H σ δ) (hi : δ[i]? = some (.ow src)) (ha : σ[i]? = some (some (.ref a))) (s : Same Hs Hs') (sh : Same Hs' H') (sm : ∀ b o, b ≠ a → H b = some o → H' b = some o) (nw : Nw H Hs Hs') (h' : ∃ o, H' a = some o) : Frm c Hs' G H' := by
  have fa : Foot H σ[i]? (.ow src) a := by rw [ha]; rfl
  obtain ⟨w, u, hu⟩ := foot_own (S.sl i _ hi) fa
  refine ⟨S.bs.trans s, sh, fun b o e => sm b o (by rintro rfl; rw [w.2.1] at e; cases e) (S.gm b o e), fun b o e => ?_, fun b o e => ?_, fun b o o' e e' => ?_⟩
  · rcases nw b o e with z | z
    · exact S.nw b o z
    · exact .inr (Sat.fresh_in S.toFrm z)
  · by_cases hb : b = a
    · subst hb; exact h'
    · obtain ⟨o', e'⟩ := S.hin b o e
      exact ⟨o', sm b o' hb e'⟩
  · rcases nw b o' e' with z | z
    · exact S.gs b o o' e z
    · rw [S.gm b o e] at z; cases z
theorem v_cm {i : Nat} {F : List D → List D → Re (D × List D)} {dV : TE} {Q : VK} (h : tD c E (eCm i F fr) σ H Q) : tCall (spM c.K c.mg F) [] E (tCons (tVar i) (tA c E fr)) σ H Q := by
  obtain ⟨Hs, G, δ, S, q⟩ := h
  unfold eCm at q
  cases hi : δ[i]? with
  | none => rw [hi] at q; exact q.elim
  | some s => cases s with
    | ow ds0 =>
      rw [hi] at q
      simp only at q
      obtain ⟨a, xs, e1, h1, _, _⟩ := S.sl i _ hi
      refine ⟨.ref a, e1, Hs, G, δ, S, PoG.seq q fun es δ1 Hs1 H1 s1 q1 as S1 r1 => ?_⟩
      simp only at q1
      cases hi1 : δ1[i]? with
      | none => rw [hi1] at q1; exact q1.elim
      | some s => cases s with
        | ow src =>
          rw [hi1] at q1
          simp only at q1
          obtain ⟨a', ys, e2, h2, r2, w2⟩ := S1.sl i _ hi1
          rw [e1] at e2
          cases e2
          show spM c.K c.mg F ((V.ref a :: as) ++ []) H1 Q E
          rw [List.append_nil]
          refine ⟨Hs1, a, ys, src, as, es, rfl, S1.sh, w2.1, h2, r2, r1, ?_⟩
          cases hz : F src es with
          | bad => rw [hz] at q1; exact q1
          | er e => rw [hz] at q1; exact q1
          | ok z =>
            rw [hz] at q1
            obtain ⟨d, src'⟩ := z
            exact fun v zs Hs' H' s sh sm nw hs h' rz rv => q1 Hs' H' s v (S1.after hi1 e1 s sh sm nw hs h' rz) rv
        | _ => rw [hi1] at q1; exact q1.elim
    | _ => rw [hi] at q; exact q.elim
def noer2 {α β γ : Type} (F : α → β → Re γ) : α → β → Re γ := fun a b => match F a b with
  | .er _ => .bad
  | r => r
theorem spM_noer {K : PySem.W.Frag} {mg : Str → Option Value} {F : List D → List D → Re (D × List D)} {vs : List V} {H : Hp} {Q : VK} {E : XK} (E' : XK) (h : spM K mg (noer2 F) vs H Q E) : spM K mg F vs H Q E' := by
  obtain ⟨Hs, a, xs, src, ws, ds, e, s, h1, h2, r, r2, q⟩ := h
  refine ⟨Hs, a, xs, src, ws, ds, e, s, h1, h2, r, r2, ?_⟩
  unfold noer2 at q
  cases hz : F src ds with
  | bad => rw [hz] at q; exact q
  | er e => rw [hz] at q; exact q.elim
  | ok d => rw [hz] at q; exact q
variable {i : Nat} {y : Str} {yp : Pos}
theorem de_cm {F : List D → List D → Re (D × List D)} (hD : Dn X.prog X.w X.K X.mg X.base k x ps (spM X.K X.mg F)) (hr : RoomG k X.A) (hg : Gl X x) (hx : Passes (L2.CX X.prog X.w) X E) (hK : c.K = X.K) (hM : c.mg = X.mg) (ho : PE X (.Name y yp) (tVar i))
    (ha : PA X es (tA c E fr)) (hdb : (x == ("__debug__" : Str)) = false := by decide) (he : starEach (.Name y yp :: es) X.env = (false, eval (.Name y yp) X.env) :: starEach es X.env := by rfl) (hpl : (backTo pos (starEach es X.env)).any (·.1) = false := by rfl) :
    PE X (.Call (.Name x p) (.Name y yp :: es) [] pos) (tD c E (eCm i F fr)) := by
  obtain ⟨f, fd, Fo, hm, hk, hb⟩ := hD.ex
  refine PE.imp (pe_callG Fo hr hg hm hk hb .nil hx (pa_cons ho ha he) hdb he hpl) fun σ H Q h => ?_
  rw [← hK, ← hM]
  exact v_cm (dV := tVar 0) h
theorem de_cm0 {F : List D → List D → Re (D × List D)} (hD : Dn X.prog X.w X.K X.mg X.base k x ps (spM X.K X.mg F)) (hr : RoomG k X.A) (hg : Gl X x) (hK : c.K = X.K) (hM : c.mg = X.mg) (ho : PE X (.Name y yp) (tVar i))
    (ha : PA X es (tA c E fr)) (hdb : (x == ("__debug__" : Str)) = false := by decide) (he : starEach (.Name y yp :: es) X.env = (false, eval (.Name y yp) X.env) :: starEach es X.env := by rfl) (hpl : (backTo pos (starEach es X.env)).any (·.1) = false := by rfl) :
    PE X (.Call (.Name x p) (.Name y yp :: es) [] pos) (tD c E (eCm i (noer2 F) fr)) := by
  obtain ⟨f, fd, Fo, hm, hk, hb⟩ := hD.ex
  refine PE.imp (pe_callG Fo hr hg hm hk hb .nil passN (pa_cons ho ha he) hdb he hpl) fun σ H Q h => ?_
  have q := v_cm (dV := tVar 0) h
  have mono : ∀ {t : TA} {R R' : List V → Hp → Prop}, (∀ vs H, R vs H → R' vs H) → tCons (tVar i) (tA c E fr) σ H R → tCons (tVar i) (tA c E fr) σ H R' := fun {t R R'} w ⟨v, e, Hs, G, δ, S, q⟩ =>
    ⟨v, e, Hs, G, δ, S, q.imp fun a δ' Hs' H' z vs S' r => w _ _ (z vs S' r)⟩
  refine mono (t := tNil) (fun vs H1 z => ?_) q
  rw [← hK, ← hM]
  exact spM_noer _ z
end
end DL

/-! DL7: sorted over data -/
namespace DL
section
open PySem PySem.W PySem.Calls PyProof.Rows
variable {prog : Program} {w : World} {A : Around} {E : Value → Shared → Prop} {s : Shared}
/-- what stands in a tuple, gathered -/
theorem gather_tup {l : Addr} {o : Obj} {vs : List Value} {n : Nat} {Q : List Value → Shared → Prop} (ho : s.heap.get? l = some o) (hc : o.cls = .type "tuple") (hd : o.data = .seq vs.toArray n)
    (h : Q vs { s with heap := (s.heap.push (seqObj "list" #[] 0)).update s.heap.objs.size (Obj.mapSeq (· ++ vs.toArray)) }) (hL : vs.length ≤ sizeLine) : wpAny (model prog w) A (collect (.ref l)) Q E s := by
  have hp : ∀ t, (s.heap.push (seqObj "list" #[] 0)).get? s.heap.objs.size = some t ↔ t = seqObj "list" #[] 0 := fun t => by
    rw [Heap.get?_push_size _ rfl]; constructor <;> intro z <;> first | exact (Option.some.inj z).symm | rw [z]
  unfold collect
  apply wpAny_bind; apply wpAny_runValue; apply codeAny_builtin entry_proto_collect'
  show wpAny _ _ (do again (.builtin "list.__iadd__" ⟨[← newList [], .ref l], []⟩)) _ _ s
  refine wpAny_bind (m := newList []) (wpAny_newList ?_ (by simp)); apply wpAny_pure
  refine And.intro (Code.quiet_builtin _ (by decide +kernel)) ?_; apply codeAny_builtin entry_list_iadd'
  show wpAny _ _ (Builtin.List.listExtendWith (.ref s.heap.objs.size) (.ref l) (.ref s.heap.objs.size)) _ _ { s with heap := s.heap.push (seqObj "list" #[] 0) }
  have ho' : (s.heap.push (seqObj "list" #[] 0)).get? l = some o := Heap.get?_push_of_some _ ho
  have tt : (Value.type "tuple" == Value.type "tuple") = true := rfl
  unfold Builtin.List.listExtendWith
  refine wpAny_bind (wpAny_typeOf (T := "tuple") ⟨o, ho', hc⟩ ?_)
  rw [if_pos (by simp)]
  apply wpAny_bind; apply listItems_at ho' hd
  apply wpAny_bind; apply listItems_at (xs := #[]) (n := 0) ((hp _).mpr rfl) rfl
  rw [if_neg (by simp)]
  refine wpAny_bind (listUpdate_at (xs := #[]) (n := 0) (f := (· ++ vs.toArray)) ((hp _).mpr rfl) rfl ?_ (Nat.zero_le _) (by rw [Array.empty_append, List.size_toArray]; omega))
  apply wpAny_pure
  show wpAny (model prog w) A (load s.heap.objs.size >>= fun o => match o.data with | .seq xs _ => pure xs.toList | _ => unsupported "internal:collect") Q E _
  apply wpAny_bind; apply wpAny_load (get?_update_seq ((hp _).mpr rfl) _)
  show wpAny _ _ (pure ((#[] : Array Value) ++ vs.toArray).toList) Q E _
  rw [show ((#[] : Array Value) ++ vs.toArray).toList = vs by simp]
  exact wpAny_pure h
theorem sorted_tupD {β : Type} {bs : List β} {enc : β → PyData} {R : Value → β → Prop} {l : Addr} {o : Obj} {n : Nat} {vs : List Value} {Q : Value → Shared → Prop} (ho : s.heap.get? l = some o) (hc : o.cls = .type "tuple") (hd : o.data = .seq vs.toArray n) (e : EachIs R vs bs)
    (er : EachIs (fun v b => ∃ as, Reads s.heap v (enc b) as) vs bs) (hal : AllAlike (bs.map enc)) (hk : Sortable (bs.map enc)) (hL : bs.length ≤ sizeLine) (hu : ∀ b, b ∈ bs → A.units + 2 + (enc b).depth < cLine)
    (h : ∀ out, out.length = bs.length → EachIs R out (bs.mergeSort (dataLe false enc)) → Q (.ref (s.heap.objs.size + 1)) { s with heap := sortedAll s.heap vs (List.toArray out) }) :
    wpAny (model prog w) A (call (.builtin "sorted") [.ref l]) Q E s := by
  have hL' : vs.length ≤ sizeLine := by rw [e.length]; exact hL
  have keep : ∀ b u, s.heap.get? b = some u → (sortingHeap (copyHeap s.heap vs) (s.heap.objs.size + 1) vs).get? b = some u := fun _ _ q => sorting_copy_old q
  have er2 : EachIs (fun v b => ∃ as, Reads (sortingHeap (copyHeap s.heap vs) (s.heap.objs.size + 1) vs) v (enc b) as) vs bs := er.mono fun _ _ ⟨as, r⟩ => ⟨as, PyProof.Rows.Reads.keeps keep r⟩
  have S := SortsAt.data (prog := prog) (w := w) (A := A.in1.in1) (s := { s with heap := sortingHeap (copyHeap s.heap vs) (s.heap.objs.size + 1) vs }) (each_map (R := fun v d => ∃ as, Reads (sortingHeap (copyHeap s.heap vs) (s.heap.objs.size + 1) vs) v d as) enc er2) hal hk (bound_map hu)
  have fin := h _ (by rw [sortVals_length false rfl]; exact e.length) (sortVals_data false e er2 hal)
  have sz : ((s.heap.push (seqObj "list" #[] 0)).update s.heap.objs.size (Obj.mapSeq (· ++ vs.toArray))).objs.size = s.heap.objs.size + 1 := by rw [Heap.size_update, size_push']
  apply call_function_entry_kw kind_sorted plain_sorted entry_sorted (args_sorted1 _)
  unfold Builtin.«sorted»
  refine wpAny_bind (m := checkCount "sorted" 1 1 _) (wpAny_pure ?_); apply wpAny_bind
  apply gather_tup ho hc hd (hL := hL')
  refine wpAny_bind (m := newList _) (wpAny_newList ?_ hL')
  show wpAny _ _ _ _ _ { s with heap := copyHeap s.heap vs }
  rw [sz]
  apply wpAny_bind; apply wpAny_holding
  refine wpAny_call_entry_kw (T := "list") slot_list_sort ⟨_, copyHeap_at s.heap vs, rfl⟩ entry_list_sort ?b1 (args_list_sort _)
  case b1 =>
    refine list_sort_vals (A := A.in1.in1) (s := { s with heap := copyHeap s.heap vs }) (copyHeap_at s.heap vs) S hL' ?_
    exact ⟨_, rfl, wpAny_pure ⟨_, rfl, fin⟩⟩
end
open PySem L2
def alk (ds : List D) : Bool := ds.all fun d => ds.all fun e => PySem.W.alike d e
def srtb (ds : List D) : Bool := (ds.all fun d => match d with | .tuple (_ :: _) => true | _ => false) || (ds.all fun d => match d with | .none => false | .tuple _ => false | _ => true)
def srtOk (ds : List D) : Bool := alk ds && srtb ds && decide (ds.length ≤ 1000000) && ds.all fun d => decide (d.depth ≤ 64)
def srt (ds : List D) : List D := ds.mergeSort (PySem.W.dataLe false id)
def gSort : List D → Option (List D)
  | [.list ds] => if srtOk ds then some (srt ds) else none
  | [.tuple ds] => if srtOk ds then some (srt ds) else none
  | _ => none
theorem srtOk_spec {ds : List D} (h : srtOk ds = true) : PySem.W.AllAlike (ds.map id) ∧ PySem.W.Sortable (ds.map id) ∧ ds.length ≤ 1000000 ∧ ∀ d ∈ ds, d.depth ≤ 64 := by
  unfold srtOk at h
  simp only [Bool.and_eq_true, decide_eq_true_eq, List.all_eq_true] at h
  obtain ⟨⟨⟨h1, h2⟩, h3⟩, h4⟩ := h
  rw [List.map_id]
  refine ⟨fun d hd d' hd' => ?_, ?_, h3, h4⟩
  · unfold alk at h1
    simp only [List.all_eq_true] at h1
    exact h1 d hd d' hd'
  · unfold srtb at h2
    rw [Bool.or_eq_true, List.all_eq_true, List.all_eq_true] at h2
    rcases h2 with h2 | h2
    · refine .inl fun d hd => ?_
      have q := h2 d hd
      split at q
      · exact ⟨_, _, rfl⟩
      · cases q
    · refine .inr fun d hd => ?_
      have q := h2 d hd
      refine ⟨fun z => ?_, fun xs z => ?_⟩
      · subst z; cases q
      · subst z; cases q
theorem gSort_inv {as r : List D} (h : gSort as = some r) : ∃ ds, (as = [.list ds] ∨ as = [.tuple ds]) ∧ srtOk ds = true ∧ r = srt ds := by
  unfold gSort at h
  split at h
  · split at h
    · rename_i e; cases h; exact ⟨_, .inl rfl, e, rfl⟩
    · cases h
  · split at h
    · rename_i e; cases h; exact ⟨_, .inr rfl, e, rfl⟩
    · cases h
  · cases h
mutual
theorem alk_nd : ∀ {d : D}, PySem.W.alike d d = true → d.hasDict = false
  | .none, _ => by simp only [PyData.hasDict]
  | .bool _, _ => by simp only [PyData.hasDict]
  | .int _, _ => by simp only [PyData.hasDict]
  | .str _, _ => by simp only [PyData.hasDict]
  | .list xs, h => by
    simp only [PySem.W.alike] at h
    simp only [PyData.hasDict]; exact alkA_nd h
  | .tuple xs, h => by
    simp only [PySem.W.alike] at h
    simp only [PyData.hasDict]; exact alkA_nd h
  | .dict _, h => by simp only [PySem.W.alike] at h; cases h
theorem alkA_nd : ∀ {xs : List D}, PySem.W.alikeAll xs xs = true → PyData.hasDictAll xs = false
  | [], _ => by simp only [PyData.hasDictAll]
  | x :: xs, h => by
    simp only [PySem.W.alikeAll, Bool.and_eq_true] at h
    simp only [PyData.hasDictAll, alk_nd h.1, alkA_nd h.2, Bool.or_self]
end
theorem srtOk_alk {ds : List D} (h : srtOk ds = true) {d : D} (m : d ∈ ds) : PySem.W.alike d d = true := by
  have := (srtOk_spec h).1
  rw [List.map_id] at this
  exact this d m d m
section
variable {X : Cx} {c : DC}
/-- the values' order: each value with what it stands for -/
def rSortD (K : PySem.W.Frag) : List V → Hp → VK → Prop := fun vs H Q => ∃ (a : Addr) (xs : List V) (ds : List D), vs = [.ref a] ∧ (SqL K H a xs ∨ SqT K H a xs) ∧ RpAll K H xs ds ∧ srtOk ds = true ∧
  ∃ (R : V → D → Prop), (∀ (i : Nat) (x : V) (d : D), xs[i]? = some x → ds[i]? = some d → R x d) ∧ ∀ (ys : List V) (p : Addr), ys.length = ds.length → (∀ (i : Nat) (y : V) (d : D), ys[i]? = some y → (srt ds)[i]? = some d → R y d) → H p = none → Q (.ref p) (upd H p (.lst ys))
theorem each_of {R : Value → D → Prop} : ∀ {us : List Value} {ds : List D}, us.length = ds.length → (∀ (i : Nat) (u : Value) (d : D), us[i]? = some u → ds[i]? = some d → R u d) → PySem.W.EachIs R us ds
  | [], [], _, _ => .nil
  | [], _ :: _, h, _ => by simp at h
  | _ :: _, [], h, _ => by simp at h
  | u :: us, d :: ds, hl, h => .cons (h 0 u d rfl rfl) (each_of (by simpa using hl) fun i u d e1 e2 => h (i + 1) u d (by simpa using e1) (by simpa using e2))
theorem each_at {R : Value → D → Prop} : ∀ {us : List Value} {ds : List D}, PySem.W.EachIs R us ds → ∀ (i : Nat) (u : Value) (d : D), us[i]? = some u → ds[i]? = some d → R u d
  | _, _, .nil, i, u, d, e1, _ => by simp at e1
  | _, _, .cons h t, 0, u, d, e1, e2 => by
    simp at e1 e2; subst e1 e2; exact h
  | _, _, .cons h t, i + 1, u, d, e1, e2 => each_at t i u d (by simpa using e1) (by simpa using e2)
theorem vals_choose {R : V → D → Prop} : ∀ {us : List Value} {ds : List D}, PySem.W.EachIs (fun u d => ∃ v, RelV v u ∧ R v d) us ds → ∃ ys, Vals ys us ∧ ys.length = ds.length ∧ ∀ (i : Nat) (y : V) (d : D), ys[i]? = some y → ds[i]? = some d → R y d
  | _, _, .nil => ⟨[], .nil, rfl, fun i y d e _ => by simp at e⟩
  | _, _, .cons ⟨v, h1, h2⟩ t => by
    obtain ⟨ys, q1, q2, q3⟩ := vals_choose t
    refine ⟨v :: ys, .cons h1 q1, by simp [q2], fun i y d e1 e2 => ?_⟩
    cases i with
    | zero => simp at e1 e2; subst e1 e2; exact h2
    | succ i => exact q3 i y d (by simpa using e1) (by simpa using e2)
theorem srt_len (ds : List D) : (srt ds).length = ds.length := List.length_mergeSort ds
theorem cr_sortD (hu : X.A.units + 66 < cLine) : CallR X (.builtin "sorted") (rSortD X.K) := by
  intro pins s σ H vs us Q I rv h
  obtain ⟨a, xs, ds, rfl, hq, ra, ok, R, hR, q⟩ := h
  obtain ⟨o1, o2, o3, o4⟩ := srtOk_spec ok
  obtain ⟨u, rfl, ru⟩ := rv.one
  cases ru
  have bound : ∀ b, b ∈ ds → X.A.units + 2 + (id b : D).depth < cLine := fun b hb => by
    have := o4 b hb
    show X.A.units + 2 + b.depth < cLine
    omega
  have fin : ∀ (its : List Value), ∀ out : List Value, out.length = ds.length → PySem.W.EachIs (fun u d => ∃ v, RelV v u ∧ R v d) out (ds.mergeSort (PySem.W.dataLe false id)) →
      EP X pins σ Q (.ref (s.heap.objs.size + 1)) { s with heap := PyProof.Rows.sortedAll s.heap its (List.toArray out) } := fun its out hlen he => by
    obtain ⟨ys, y1, y2, y3⟩ := vals_choose he
    obtain ⟨ep, hat⟩ := PyProof.Rows.sortedAll_at s.heap its out.toArray
    have y2' : ys.length = ds.length := y2.trans (srt_len ds)
    refine ⟨.ref _, upd H (s.heap.objs.size + 1) (.lst ys), I.laid (t' := s.toks) (fun b u e => PyProof.Rows.sortedAll_old e) (Nat.le_succ _) ?_, rfl, q ys _ y2' (fun i y d e1 e2 => y3 i y d e1 e2) (I.hok.fresh (Nat.le_succ _))⟩
    exact ⟨by rw [y2']; exact million o3, out, ep, y1, hat⟩
  have hlx : xs.length = ds.length := dpa_len ra
  have each : ∀ its : List Value, Vals xs its → PySem.W.EachIs (fun u d => ∃ v, RelV v u ∧ R v d) its ds ∧ PySem.W.EachIs (fun u d => ∃ as, Reads s.heap u (id d) as) its ds := fun its hv => by
    constructor
    · refine each_of (by rw [← hv.length, hlx]) fun i u d e1 e2 => ?_
      have hi : i < xs.length := by
        have := (List.getElem?_eq_some_iff.mp e2).1
        omega
      obtain ⟨u', hu', ru'⟩ := hv.get (List.getElem?_eq_getElem hi)
      rw [e1] at hu'
      cases hu'
      exact ⟨xs[i], ru', hR i _ d (List.getElem?_eq_getElem hi) e2⟩
    · refine each_of (by rw [← hv.length, hlx]) fun i u d e1 e2 => ?_
      obtain ⟨v, hvx, rd⟩ := dpa_get ra e2
      obtain ⟨u', hu', ru'⟩ := hv.get hvx
      rw [e1] at hu'
      cases hu'
      exact Dp.reads I d v u (rd.dp (alk_nd (srtOk_alk ok (List.mem_of_getElem? e2)))) ru'
  rcases hq with hq | hq
  · obtain ⟨its, hv, ⟨ob, nn, ho, hc, hdn, hdt⟩, hz⟩ := I.list hq
    refine PySem.W.sorted_data (bs := ds) (enc := id) (R := fun u d => ∃ v, RelV v u ∧ R v d) ⟨ob, ho, hc, nn, hdt⟩ (each its hv).1 (each its hv).2 o1 o2 (million o3) bound fun out h1 h2 => ?_
    exact fin its out h1 h2
  · obtain ⟨its, hv, ⟨ob, ho, hc, nn, hdt⟩, hz⟩ := I.tuple hq
    refine sorted_tupD (bs := ds) (enc := id) (R := fun u d => ∃ v, RelV v u ∧ R v d) ho hc hdt (each its hv).1 (each its hv).2 o1 o2 (million o3) bound fun out h1 h2 => ?_
    exact fin its out h1 h2
theorem rpa_of {K : PySem.W.Frag} {H : Hp} : ∀ {ds : List D} {ys : List V}, ys.length = ds.length → (∀ (i : Nat) (y : V) (d : D), ys[i]? = some y → ds[i]? = some d → Rp K H y d) → RpAll K H ys ds
  | [], [], _, _ => .nil
  | [], _ :: _, h, _ => by simp at h
  | _ :: _, [], h, _ => by simp at h
  | d :: ds, y :: ys, hl, h => .cons (h 0 y d rfl rfl) (rpa_of (by simpa using hl) fun i y d e1 e2 => h (i + 1) y d (by simpa using e1) (by simpa using e2))
theorem vSort : VCallF c (rSortD c.K) gSort := fun Hs G H σ δ vs as d S r e Q q => by
  obtain ⟨ds, he, ok, rfl⟩ := gSort_inv e
  have fin : ∀ (a : Addr) (xs : List V), vs = [.ref a] → (SqL c.K H a xs ∨ SqT c.K H a xs) → RpAll c.K Hs xs ds → rSortD c.K vs H Q := fun a xs ev hq ra => by
    refine ⟨a, xs, ds, ev, hq, dpa_mono S.sh ra, ok, fun v d => Rp c.K Hs v d, fun i x d e1 e2 => ?_, fun ys p hl hy hp => ?_⟩
    · obtain ⟨x', h1, h2⟩ := dpa_get ra e2
      rw [e1] at h1
      cases h1
      exact h2
    · exact q p ys Hs _ (Same.refl _) (S.loose hp) (S.loose_of hp) upd_same (rpa_of (by rw [srt_len]; exact hl) hy)
  rcases he with rfl | rfl
  · obtain ⟨v, rfl, rv⟩ := rpa1 r
    cases rv with
    | @lst a xs _ h1 r1 => exact fin a xs rfl (.inl (same_l S.sh h1)) r1
  · obtain ⟨v, rfl, rv⟩ := rpa1 r
    cases rv with
    | @tup a xs _ h1 r1 => exact fin a xs rfl (.inr (same_t S.sh h1)) r1
end
end DL

/-! DL8: reading owned lists; the rules in short, as a program prints them -/
namespace DL
open PySem L2
section
variable {X : Cx} {c : DC} {E : XK} {e a b : Expr} {es : List Expr} {pos : Pos} {α : Type}

/-! ### from the general form to the form without effects -/
theorem uOp {g : D → D → Option D} {fa fb : En → Re D} (h : PE X e (tD c E (eOp g (Pu fa) (Pu fb)))) : PE X e (tD c E (Pu (pOp g fa fb))) := eOp_pu g fa fb ▸ h
theorem uOpF {g : D → D → Option (List D)} {fa fb : En → Re D} (h : PE X e (tF c E (eOp g (Pu fa) (Pu fb)))) : PE X e (tF c E (Pu (pOp g fa fb))) := eOp_pu g fa fb ▸ h
theorem uUn {g : D → Option D} {fa : En → Re D} (h : PE X e (tD c E (eUn g (Pu fa)))) : PE X e (tD c E (Pu (pUn g fa))) := eUn_pu g fa ▸ h
theorem uTe {f : En → Re D} (h : PT X e (tT c E (eTe (Pu f)))) : PT X e (tT c E (Pu (pTe f))) := eTe_pu f ▸ h
theorem uNot {f : En → Re Bool} (h : PT X e (tT c E (eNot (Pu f)))) : PT X e (tT c E (Pu (pNot f))) := eNot_pu f ▸ h
theorem uAnd {f g : En → Re Bool} (h : PW X e (tT c E (eAnd (Pu f) (Pu g)))) : PW X e (tT c E (Pu (pAnd f g))) := eAnd_pu f g ▸ h
theorem uOr {f g : En → Re Bool} (h : PW X e (tT c E (eOr (Pu f) (Pu g)))) : PW X e (tT c E (Pu (pOr f g))) := eOr_pu f g ▸ h
theorem uVl {f : En → Re D} (h : PE X e (tD c E (eBo (eTe (Pu f))))) : PE X e (tD c E (Pu (pBo (pTe f)))) := by rw [← eBo_pu, ← eTe_pu]; exact h
theorem uVn {f : En → Re D} (h : PE X e (tD c E (eBo (eNot (eTe (Pu f)))))) : PE X e (tD c E (Pu (pBo (pNot (pTe f))))) := by rw [← eBo_pu, ← eNot_pu, ← eTe_pu]; exact h
theorem uVa {f : En → Re D} {g : En → Re Bool} (h : PE X e (tD c E (eBo (eAnd (eTe (Pu f)) (Pu g))))) : PE X e (tD c E (Pu (pBo (pAnd (pTe f) g)))) := by rw [← eBo_pu, ← eAnd_pu, ← eTe_pu]; exact h
theorem uVo {f : En → Re D} {g : En → Re Bool} (h : PE X e (tD c E (eBo (eOr (eTe (Pu f)) (Pu g))))) : PE X e (tD c E (Pu (pBo (pOr (pTe f) g)))) := by rw [← eBo_pu, ← eOr_pu, ← eTe_pu]; exact h
/-- back: what a chain's tail is asked as -/
theorem bBo {f : En → Re Bool} (h : PE X e (tD c E (Pu (pBo f)))) : PE X e (tD c E (eBo (Pu f))) := by rw [eBo_pu]; exact h
theorem uIf {t : En → Re Bool} {fa fb : En → Re D} (h : PE X e (tD c E (eIf (Pu t) (Pu fa) (Pu fb)))) : PE X e (tD c E (Pu (pIf t fa fb))) := eIf_pu t fa fb ▸ h
theorem uCh {g g' : D → D → Option D} {fa fb fc : En → Re D} (h : PE X e (tD c E (eCh g g' (Pu fa) (Pu fb) (Pu fc)))) : PE X e (tD c E (Pu (pCh g g' fa fb fc))) := eCh_pu g g' fa fb fc ▸ h
theorem uTh {g g' : D → D → Option D} {fa fb fc : En → Re D} (h : PT X e (tT c E (eTe (eCh g g' (Pu fa) (Pu fb) (Pu fc))))) : PT X e (tT c E (Pu (pTe (pCh g g' fa fb fc)))) := by rw [← eTe_pu, ← eCh_pu]; exact h
theorem uTo {g : D → D → Option D} {fa fb : En → Re D} (h : PT X e (tT c E (eTe (eOp g (Pu fa) (Pu fb))))) : PT X e (tT c E (Pu (pTe (pOp g fa fb)))) := by rw [← eTe_pu, ← eOp_pu]; exact h
theorem uCons {fa : En → Re D} {fr : En → Re (List D)} (h : PA X es (tA c E (eCons (Pu fa) (Pu fr)))) : PA X es (tA c E (Pu (pCons fa fr))) := eCons_pu fa fr ▸ h
theorem uTup {fr : En → Re (List D)} (h : PE X e (tD c E (eTup (Pu fr)))) : PE X e (tD c E (Pu (pTup fr))) := eTup_pu fr ▸ h
theorem uLst {fr : En → Re (List D)} (h : PE X e (tF c E (eLst (Pu fr)))) : PE X e (tF c E (Pu (pLst fr))) := eLst_pu fr ▸ h
theorem uCa {g : List D → Option D} {fr : En → Re (List D)} (h : PE X e (tD c E (eCa g (Pu fr)))) : PE X e (tD c E (Pu (pCa g fr))) := eCa_pu g fr ▸ h
theorem uCaF {g : List D → Option (List D)} {fr : En → Re (List D)} (h : PE X e (tF c E (eCa g (Pu fr)))) : PE X e (tF c E (Pu (pCa g fr))) := eCa_pu g fr ▸ h
theorem uCr {F : List D → Re D} {fr : En → Re (List D)} (h : PE X e (tD c E (eCr F (Pu fr)))) : PE X e (tD c E (Pu (pCr F fr))) := eCr_pu F fr ▸ h
theorem uCrF {F : List D → Re (List D)} {fr : En → Re (List D)} (h : PE X e (tF c E (eCr F (Pu fr)))) : PE X e (tF c E (Pu (pCr F fr))) := eCr_pu F fr ▸ h
theorem uIsi {T : String} {fa : En → Re D} (h : PE X e (tD c E (eIsi T (Pu fa)))) : PE X e (tD c E (Pu (pIsi T fa))) := eIsi_pu T fa ▸ h
theorem uSo {o : Option Expr} {f : En → Re D} (h : PO X o (tO c E (eSoP (Pu f)))) : PO X o (tO c E (Pu (pSoP f))) := eSoP_pu f ▸ h
theorem uSl {g : D → Option Int → Option Int → Option D} {fa : En → Re D} {fl fh : En → Re (Option Int)} (h : PE X e (tD c E (eSl g (Pu fa) (Pu fl) (Pu fh)))) : PE X e (tD c E (Pu (pSl g fa fl fh))) := eSl_pu g fa fl fh ▸ h
theorem uSlF {g : D → Option Int → Option Int → Option (List D)} {fa : En → Re D} {fl fh : En → Re (Option Int)} (h : PE X e (tF c E (eSl g (Pu fa) (Pu fl) (Pu fh)))) : PE X e (tF c E (Pu (pSl g fa fl fh))) := eSl_pu g fa fl fh ▸ h
def pFz (f : En → Re (List D)) : En → Re D := fun δ => (f δ).bd fun ds => .ok (.list ds)
theorem uFz {f : En → Re (List D)} (h : PE X e (tF c E (Pu f))) : PE X e (tD c E (Pu (pFz f))) := by
  have := de_frz h
  rw [fz_pu] at this
  exact this
variable {tg : Expr}
theorem uLi {f : En → Re D} (h : PI X tg e (tI c E (eLi (Pu f)))) : PI X tg e (tI c E (Pu (pLi f))) := eLi_pu f ▸ h
theorem uTi {f : En → Re D} (h : PI X tg e (tI c E (eTi (Pu f)))) : PI X tg e (tI c E (Pu (pTi f))) := eTi_pu f ▸ h
theorem uSi {f : En → Re D} (h : PI X tg e (tI c E (eSi (Pu f)))) : PI X tg e (tI c E (Pu (pSi f))) := eSi_pu f ▸ h
theorem uCi {g : List D → Option (List D)} {fr : En → Re (List D)} (h : PI X tg e (tI c E (eCa g (Pu fr)))) : PI X tg e (tI c E (Pu (pCa g fr))) := eCa_pu g fr ▸ h
theorem uLc {fi : En → Re (List D)} {vs : List Nat} {g : D → En → Option En} {t : En → Re Bool} {f : En → Re D} (hg : GOk vs g) (h : PE X e (tF c E (eLc (Pu fi) vs g (Pu t) (Pu f)))) : PE X e (tF c E (Pu (pLc fi vs g t f))) := eLc_pu hg ▸ h
/-- a for's iterator made of a loose list -/
theorem di_fr {fr : En → Re (List D × En)} (hK : c.K = X.K) (h : PE X e (tF c E fr)) : PI X tg e (tI c E fr) := by
  have q := di_list (tg := tg) hK (de_frz h)
  have z : eLi (fz fr) = fr := by
    funext δ
    unfold eLi fz
    cases fr δ <;> rfl
  rw [z] at q
  exact q

/-! ### the rules in short -/
variable {fa fb fc : En → Re (D × En)} {fr : En → Re (List D × En)} {f g : En → Re (Bool × En)} {k : Nat}
theorem e_add (ha : PE X a (tD c E fa)) (hb : PE X b (tD c E fb)) (hK : c.K = X.K := by rfl) : PE X (.BinOp a .Add b pos) (tD c E (eOp gAdd fa fb)) := de_bin op_addA (hK ▸ vAdd) ha hb
theorem e_cat (ha : PE X a (tD c E fa)) (hb : PE X b (tD c E fb)) (hK : c.K = X.K := by rfl) : PE X (.BinOp a .Add b pos) (tF c E (eOp gCat fa fb)) := de_binF op_catS (hK ▸ vCat) ha hb
theorem e_sub (ha : PE X a (tD c E fa)) (hb : PE X b (tD c E fb)) : PE X (.BinOp a .Sub b pos) (tD c E (eOp gSub fa fb)) := de_bin op_sub vSub ha hb
theorem e_mul (ha : PE X a (tD c E fa)) (hb : PE X b (tD c E fb)) : PE X (.BinOp a .Mult b pos) (tD c E (eOp gMul fa fb)) := de_bin op_mulX vMul ha hb
theorem e_mod (ha : PE X a (tD c E fa)) (hb : PE X b (tD c E fb)) : PE X (.BinOp a .Mod b pos) (tD c E (eOp gMod fa fb)) := de_bin op_mod vMod ha hb
theorem e_div (ha : PE X a (tD c E fa)) (hb : PE X b (tD c E fb)) : PE X (.BinOp a .FloorDiv b pos) (tD c E (eOp gDiv fa fb)) := de_bin op_fdivW vDiv ha hb
theorem e_pow (ha : PE X a (tD c E fa)) (hb : PE X b (tD c E fb)) : PE X (.BinOp a .Pow b pos) (tD c E (eOp gPow fa fb)) := de_bin op_powW vPow ha hb
theorem e_ix (ha : PE X a (tD c E fa)) (hb : PE X b (tD c E fb)) (hK : c.K = X.K := by rfl) (hs : PlainIx b := by exact fun _ _ => rfl) : PE X (.Subscript a b pos) (tD c E (eOp gIx fa fb)) := de_ix ha hb hK hs
theorem room65 {A : Around} (hr : RoomG k A) : A.units + 66 < cLine := by have := hr.un; omega
theorem e_lt (hr : RoomG k X.A) (ha : PE X a (tD c E fa)) (hb : PE X b (tD c E fb)) (hK : c.K = X.K := by rfl) : PE X (.Compare a [.Lt] [b] pos) (tD c E (eOp gLt fa fb)) := de_cmp (op_ltA hr.units0) (hK ▸ vLt) ha hb (nobehind b (by decide) (by decide))
theorem e_le (ha : PE X a (tD c E fa)) (hb : PE X b (tD c E fb)) : PE X (.Compare a [.LtE] [b] pos) (tD c E (eOp gLe fa fb)) := de_cmp op_le vLe ha hb (nobehind b (by decide) (by decide))
theorem e_gt (ha : PE X a (tD c E fa)) (hb : PE X b (tD c E fb)) : PE X (.Compare a [.Gt] [b] pos) (tD c E (eOp gGt fa fb)) := de_cmp op_gt vGt ha hb (nobehind b (by decide) (by decide))
theorem e_ge (ha : PE X a (tD c E fa)) (hb : PE X b (tD c E fb)) : PE X (.Compare a [.GtE] [b] pos) (tD c E (eOp gGe fa fb)) := de_cmp op_ge vGe ha hb (nobehind b (by decide) (by decide))
theorem e_eq (hr : RoomG k X.A) (ha : PE X a (tD c E fa)) (hb : PE X b (tD c E fb)) (hK : c.K = X.K := by rfl) : PE X (.Compare a [.Eq] [b] pos) (tD c E (eOp gEq fa fb)) := de_cmp (op_eqA hr.units) (hK ▸ vEq) ha hb (nobehind b (by decide) (by decide))
theorem e_ne (hr : RoomG k X.A) (ha : PE X a (tD c E fa)) (hb : PE X b (tD c E fb)) (hK : c.K = X.K := by rfl) : PE X (.Compare a [.NotEq] [b] pos) (tD c E (eOp gNe fa fb)) := de_cmp (op_neA hr.units) (hK ▸ vNe) ha hb (nobehind b (by decide) (by decide))
theorem e_is (ha : PE X a (tD c E fa)) (hb : PE X b (tD c E fb)) : PE X (.Compare a [.Is] [b] pos) (tD c E (eOp gIs fa fb)) := de_cmp op_isA vIs ha hb (nobehind b (by decide) (by decide))
theorem e_isn (ha : PE X a (tD c E fa)) (hb : PE X b (tD c E fb)) : PE X (.Compare a [.IsNot] [b] pos) (tD c E (eOp gIsN fa fb)) := de_cmp op_isNA vIsN ha hb (nobehind b (by decide) (by decide))
theorem e_in (hr : RoomG k X.A) (ha : PE X a (tD c E fa)) (hb : PE X b (tD c E fb)) (hK : c.K = X.K := by rfl) (hm : behindInMarks .In b = false := by rfl) : PE X (.Compare a [.In] [b] pos) (tD c E (eOp gIn fa fb)) := de_cmp (op_inA (by have := room65 hr; omega)) (hK ▸ vIn) ha hb hm
theorem e_nin (hr : RoomG k X.A) (ha : PE X a (tD c E fa)) (hb : PE X b (tD c E fb)) (hK : c.K = X.K := by rfl) (hm : behindInMarks .NotIn b = false := by rfl) : PE X (.Compare a [.NotIn] [b] pos) (tD c E (eOp gNotIn fa fb)) := de_cmp (op_notInA (by have := room65 hr; omega)) (hK ▸ vNotIn) ha hb hm
theorem t_lt (hr : RoomG k X.A) (ha : PE X a (tD c E fa)) (hb : PE X b (tD c E fb)) (hK : c.K = X.K := by rfl) : PT X (.Compare a [.Lt] [b] pos) (tT c E (eTe (eOp gLt fa fb))) := de_tcmp (op_ltA hr.units0) (hK ▸ vLt) ha hb (nobehind b (by decide) (by decide))
theorem t_le (ha : PE X a (tD c E fa)) (hb : PE X b (tD c E fb)) : PT X (.Compare a [.LtE] [b] pos) (tT c E (eTe (eOp gLe fa fb))) := de_tcmp op_le vLe ha hb (nobehind b (by decide) (by decide))
theorem t_gt (ha : PE X a (tD c E fa)) (hb : PE X b (tD c E fb)) : PT X (.Compare a [.Gt] [b] pos) (tT c E (eTe (eOp gGt fa fb))) := de_tcmp op_gt vGt ha hb (nobehind b (by decide) (by decide))
theorem t_ge (ha : PE X a (tD c E fa)) (hb : PE X b (tD c E fb)) : PT X (.Compare a [.GtE] [b] pos) (tT c E (eTe (eOp gGe fa fb))) := de_tcmp op_ge vGe ha hb (nobehind b (by decide) (by decide))
theorem t_eq (hr : RoomG k X.A) (ha : PE X a (tD c E fa)) (hb : PE X b (tD c E fb)) (hK : c.K = X.K := by rfl) : PT X (.Compare a [.Eq] [b] pos) (tT c E (eTe (eOp gEq fa fb))) := de_tcmp (op_eqA hr.units) (hK ▸ vEq) ha hb (nobehind b (by decide) (by decide))
theorem t_ne (hr : RoomG k X.A) (ha : PE X a (tD c E fa)) (hb : PE X b (tD c E fb)) (hK : c.K = X.K := by rfl) : PT X (.Compare a [.NotEq] [b] pos) (tT c E (eTe (eOp gNe fa fb))) := de_tcmp (op_neA hr.units) (hK ▸ vNe) ha hb (nobehind b (by decide) (by decide))
theorem t_is (ha : PE X a (tD c E fa)) (hb : PE X b (tD c E fb)) : PT X (.Compare a [.Is] [b] pos) (tT c E (eTe (eOp gIs fa fb))) := de_tcmp op_isA vIs ha hb (nobehind b (by decide) (by decide))
theorem t_isn (ha : PE X a (tD c E fa)) (hb : PE X b (tD c E fb)) : PT X (.Compare a [.IsNot] [b] pos) (tT c E (eTe (eOp gIsN fa fb))) := de_tcmp op_isNA vIsN ha hb (nobehind b (by decide) (by decide))
theorem t_in (hr : RoomG k X.A) (ha : PE X a (tD c E fa)) (hb : PE X b (tD c E fb)) (hK : c.K = X.K := by rfl) (hm : behindInMarks .In b = false := by rfl) : PT X (.Compare a [.In] [b] pos) (tT c E (eTe (eOp gIn fa fb))) := de_tcmp (op_inA (by have := room65 hr; omega)) (hK ▸ vIn) ha hb hm
theorem t_nin (hr : RoomG k X.A) (ha : PE X a (tD c E fa)) (hb : PE X b (tD c E fb)) (hK : c.K = X.K := by rfl) (hm : behindInMarks .NotIn b = false := by rfl) : PT X (.Compare a [.NotIn] [b] pos) (tT c E (eTe (eOp gNotIn fa fb))) := de_tcmp (op_notInA (by have := room65 hr; omega)) (hK ▸ vNotIn) ha hb hm
/-- a <= b <= c -/
theorem e_lele {d : Expr} (ha : PE X a (tD c E fa)) (hb : PE X b (tD c E fb)) (hc : PE X d (tD c E fc)) (hm : lastMarks [.LtE, .LtE] [b, d] = false := by with_unfolding_all rfl) : PE X (.Compare a [.LtE, .LtE] [b, d] pos) (tD c E (eCh gLe gLe fa fb fc)) := de_chain op_le vLe op_le vLe ha hb hc hm
theorem t_lele {d : Expr} (ha : PE X a (tD c E fa)) (hb : PE X b (tD c E fb)) (hc : PE X d (tD c E fc)) (hm : lastMarks [.LtE, .LtE] [b, d] = false := by with_unfolding_all rfl) : PT X (.Compare a [.LtE, .LtE] [b, d] pos) (tT c E (eTe (eCh gLe gLe fa fb fc))) := de_tchain op_le vLe op_le vLe ha hb hc hm
theorem e_lelt (hr : RoomG k X.A) {d : Expr} (ha : PE X a (tD c E fa)) (hb : PE X b (tD c E fb)) (hc : PE X d (tD c E fc)) (hK : c.K = X.K := by rfl) (hm : lastMarks [.LtE, .Lt] [b, d] = false := by with_unfolding_all rfl) : PE X (.Compare a [.LtE, .Lt] [b, d] pos) (tD c E (eCh gLe gLt fa fb fc)) := de_chain op_le vLe (op_ltA hr.units0) (hK ▸ vLt) ha hb hc hm
theorem t_lelt (hr : RoomG k X.A) {d : Expr} (ha : PE X a (tD c E fa)) (hb : PE X b (tD c E fb)) (hc : PE X d (tD c E fc)) (hK : c.K = X.K := by rfl) (hm : lastMarks [.LtE, .Lt] [b, d] = false := by with_unfolding_all rfl) : PT X (.Compare a [.LtE, .Lt] [b, d] pos) (tT c E (eTe (eCh gLe gLt fa fb fc))) := de_tchain op_le vLe (op_ltA hr.units0) (hK ▸ vLt) ha hb hc hm
theorem e_ltlt (hr : RoomG k X.A) {d : Expr} (ha : PE X a (tD c E fa)) (hb : PE X b (tD c E fb)) (hc : PE X d (tD c E fc)) (hK : c.K = X.K := by rfl) (hm : lastMarks [.Lt, .Lt] [b, d] = false := by with_unfolding_all rfl) : PE X (.Compare a [.Lt, .Lt] [b, d] pos) (tD c E (eCh gLt gLt fa fb fc)) := de_chain (op_ltA hr.units0) (hK ▸ vLt) (op_ltA hr.units0) (hK ▸ vLt) ha hb hc hm
theorem t_ltlt (hr : RoomG k X.A) {d : Expr} (ha : PE X a (tD c E fa)) (hb : PE X b (tD c E fb)) (hc : PE X d (tD c E fc)) (hK : c.K = X.K := by rfl) (hm : lastMarks [.Lt, .Lt] [b, d] = false := by with_unfolding_all rfl) : PT X (.Compare a [.Lt, .Lt] [b, d] pos) (tT c E (eTe (eCh gLt gLt fa fb fc))) := de_tchain (op_ltA hr.units0) (hK ▸ vLt) (op_ltA hr.units0) (hK ▸ vLt) ha hb hc hm
/-- the last of a chain of and, or -/
theorem e_vl {op : BoolOp} (h : PE X a (tD c E fa)) : PE X (.BoolOp op [a] pos) (tD c E (eBo (eTe fa))) := pe_one (de_vbo h)
/-! built-ins -/
variable {p : Pos}
theorem e_len (hm : X.mg "len" = none) (ha : PA X [e] (tA c E fr)) (hK : c.K = X.K := by rfl) (hg : Gl X "len" := by rfl) (he : starEach [e] X.env = (false, eval e X.env) :: starEach [] X.env := by rfl) : PE X (.Call (.Name "len" p) [e] [] pos) (tD c E (eCa gLen fr)) := de_callB call_len (hK ▸ vLen) hg hm PySem.boot_len ha (he := he)
theorem e_all (hm : X.mg "all" = none) (ha : PA X [e] (tA c E fr)) (hc : X.calm = true := by rfl) (hK : c.K = X.K := by rfl) (hg : Gl X "all" := by rfl) (he : starEach [e] X.env = (false, eval e X.env) :: starEach [] X.env := by rfl) : PE X (.Call (.Name "all" p) [e] [] pos) (tD c E (eCa gAll fr)) := de_callB (cr_all hc) (hK ▸ vAll) hg hm (by decide +kernel) ha (he := he)
theorem e_sum (hm : X.mg "sum" = none) (ha : PA X [e] (tA c E fr)) (hc : X.calm = true := by rfl) (hK : c.K = X.K := by rfl) (hg : Gl X "sum" := by rfl) (he : starEach [e] X.env = (false, eval e X.env) :: starEach [] X.env := by rfl) : PE X (.Call (.Name "sum" p) [e] [] pos) (tD c E (eCa gSum fr)) := de_callB (cr_sum hc) (hK ▸ vSum) hg hm (by decide +kernel) ha (he := he)
theorem e_abs (hm : X.mg "abs" = none) (ha : PA X [e] (tA c E fr)) (hg : Gl X "abs" := by rfl) (he : starEach [e] X.env = (false, eval e X.env) :: starEach [] X.env := by rfl) : PE X (.Call (.Name "abs" p) [e] [] pos) (tD c E (eCa gAbs fr)) := de_callB call_abs vAbs hg hm (by decide +kernel) ha (he := he)
theorem e_max (hm : X.mg "max" = none) (ha : PA X [a, b] (tA c E fr)) (hc : X.calm = true := by rfl) (hg : Gl X "max" := by rfl) (he : starEach [a, b] X.env = (false, eval a X.env) :: starEach [b] X.env := by rfl) (hpl : (backTo pos (starEach [b] X.env)).any (·.1) = false := by rfl) : PE X (.Call (.Name "max" p) [a, b] [] pos) (tD c E (eCa gMax fr)) := de_callB (call_max2 hc) vMax hg hm (by decide +kernel) ha (he := he) (hpl := hpl)
theorem e_min (hm : X.mg "min" = none) (ha : PA X [a, b] (tA c E fr)) (hc : X.calm = true := by rfl) (hg : Gl X "min" := by rfl) (he : starEach [a, b] X.env = (false, eval a X.env) :: starEach [b] X.env := by rfl) (hpl : (backTo pos (starEach [b] X.env)).any (·.1) = false := by rfl) : PE X (.Call (.Name "min" p) [a, b] [] pos) (tD c E (eCa gMin fr)) := de_callB (call_min2 hc) vMin hg hm (by decide +kernel) ha (he := he) (hpl := hpl)
theorem e_list (hm : X.mg "list" = none) (ha : PA X [e] (tA c E fr)) (hc : X.calm = true := by rfl) (hK : c.K = X.K := by rfl) (hg : Gl X "list" := by rfl) (he : starEach [e] X.env = (false, eval e X.env) :: starEach [] X.env := by rfl) : PE X (.Call (.Name "list" p) [e] [] pos) (tF c E (eCa gList fr)) := de_callTF (call_list_of.or (call_listS hc)) (hK ▸ vList) hg hm (by decide +kernel) ha (he := he)
theorem e_tuple (hm : X.mg "tuple" = none) (ha : PA X [e] (tA c E fr)) (hK : c.K = X.K := by rfl) (hg : Gl X "tuple" := by rfl) (he : starEach [e] X.env = (false, eval e X.env) :: starEach [] X.env := by rfl) : PE X (.Call (.Name "tuple" p) [e] [] pos) (tD c E (eCa gTuple fr)) := de_callT call_tuple_of (hK ▸ vTuple) hg hm (by decide +kernel) ha (he := he)
theorem e_sorted (hr : RoomG k X.A) (hm : X.mg "sorted" = none) (ha : PA X [e] (tA c E fr)) (hK : c.K = X.K := by rfl) (hg : Gl X "sorted" := by rfl) (he : starEach [e] X.env = (false, eval e X.env) :: starEach [] X.env := by rfl) : PE X (.Call (.Name "sorted" p) [e] [] pos) (tF c E (eCa gSort fr)) := de_callBF (cr_sortD (room65 hr)) (hK ▸ vSort) hg hm (by decide +kernel) ha (he := he)
/-- a module's constant -/
theorem e_glob {x : Str} {v : V} {d : D} {u : Value} (hg : Gl X x) (hm : X.mg x = some u) (r : RelV v u) (rd : ∀ Hs, Rp c.K Hs v d) (hd : (x == ("__debug__" : Str)) = false := by decide) : PE X (.Name x pos) (tD c E (Pu (pK d))) := dp_c (pe_glob hg hm r hd) rd
/-- list(range(..)) -/
theorem rgV_rp {K : PySem.W.Frag} {H : Hp} (i j : Int) : RpAll K H (rgV i j) (rgD i j) := by
  unfold rgV rgD
  generalize List.range (j - i).toNat = l
  induction l with
  | nil => exact .nil
  | cons x l ih => exact .cons (.int _) ih
def gLr1 : List D → Option (List D)
  | [.int j] => if 0 ≤ j ∧ j ≤ 16777216 then some (rgD 0 j) else none
  | _ => none
def gLr2 : List D → Option (List D)
  | [.int i, .int j] => if (0 ≤ i ∧ i ≤ 16777216) ∧ (0 ≤ j ∧ j ≤ 16777216) then some (rgD i j) else none
  | _ => none
theorem e_lrg1 {p2 p3 : Pos} (hm : X.mg "list" = none) (hm2 : X.mg "range" = none) (ha : PE X e (tD c E fa)) (hc : X.calm = true := by rfl) (hg : Gl X "list" := by rfl) (hg2 : Gl X "range" := by rfl) (na : starEach [e] X.env = (false, eval e X.env) :: starEach [] X.env := by rfl)
    (na2 : starEach [.Call (.Name "range" p2) [e] [] p3] X.env = (false, eval (.Call (.Name "range" p2) [e] [] p3) X.env) :: starEach [] X.env := by rfl) : PE X (.Call (.Name "list" p) [.Call (.Name "range" p2) [e] [] p3] [] pos) (tF c E (eCa gLr1 (eCons fa eNil))) :=
  PE.imp (pe_listRg hc hg hm (prg_1 hg2 hm2 ha na) na2) fun σ H Q ⟨Hs, G, δ, S, q⟩ => by
    have q' : PoG c E Hs G (fun ds δ' Hs' H' => ∀ p xs, Sat c Hs' G H' σ δ' → Loose c Hs' G H' σ δ' p → H' p = some (.lst xs) → RpAll c.K Hs' xs ds → Q (.ref p) H') ((fa δ).bd fun p => (opt (gLr1 [p.1])).bd fun d => .ok (d, p.2)) := by
      unfold eCa eCons eNil at q
      cases hz : fa δ with
      | bad => rw [hz] at q; exact q
      | er e => rw [hz] at q; exact q
      | ok p => rw [hz] at q; exact q
    refine ⟨Hs, G, δ, S, PoG.seq q' fun d δ1 Hs1 H1 s1 q1 v S1 r1 => ?_⟩
    obtain ⟨ds, hd, q2⟩ := PoG.last (k := fun d => (d, δ1)) q1
    cases r1 with
    | int j =>
      simp only [gLr1] at hd
      split at hd
      · rename_i hj
        cases hd
        exact ⟨j, rfl, RgOk.of_le (by omega) hj.2 (by omega) hj.1, fun l hl => q2 Hs1 _ (Same.refl _) l _ (S1.loose hl) (S1.loose_of hl) upd_same (rgV_rp 0 j)⟩
      · cases hd
    | _ => cases hd

/-! ### owned lists, read -/
def pIxB (i : Nat) (fi : En → Re D) : En → Re D := fun δ => match δ[i]? with
  | some (.ow ds) => (fi δ).bd fun q => match q with
    | .int k => opt (atI ds k)
    | _ => .bad
  | _ => .bad
theorem e_ixB {i : Nat} {x : Str} {xp : Pos} {fi : En → Re D} (hx : PE X (.Name x xp) (tVar i)) (hb : PE X b (tD c E (Pu fi))) (hK : c.K = X.K := by rfl) (hs : PlainIx b := by exact fun _ _ => rfl) : PE X (.Subscript (.Name x xp) b pos) (tD c E (Pu (pIxB i fi))) :=
  PE.imp (pe_ix ix_list hx hb hs) fun σ H Q ⟨Hs, G, δ, S, q⟩ => by
    unfold Pu pIxB at q
    cases hi : δ[i]? with
    | none => rw [hi] at q; exact q.elim
    | some s => cases s with
      | ow ds =>
        rw [hi] at q
        simp only at q
        obtain ⟨l, xs, e1, h1, r1, w1⟩ := S.sl i _ hi
        refine ⟨.ref l, e1, Hs, G, δ, S, ?_⟩
        unfold Pu
        cases hz : fi δ with
        | bad => rw [hz] at q; exact q
        | er e => rw [hz] at q; exact q
        | ok d =>
          rw [hz] at q
          simp only [Re.bd_ok] at q
          refine PoG.of_ok fun Hs1 H1 s1 v S1 rv => ?_
          cases rv with
          | int k =>
            simp only at q
            cases ha : atI ds k with
            | none => rw [ha] at q; exact q.elim
            | some d =>
              rw [ha] at q
              obtain ⟨l', ys, e2, h2, r2, _⟩ := S1.sl i _ hi
              rw [e1] at e2
              cases e2
              obtain ⟨v, hv, rv⟩ := rpa_atI r2 ha
              exact ⟨l, ys, k, v, rfl, rfl, SqL.of h2, hv, q Hs1 H1 s1 v S1 rv⟩
          | _ => exact False.elim q
      | _ => rw [hi] at q; exact q.elim
def pLenB (i : Nat) : En → Re D := fun δ => match δ[i]? with
  | some (.ow ds) => .ok (.int ds.length)
  | _ => .bad
theorem e_lenB {i : Nat} {x : Str} {xp : Pos} (hm : X.mg "len" = none) (hx : PE X (.Name x xp) (tVar i)) (hg : Gl X "len" := by rfl) (he : starEach [.Name x xp] X.env = (false, eval (.Name x xp) X.env) :: starEach [] X.env := by rfl) : PE X (.Call (.Name "len" p) [.Name x xp] [] pos) (tD c E (Pu (pLenB i))) :=
  PE.imp (pe_callB call_len_seq hg hm PySem.boot_len (pa_cons hx pa_nil he) (he := he)) fun σ H Q ⟨Hs, G, δ, S, q⟩ => by
    unfold Pu pLenB at q
    cases hi : δ[i]? with
    | none => rw [hi] at q; exact q.elim
    | some s => cases s with
      | ow ds =>
        rw [hi] at q
        obtain ⟨l, xs, e1, h1, r1, w1⟩ := S.sl i _ hi
        exact ⟨.ref l, e1, l, xs, rfl, .inl (SqL.of h1), by rw [dpa_len r1]; exact q Hs H (Same.refl _) _ S (.int _)⟩
      | _ => rw [hi] at q; exact q.elim
/-- x in y, y an owned list -/
def eInB (neg : Bool) (fa : En → Re (D × En)) (i : Nat) : En → Re (D × En) := fun δ => (fa δ).bd fun p => match p.2[i]? with
  | some (.ow ds) => (opt (inD p.1 (.list ds))).bd fun b => .ok (.bool (if neg then !b else b), p.2)
  | _ => .bad
def pInB (neg : Bool) (fa : En → Re D) (i : Nat) : En → Re D := fun δ => (fa δ).bd fun p => match δ[i]? with
  | some (.ow ds) => (opt (inD p (.list ds))).bd fun b => .ok (.bool (if neg then !b else b))
  | _ => .bad
theorem eInB_pu (neg : Bool) (fa : En → Re D) (i : Nat) : eInB neg (Pu fa) i = Pu (pInB neg fa i) := by
  funext δ
  unfold eInB Pu pInB
  cases fa δ with
  | ok x =>
    simp only [Re.bd_ok]
    cases δ[i]? with
    | none => rfl
    | some s => cases s with
      | ow ds =>
        simp only
        cases inD x (.list ds) <;> rfl
      | _ => rfl
  | _ => rfl
theorem v_inB {neg : Bool} {i : Nat} {r : R2} {σ : St} {H : Hp} {Q : VK} (hr : ∀ (x y : V) (H : Hp) (d : D) (ds : List D) (b : Bool), Dp c.K H x d → Dp c.K H y (.list ds) → inD d (.list ds) = some b → ∀ Q : VK, Q (.bl (if neg then !b else b)) H → r x y H Q) (h : tD c E (eInB neg fa i) σ H Q) : tOp r (tD c E fa) (tVar i) σ H Q := by
  obtain ⟨Hs, G, δ, S, q⟩ := h
  refine ⟨Hs, G, δ, S, PoG.seq q fun d δ1 Hs1 H1 s1 q1 v S1 r1 => ?_⟩
  simp only at q1
  cases hi : δ1[i]? with
  | none => rw [hi] at q1; exact q1.elim
  | some s => cases s with
    | ow ds =>
      rw [hi] at q1
      simp only at q1
      obtain ⟨l, xs, e1, h1, r2, w1⟩ := S1.sl i _ hi
      refine ⟨.ref l, e1, ?_⟩
      cases hb : inD d (.list ds) with
      | none => rw [hb] at q1; exact q1.elim
      | some b =>
        rw [hb] at q1
        exact hr v (.ref l) H1 d ds b ((dp_mono S1.sh r1).dp (inD_nd hb).1) (.lst (SqL.of h1) ((dpa_mono S1.sh r2).dpa (inD_nd hb).2)) hb Q (q1 Hs1 H1 (Same.refl _) _ S1 (.bl _))
    | _ => rw [hi] at q1; exact q1.elim
theorem inB_t {K : PySem.W.Frag} : ∀ (x y : V) (H : Hp) (d : D) (ds : List D) (b : Bool), Dp K H x d → Dp K H y (.list ds) → inD d (.list ds) = some b → ∀ Q : VK, Q (.bl (if false then !b else b)) H → rInD K x y H Q := fun x y H d ds b h1 h2 h3 Q q => by
  simp only [inD] at h3
  split at h3
  · rename_i z
    cases h3
    rw [Bool.and_eq_true] at z
    exact ⟨d, ds, h1, h2, z.1, z.2, q⟩
  · cases h3
theorem inB_f {K : PySem.W.Frag} : ∀ (x y : V) (H : Hp) (d : D) (ds : List D) (b : Bool), Dp K H x d → Dp K H y (.list ds) → inD d (.list ds) = some b → ∀ Q : VK, Q (.bl (if true then !b else b)) H → rNotInD K x y H Q := fun x y H d ds b h1 h2 h3 Q q => by
  simp only [inD] at h3
  split at h3
  · rename_i z
    cases h3
    rw [Bool.and_eq_true] at z
    exact ⟨d, ds, h1, h2, z.1, z.2, q⟩
  · cases h3
variable {i : Nat} {x : Str} {xp : Pos}
theorem e_inB (hr : RoomG k X.A) (ha : PE X a (tD c E fa)) (hx : PE X (.Name x xp) (tVar i)) (hK : c.K = X.K := by rfl) (hm : behindInMarks .In (.Name x xp) = false := by rfl) : PE X (.Compare a [.In] [.Name x xp] pos) (tD c E (eInB false fa i)) := PE.imp (pe_cmpR (op_inD (by have := room65 hr; omega)) ha hx hm) fun σ H Q h => by rw [← hK]; exact v_inB inB_t h
theorem e_ninB (hr : RoomG k X.A) (ha : PE X a (tD c E fa)) (hx : PE X (.Name x xp) (tVar i)) (hK : c.K = X.K := by rfl) (hm : behindInMarks .NotIn (.Name x xp) = false := by rfl) : PE X (.Compare a [.NotIn] [.Name x xp] pos) (tD c E (eInB true fa i)) := PE.imp (pe_cmpR (op_notInD (by have := room65 hr; omega)) ha hx hm) fun σ H Q h => by rw [← hK]; exact v_inB inB_f h
theorem t_inB (hr : RoomG k X.A) (ha : PE X a (tD c E fa)) (hx : PE X (.Name x xp) (tVar i)) (hK : c.K = X.K := by rfl) (hm : behindInMarks .In (.Name x xp) = false := by rfl) : PT X (.Compare a [.In] [.Name x xp] pos) (tT c E (eTe (eInB false fa i))) := PT.imp (pt_cmpR (op_inD (by have := room65 hr; omega)) ha hx hm) fun σ H Q h => by
  have q := v_te h
  rw [← hK]
  exact v_inB (Q := fun x H' => ∃ k, x = .bl k ∧ Q k H') inB_t q
theorem t_ninB (hr : RoomG k X.A) (ha : PE X a (tD c E fa)) (hx : PE X (.Name x xp) (tVar i)) (hK : c.K = X.K := by rfl) (hm : behindInMarks .NotIn (.Name x xp) = false := by rfl) : PT X (.Compare a [.NotIn] [.Name x xp] pos) (tT c E (eTe (eInB true fa i))) := PT.imp (pt_cmpR (op_notInD (by have := room65 hr; omega)) ha hx hm) fun σ H Q h => by
  have q := v_te h
  rw [← hK]
  exact v_inB (Q := fun x H' => ∃ k, x = .bl k ∧ Q k H') inB_f q
theorem uInB {neg : Bool} {fa : En → Re D} {i : Nat} (h : PE X e (tD c E (eInB neg (Pu fa) i))) : PE X e (tD c E (Pu (pInB neg fa i))) := eInB_pu neg fa i ▸ h
theorem uTInB {neg : Bool} {fa : En → Re D} {i : Nat} (h : PT X e (tT c E (eTe (eInB neg (Pu fa) i)))) : PT X e (tT c E (Pu (pTe (pInB neg fa i)))) := by rw [← eTe_pu, ← eInB_pu]; exact h
/-- xs.extend([..]): the argument a new list -/
def eExt (i : Nat) (fr : En → Re (List D × En)) : En → Re (D × En) := fun δ => match δ[i]? with
  | some (.ow _) => (fr δ).bd fun p => match p.2[i]? with
    | some (.ow ds) => if ds.length + p.1.length ≤ 1000000 then .ok (.none, p.2.set i (.ow (ds ++ p.1))) else .bad
    | _ => .bad
  | _ => .bad
theorem e_ext {apos cpos : Pos} (ho : PE X (.Name x xp) (tVar i)) (ha : PE X e (tF c E fr))
    (hbase : attributeBase (.Name x xp) "extend" X.env (eval (.Name x xp) X.env) = eval (.Name x xp) X.env := by rfl)
    (hfew : ((backTo cpos (starEach [e] X.env)).all (fun x => !x.1) && (backToKw cpos (keywordEach [] X.env)).all (fun x => x.1.isSome)
      && decide ([e].length + ([] : List Keyword).length + (if ([] : List Keyword).isEmpty then 0 else 1) < 30)) = true := by rfl)
    (hline : (apos.endLine == cpos.line) = true := by rfl) (hs : starEach [e] X.env = (false, eval e X.env) :: starEach [] X.env := by rfl) (hplain : (backTo cpos (starEach [] X.env)).any (·.1) = false := by rfl) :
    PE X (.Call (.Attribute (.Name x xp) "extend" apos) [e] [] cpos) (tD c E (eExt i fr)) :=
  PE.imp (pe_bm PySem.F.plainAttrs_list PySem.F.slot_list_extend PySem.F.type_list_extend mt_extend ho (pa_cons ha pa_nil hs) hbase hfew hline hs hplain) fun σ H Q ⟨Hs, G, δ, S, q⟩ => by
    unfold eExt at q
    cases hi : δ[i]? with
    | none => rw [hi] at q; exact q.elim
    | some s => cases s with
      | ow ds0 =>
        rw [hi] at q
        simp only at q
        obtain ⟨l, xs, e1, h1, _, _⟩ := S.sl i _ hi
        refine ⟨.ref l, e1, .inl ⟨rfl, xs, SqL.of h1⟩, Hs, G, δ, S, PoG.seq q fun es δ1 Hs1 H1 s1 q1 z zs S1 L hz rz => ?_⟩
        simp only at q1
        cases hi1 : δ1[i]? with
        | none => rw [hi1] at q1; exact q1.elim
        | some s => cases s with
          | ow ds =>
            rw [hi1] at q1
            simp only at q1
            split at q1
            · rename_i hl
              obtain ⟨l', ys, e2, h2, r2, w2⟩ := S1.sl i _ hi1
              rw [e1] at e2
              cases e2
              exact ⟨l, z, ys, zs, rfl, rfl, h2, hz, by rw [dpa_len r2, dpa_len rz]; exact million hl, q1 Hs1 _ (Same.refl _) _ (S1.writeOw hi1 e1 (dpa_append r2 rz)) .non⟩
            · exact q1.elim
          | _ => rw [hi1] at q1; exact q1.elim
      | _ => rw [hi] at q; exact q.elim
end
end DL

/-! DL9: defs that hand back a new list -/
namespace DL
open PySem L2
def relS (scope sc : Scope) : Scope :=
  { scope with names := scope.names.map fun p => if (p.2 == .free && sc.kind == .function && sc.names.lookup p.1 == some .cell) then (p.1, .cell) else p }
theorem relE (scope : Scope) (cl : List (Str × Addr)) (C : Addr) (env : Env) : (compEnvC scope cl C env).scope = relS scope env.scope := rfl
theorem envE {qual : Str} {sc : Scope} {a f : Addr} {cd : Value} : (PyProof.Rows.envOfC qual sc a f cd).scope = sc := rfl
def dfPF (np n : Nat) (F : En → Re Fl) (ds : List D) : Re (List D) := if ds.length = np then (match F (en0 n ds) with
  | .bad => .bad
  | .er e => .er e
  | .ok (.rf d _) => .ok d
  | .ok _ => .bad) else .bad
def fin1F (d : List D) (δ : En) : Re (List D × List D) := match δ[(0 : Nat)]? with
  | some (.ow s) => .ok (d, s)
  | _ => .bad
def dfMF (np n : Nat) (F : En → Re Fl) (src ds : List D) : Re (List D × List D) := if ds.length = np then (match F (en1 n src ds) with
  | .bad => .bad
  | .er e => .er e
  | .ok (.rf d δ) => fin1F d δ
  | .ok _ => .bad) else .bad
section
variable {P : Program} {w : World} {K : PySem.W.Frag} {mg : Str → Option Value} {base : Heap}
variable {x qual : Str} {st : Stmt} {f : Addr} {fd : FuncData} {N ps : List Str} {k : Nat}
theorem fn_PF (F : Fun K x qual st f fd) (S : FnScope N ps (defScope st)) {Fb : En → Re Fl}
    (hb : ∀ (cdv : Value) (A : Around) (outer : List Env) (s : Shared) (H : Hp) (E : XK) (Hin Hb : Hp) (ma : Nat → Addr), RoomG k (A.deeper (PyProof.Rows.envOfC qual (defScope st) s.heap.objs.size f cdv)) →
      PSs (cxOf (L2.CX P w) P w K mg base N qual (defScope st) f cdv A outer s H E) (defBody st) (tS ⟨K, mg, Hin, Hb, [], ma⟩ E Fb)) :
    FnOkG P w K mg base (L2.CX P w) (k + 1) f fd ps (spPF K mg (dfPF ps.length N.length Fb)) := by
  refine fun_okG F S (fun vs H Q E ⟨_, ds, _, r, h⟩ => by
    unfold dfPF at h
    split at h
    · rename_i hl; rw [dpa_len r]; exact hl
    · exact h.elim) (fun cdv A outer s H vs Q E hr ⟨Hs, ds, hs, r, h⟩ => ⟨_, hb cdv A outer s H E H Hs (fun _ => 0) hr, Hs, H, en0 N.length ds, sat0 hs r, ?_⟩)
  unfold dfPF at h
  split at h
  case isFalse => exact h.elim
  cases hz : Fb (en0 N.length ds) with
  | bad => rw [hz] at h; exact h
  | er e => rw [hz] at h; exact fun Hs' H' s' F' => h Hs' H' s' F'.sh F'.gm F'.nw
  | ok fl =>
    rw [hz] at h
    cases fl with
    | rf d δ => exact fun p xs σ' Hs' H' s' S' L hx rx => h p xs Hs' H' s' S'.sh S'.gm S'.nw L.s L.i hx rx
    | _ => exact h.elim
theorem finF_at {Hs Hs' H H' : Hp} {a : Addr} {σ : St} {δ : En} {d : List D} {z : List D × List D} (S : Sat ⟨K, mg, but H a, Hs, [0], fun _ => a⟩ Hs' (but H a) H' σ δ) (h : fin1F d δ = .ok z) :
    z.1 = d ∧ (∃ xs, H' a = some (.lst xs) ∧ RpAll K Hs' xs z.2 ∧ Hs' a = none) ∧ ∀ p, Loose ⟨K, mg, but H a, Hs, [0], fun _ => a⟩ Hs' (but H a) H' σ δ p → p ≠ a := by
  unfold fin1F at h
  split at h
  · rename_i s e
    cases h
    obtain ⟨r, xs, e1, h1, r1, w1, _, w2⟩ := S.sl 0 _ e
    cases w2.2 (show 0 ∈ [0] by simp)
    exact ⟨rfl, ⟨xs, h1, r1, w1⟩, fun p L z => L.f 0 _ e (by rw [e1, z]; rfl)⟩
  · cases h
theorem finF_ok {d : List D} {δ : En} : fin1F d δ = .bad ∨ ∃ s, fin1F d δ = .ok (d, s) := by
  unfold fin1F
  split
  · exact .inr ⟨_, rfl⟩
  · exact .inl rfl
theorem fn_MF (F : Fun K x qual st f fd) {p0 : Str} (S : FnScope N (p0 :: ps) (defScope st)) {Fb : En → Re Fl}
    (hb : ∀ (cdv : Value) (A : Around) (outer : List Env) (s : Shared) (H : Hp) (E : XK) (Hin Hb : Hp) (ma : Nat → Addr), RoomG k (A.deeper (PyProof.Rows.envOfC qual (defScope st) s.heap.objs.size f cdv)) →
      PSs (cxOf (L2.CX P w) P w K mg base N qual (defScope st) f cdv A outer s H E) (defBody st) (tS ⟨K, mg, Hin, Hb, [0], ma⟩ E Fb)) :
    FnOkG P w K mg base (L2.CX P w) (k + 1) f fd (p0 :: ps) (spMF K mg (dfMF ps.length N.length Fb)) := by
  refine fun_okG F S (fun vs H Q E ⟨_, _, _, _, ws, ds, e, _, _, _, _, r, h⟩ => by
    subst e
    unfold dfMF at h
    split at h
    · rename_i hl; rw [List.length_cons, List.length_cons, dpa_len r, hl]
    · exact h.elim) (fun cdv A outer s H vs Q E hr ⟨Hs, a, xs, src, ws, ds, e, hs, ha, hx, rx, r, h⟩ => ?_)
  subst e
  refine ⟨_, hb cdv A outer s H E (but H a) Hs (fun _ => a) hr, Hs, _, en1 N.length src ds, sat1 hs ha hx rx r, ?_⟩
  unfold dfMF at h
  split at h
  case isFalse => exact h.elim
  cases hz : Fb (en1 N.length src ds) with
  | bad => rw [hz] at h; exact h
  | er e => rw [hz] at h; exact h.elim
  | ok fl =>
    rw [hz] at h
    cases fl with
    | rf d δ =>
      intro p ys σ' Hs' H' s' S' L hx' rx'
      rcases finF_ok (d := d) (δ := δ) with e | ⟨t, e⟩
      · simp only [e] at h; exact h.elim
      · obtain ⟨_, ⟨zs, q1, q2, q3⟩, q4⟩ := finF_at S' e
        simp only [e] at h
        have hi : H p = none := by
          have := L.i
          rw [show (DC.Hin ⟨K, mg, but H a, Hs, [0], fun _ => a⟩ : Hp) = but H a from rfl, but_of (q4 p L)] at this
          exact this
        exact h p ys zs Hs' H' s' S'.sh (keep_G S'.gm) (nw_but S'.nw q3) q3 q1 q2 L.s hi hx' rx'
    | _ => exact h.elim
end
section
variable {X : Cx} {c : DC} {E : XK} {e : Expr} {es : List Expr} {fr : En → Re (List D × En)} {k : Nat} {x : Str} {ps : List Str} {n : Nat} {p pos : Pos} {Hs Hs' G H H' : Hp} {σ : St} {δ : En}
def eCmF (i : Nat) (F : List D → List D → Re (List D × List D)) (fr : En → Re (List D × En)) : En → Re (List D × En) := fun δ => match δ[i]? with
  | some (.ow _) => (fr δ).bd fun p => match p.2[i]? with
    | some (.ow src) => nb (F src p.1) fun q => .ok (q.1, p.2.set i (.ow q.2))
    | _ => .bad
  | _ => .bad
theorem v_cmF {i : Nat} {F : List D → List D → Re (List D × List D)} {Q : VK} (h : tF c E (eCmF i F fr) σ H Q) : tCall (spMF c.K c.mg F) [] E (tCons (tVar i) (tA c E fr)) σ H Q := by
  obtain ⟨Hs, G, δ, S, q⟩ := h
  unfold eCmF at q
  cases hi : δ[i]? with
  | none => rw [hi] at q; exact q.elim
  | some s => cases s with
    | ow ds0 =>
      rw [hi] at q
      simp only at q
      obtain ⟨a, xs, e1, h1, _, _⟩ := S.sl i _ hi
      refine ⟨.ref a, e1, Hs, G, δ, S, PoG.seq q fun es δ1 Hs1 H1 s1 q1 as S1 r1 => ?_⟩
      simp only at q1
      cases hi1 : δ1[i]? with
      | none => rw [hi1] at q1; exact q1.elim
      | some s => cases s with
        | ow src =>
          rw [hi1] at q1
          simp only at q1
          obtain ⟨a', ys, e2, h2, r2, w2⟩ := S1.sl i _ hi1
          rw [e1] at e2
          cases e2
          show spMF c.K c.mg F ((V.ref a :: as) ++ []) H1 Q E
          rw [List.append_nil]
          refine ⟨Hs1, a, ys, src, as, es, rfl, S1.sh, w2.1, h2, r2, r1, ?_⟩
          cases hz : F src es with
          | bad => rw [hz] at q1; exact q1
          | er e => rw [hz] at q1; exact q1
          | ok z =>
            rw [hz] at q1
            obtain ⟨d, src'⟩ := z
            intro p2 ys2 zs Hs' H' s sh sm nw hs h' rz hp hp2 hx rx
            have S2 := S1.after hi1 e1 s sh sm nw hs h' rz
            refine q1 Hs' H' s p2 ys2 S2 ⟨hp, Sat.fresh_G S1.toFrm hp2, Sat.fresh_in S1.toFrm hp2, fun j t hj f => ?_⟩ hx rx
            have hlt : i < δ1.length := (List.getElem?_eq_some_iff.mp hi1).1
            by_cases hji : j = i
            · subst hji
              rw [List.getElem?_set_self hlt] at hj
              cases hj
              rw [e1] at f
              have e0 : p2 = a := f
              subst e0
              rw [h2] at hp2; cases hp2
            · rw [List.getElem?_set_ne (Ne.symm hji)] at hj
              have ne : ∀ (b : Addr), Foot H1 σ[j]? t b → b ≠ a := fun b f => by
                rintro rfl
                exact S1.sp j i t _ b hji hj hi1 f (by rw [e1]; rfl)
              have f' := foot_keep (H' := H') (S1.sl j t hj) (fun b u f e => sm b u (ne b f) e) f
              obtain ⟨_, u, e⟩ := foot_own (S1.sl j t hj) f'
              rw [hp2] at e; cases e
        | _ => rw [hi1] at q1; exact q1.elim
    | _ => rw [hi] at q; exact q.elim
variable {i : Nat} {y : Str} {yp : Pos}
theorem de_cmF {F : List D → List D → Re (List D × List D)} (hD : Dn X.prog X.w X.K X.mg X.base k x ps (spMF X.K X.mg F)) (hr : RoomG k X.A) (hg : Gl X x) (hx : Passes (L2.CX X.prog X.w) X E) (hK : c.K = X.K) (hM : c.mg = X.mg) (ho : PE X (.Name y yp) (tVar i))
    (ha : PA X es (tA c E fr)) (hdb : (x == ("__debug__" : Str)) = false := by decide) (he : starEach (.Name y yp :: es) X.env = (false, eval (.Name y yp) X.env) :: starEach es X.env := by rfl) (hpl : (backTo pos (starEach es X.env)).any (·.1) = false := by rfl) :
    PE X (.Call (.Name x p) (.Name y yp :: es) [] pos) (tF c E (eCmF i F fr)) := by
  obtain ⟨f, fd, Fo, hm, hk, hb⟩ := hD.ex
  refine PE.imp (pe_callG Fo hr hg hm hk hb .nil hx (pa_cons ho ha he) hdb he hpl) fun σ H Q h => ?_
  rw [← hK, ← hM]
  exact v_cmF h
theorem spMF_noer {K : PySem.W.Frag} {mg : Str → Option Value} {F : List D → List D → Re (List D × List D)} {vs : List V} {H : Hp} {Q : VK} {E : XK} (E' : XK) (h : spMF K mg (noer2 F) vs H Q E) : spMF K mg F vs H Q E' := by
  obtain ⟨Hs, a, xs, src, ws, ds, e, s, h1, h2, r, r2, q⟩ := h
  refine ⟨Hs, a, xs, src, ws, ds, e, s, h1, h2, r, r2, ?_⟩
  unfold noer2 at q
  cases hz : F src ds with
  | bad => rw [hz] at q; exact q
  | er e => rw [hz] at q; exact q.elim
  | ok d => rw [hz] at q; exact q
theorem de_cm0F {F : List D → List D → Re (List D × List D)} (hD : Dn X.prog X.w X.K X.mg X.base k x ps (spMF X.K X.mg F)) (hr : RoomG k X.A) (hg : Gl X x) (hK : c.K = X.K) (hM : c.mg = X.mg) (ho : PE X (.Name y yp) (tVar i))
    (ha : PA X es (tA c E fr)) (hdb : (x == ("__debug__" : Str)) = false := by decide) (he : starEach (.Name y yp :: es) X.env = (false, eval (.Name y yp) X.env) :: starEach es X.env := by rfl) (hpl : (backTo pos (starEach es X.env)).any (·.1) = false := by rfl) :
    PE X (.Call (.Name x p) (.Name y yp :: es) [] pos) (tF c E (eCmF i (noer2 F) fr)) := by
  obtain ⟨f, fd, Fo, hm, hk, hb⟩ := hD.ex
  refine PE.imp (pe_callG Fo hr hg hm hk hb .nil passN (pa_cons ho ha he) hdb he hpl) fun σ H Q h => ?_
  have q := v_cmF h
  have mono : ∀ {t : TA} {R R' : List V → Hp → Prop}, (∀ vs H, R vs H → R' vs H) → tCons (tVar i) (tA c E fr) σ H R → tCons (tVar i) (tA c E fr) σ H R' := fun {t R R'} w ⟨v, e, Hs, G, δ, S, q⟩ =>
    ⟨v, e, Hs, G, δ, S, q.imp fun a δ' Hs' H' z vs S' r => w _ _ (z vs S' r)⟩
  refine mono (t := tNil) (fun vs H1 z => ?_) q
  rw [← hK, ← hM]
  exact spMF_noer _ z
theorem e_globI {i : Int} (hg : Gl X x) (hm : ∃ t, X.mg x = some (.int i t)) (hd : (x == ("__debug__" : Str)) = false := by decide) : PE X (.Name x pos) (tD c E (Pu (pK (.int i)))) := by
  obtain ⟨t, h⟩ := hm
  exact e_glob (v := .int i) hg h ⟨t, rfl⟩ (fun _ => .int i) hd
theorem e_globS {y : Str} (hg : Gl X x) (hm : ∃ t, X.mg x = some (.str y t)) (hd : (x == ("__debug__" : Str)) = false := by decide) : PE X (.Name x pos) (tD c E (Pu (pK (.str y)))) := by
  obtain ⟨t, h⟩ := hm
  exact e_glob (v := .str y) hg h ⟨t, rfl⟩ (fun _ => .str y) hd
theorem uLr1 {fa : En → Re D} (h : PE X e (tF c E (eCa gLr1 (eCons (Pu fa) eNil)))) : PE X e (tF c E (Pu (pCa gLr1 (pCons fa pNil)))) := by
  have e1 : (eNil : En → Re (List D × En)) = Pu pNil := rfl
  rw [e1, eCons_pu, eCa_pu] at h; exact h
end
end DL
namespace DL
open PySem L2
theorem ints_rp {K : PySem.W.Frag} {H : Hp} (ns : List Int) : RpAll K H (ns.map V.int) (ns.map .int) := by
  induction ns with
  | nil => exact .nil
  | cons n ns ih => exact .cons (.int n) ih
end DL

/-! DL10: owned lists lent for a while, or hidden -/
namespace DL
open PySem L2
mutual
/-- data without lists: plain values, tuples of such -/
def scal : D → Bool
  | .none => true
  | .bool _ => true
  | .int _ => true
  | .str _ => true
  | .tuple ds => scalA ds
  | .list _ => false
  | .dict _ => false
def scalA : List D → Bool
  | [] => true
  | d :: ds => scal d && scalA ds
end
theorem scalA_all : ∀ ds : List D, scalA ds = ds.all scal
  | [] => by simp only [scalA, List.all_nil]
  | d :: ds => by simp only [scalA, List.all_cons, scalA_all ds]
mutual
theorem scal_rp {K : PySem.W.Frag} {H H' : Hp} (hh : ∀ a xs, Rd H a (.tup xs) → Rd H' a (.tup xs)) : ∀ {d : D} {v : V}, scal d = true → Rp K H v d → Rp K H' v d
  | _, _, _, .non => .non
  | _, _, _, .bl b => .bl b
  | _, _, _, .int i => .int i
  | _, _, _, .str x => .str x
  | _, _, h, .lst _ _ => by simp only [scal] at h; cases h
  | _, _, h, .tup h1 h2 => by
    simp only [scal] at h
    exact .tup (h1.imp (hh _ _) id) (scal_rpA hh h h2)
  | _, _, h, .dic _ _ _ => by simp only [dicD, scal] at h; cases h
theorem scal_rpA {K : PySem.W.Frag} {H H' : Hp} (hh : ∀ a xs, Rd H a (.tup xs) → Rd H' a (.tup xs)) : ∀ {ds : List D} {vs : List V}, scalA ds = true → RpAll K H vs ds → RpAll K H' vs ds
  | _, _, _, .nil => .nil
  | d :: ds, _, h, .cons r rs => by
    simp only [scalA, Bool.and_eq_true] at h
    exact .cons (scal_rp hh h.1 r) (scal_rpA hh h.2 rs)
end
theorem scal_rpa {K : PySem.W.Frag} {H H' : Hp} (hh : ∀ a xs, Rd H a (.tup xs) → Rd H' a (.tup xs)) {ds : List D} {vs : List V} (h : ds.all scal = true) (r : RpAll K H vs ds) : RpAll K H' vs ds := scal_rpA hh (by rw [scalA_all]; exact h) r
/-- the slots as they are lent: the named ones stable, what else is owned is hidden -/
def lend1 (is : List Nat) (i : Nat) : Sl → Sl
  | .ow ds => if i ∈ is then .sh (.list ds) else .no
  | .ow2 dss => if i ∈ is then .sh (.list (dss.map .list)) else .no
  | .dk _ => .no
  | .dt _ => .no
  | s => s
theorem lend1_ow (is : List Nat) (i : Nat) (ds : List D) : lend1 is i (.ow ds) = if i ∈ is then .sh (.list ds) else .no := rfl
theorem lend1_ow2 (is : List Nat) (i : Nat) (ds : List (List D)) : lend1 is i (.ow2 ds) = if i ∈ is then .sh (.list (ds.map .list)) else .no := rfl
def lend (is : List Nat) (δ : En) : En := δ.mapIdx fun i s => lend1 is i s
def lnd : Sl → Bool
  | .ow _ => true
  | .ow2 _ => true
  | _ => false
section
variable {X : Cx} {c : DC} {E : XK} {e : Expr} {Hs Hs' G H H' : Hp} {σ : St} {δ δ' : En}
/-- the objects of the lent lists | of the hidden ones -/
def Lent (is : List Nat) (H : Hp) (σ : St) (δ : En) (a : Addr) : Prop := ∃ (i : Nat) (s : Sl), i ∈ is ∧ lnd s = true ∧ δ[i]? = some s ∧ Foot H σ[i]? s a
def Hidn (is : List Nat) (H : Hp) (σ : St) (δ : En) (a : Addr) : Prop := ∃ (i : Nat) (s : Sl), δ[i]? = some s ∧ Foot H σ[i]? s a ∧ ¬ (i ∈ is ∧ lnd s = true)
open Classical in
noncomputable def hsL (is : List Nat) (Hs H : Hp) (σ : St) (δ : En) : Hp := fun a => if Lent is H σ δ a then H a else Hs a
open Classical in
noncomputable def gL (is : List Nat) (G H : Hp) (σ : St) (δ : En) : Hp := fun a => if Hidn is H σ δ a then H a else G a
theorem lend_foot {is : List Nat} {j : Nat} {t : Sl} {a : Addr} (h : (lend is δ)[j]? = some t) (f : Foot H σ[j]? t a) : False := by
  unfold lend at h
  rw [List.getElem?_mapIdx] at h
  obtain ⟨s, _, e⟩ := Option.map_eq_some_iff.mp h
  subst e
  cases s with
  | ow ds =>
    rw [lend1_ow] at f
    by_cases hi : j ∈ is
    · rw [if_pos hi] at f; exact foot_sh f
    · rw [if_neg hi] at f; exact foot_no f
  | ow2 dss =>
    rw [lend1_ow2] at f
    by_cases hi : j ∈ is
    · rw [if_pos hi] at f; exact foot_sh f
    · rw [if_neg hi] at f; exact foot_no f
  | dk k => exact foot_no f
  | dt k => exact foot_no f
  | no => exact foot_no f
  | sh d => exact foot_sh f
theorem Sat.lent (S : Sat c Hs G H σ δ) (is : List Nat) : Sat c (hsL is Hs H σ δ) (gL is G H σ δ) H σ (lend is δ) ∧ Same Hs (hsL is Hs H σ δ) := by
  have own' : ∀ a, Lent is H σ δ a → Ow3 c Hs G a := fun a ⟨i, s, _, _, hj, f⟩ => (foot_own (S.sl i _ hj) f).1
  have own2 : ∀ a, Hidn is H σ δ a → Ow3 c Hs G a := fun a ⟨i, s, hj, f, _⟩ => (foot_own (S.sl i _ hj) f).1
  have disj : ∀ a, Lent is H σ δ a → ¬ Hidn is H σ δ a := fun a ⟨i, s, hi, hs, hj, f⟩ ⟨j, t, hj2, f2, n⟩ => by
    by_cases e : i = j
    · subst e
      rw [hj] at hj2
      cases hj2
      exact n ⟨hi, hs⟩
    · exact S.sp i j _ _ a e hj hj2 f f2
  have ss : Same Hs (hsL is Hs H σ δ) := fun a o e => by
    unfold hsL
    split
    · rename_i h; rw [(own' a h).1] at e; cases e
    · exact e
  refine ⟨⟨⟨S.bs.trans ss, fun a o e => ?_, fun a o e => ?_, fun a o e => ?_, S.hin, fun a o o' e e' => ?_⟩, ?_, fun j t h => ?_, fun j l t u a ne h1 h2 f1 f2 => (lend_foot h1 f1).elim⟩, ss⟩
  · unfold hsL at e
    split at e
    · exact e
    · exact S.sh a o e
  · unfold gL at e
    split at e
    · exact e
    · exact S.gm a o e
  · unfold hsL at e
    split at e
    · rename_i h; exact .inr (own' a h).2.2
    · exact S.nw a o e
  · unfold gL at e
    unfold hsL at e'
    split at e'
    · rename_i h
      rw [if_neg (disj a h), (own' a h).2.1] at e; cases e
    · split at e
      · rename_i h; rw [(own2 a h).1] at e'; cases e'
      · exact S.gs a o o' e e'
  · unfold lend; rw [List.length_mapIdx]; exact S.ln
  · unfold lend at h
    rw [List.getElem?_mapIdx] at h
    obtain ⟨s, hs, e⟩ := Option.map_eq_some_iff.mp h
    subst e
    have q := S.sl j s hs
    have at_l : ∀ b, j ∈ is → lnd s = true → Foot H σ[j]? s b → hsL is Hs H σ δ b = H b := fun b hi hl f => by
      unfold hsL; rw [if_pos ⟨j, s, hi, hl, hs, f⟩]
    cases s with
    | no => trivial
    | sh d =>
      obtain ⟨x, e1, r⟩ := q
      exact ⟨x, e1, dp_mono ss r⟩
    | dk k => trivial
    | dt k => trivial
    | ow ds =>
      obtain ⟨r, xs, e1, h1, r1, w⟩ := q
      rw [lend1_ow]
      by_cases hi : j ∈ is
      · rw [if_pos hi]
        refine ⟨.ref r, e1, .lst (SqL.of ?_) (dpa_mono ss r1)⟩
        rw [at_l r hi rfl (by rw [e1]; rfl)]; exact h1
      · rw [if_neg hi]; trivial
    | ow2 dss =>
      obtain ⟨r, rs, e1, h1, h2, h3, h4⟩ := q
      rw [lend1_ow2]
      by_cases hi : j ∈ is
      · rw [if_pos hi]
        refine ⟨.ref r, e1, .lst (xs := rs.map V.ref) (SqL.of ?_) ?_⟩
        · rw [at_l r hi rfl (by rw [e1]; exact .inl rfl)]; exact h1
        · have fm : ∀ b ∈ rs, hsL is Hs H σ δ b = H b := fun b hb => at_l b hi rfl (by rw [e1]; exact .inr ⟨_, h1, List.mem_map.mpr ⟨b, hb, rfl⟩⟩)
          generalize hsL is Hs H σ δ = HL at ss fm
          clear at_l h1 h3 hs e1 h h2
          induction h4 with
          | nil => exact .nil
          | @cons a ds rs' dss' h5 h6 ih =>
            obtain ⟨xs, p1, p2, p3⟩ := h5
            refine .cons (.lst (xs := xs) (SqL.of ?_) (dpa_mono ss p2)) (ih fun b hb => fm b (List.mem_cons_of_mem _ hb))
            rw [fm a List.mem_cons_self]; exact p1
      · rw [if_neg hi]; trivial
/-- what the slots own is kept while it is lent or hidden -/
theorem Sat.lent_kept (S : Sat c Hs G H σ δ) {is : List Nat} (s' : Same (hsL is Hs H σ δ) Hs') (F' : Frm c Hs' (gL is G H σ δ) H') (j : Nat) (t : Sl) (b : Addr) (o : HO) (hj : δ[j]? = some t) (f : Foot H σ[j]? t b) (e : H b = some o) : H' b = some o := by
  by_cases hl : Lent is H σ δ b
  · exact F'.sh b o (s' b o (by unfold hsL; rw [if_pos hl]; exact e))
  · have hh : Hidn is H σ δ b := ⟨j, t, hj, f, fun ⟨z1, z2⟩ => hl ⟨j, t, z1, z2, hj, f⟩⟩
    exact F'.gm b o (by unfold gL; rw [if_pos hh]; exact e)
theorem Sat.gL_of (S : Sat c Hs G H σ δ) {is : List Nat} {b : Addr} {o : HO} (e : G b = some o) : gL is G H σ δ b = some o := by
  unfold gL
  split
  · rename_i h; obtain ⟨i, s, hj, f, _⟩ := h; rw [(foot_own (S.sl i _ hj) f).1.2.1] at e; cases e
  · exact e
open Classical in
/-- what is stable behind the lending: all but the lent lists -/
noncomputable def uL (is : List Nat) (Hs' H : Hp) (σ : St) (δ : En) : Hp := fun a => if Lent is H σ δ a then none else Hs' a
theorem uL_n {is : List Nat} {a : Addr} (h : Hs' a = none) : uL is Hs' H σ δ a = none := by
  unfold uL; split
  · rfl
  · exact h
theorem uL_of {is : List Nat} {a : Addr} {o : HO} (h : uL is Hs' H σ δ a = some o) : Hs' a = some o := by
  unfold uL at h
  split at h
  · cases h
  · exact h
theorem Sat.unlend (S : Sat c Hs G H σ δ) {is : List Nat} (s' : Same (hsL is Hs H σ δ) Hs') (F' : Frm c Hs' (gL is G H σ δ) H') : Sat c (uL is Hs' H σ δ) G H' σ δ ∧ Same Hs (uL is Hs' H σ δ) := by
  have ss := (S.lent is).2
  have su : Same Hs (uL is Hs' H σ δ) := fun a o e => by
    unfold uL
    split
    · rename_i h
      obtain ⟨i, t, _, _, hj, f⟩ := h
      rw [(foot_own (S.sl i t hj) f).1.1] at e; cases e
    · exact s' a o (ss a o e)
  refine ⟨S.keep ⟨S.bs.trans su, fun b o e => F'.sh b o (uL_of e), fun b o e => F'.gm b o (S.gL_of e), fun b o e => F'.nw b o (uL_of e), F'.hin, fun b o o' e e' => F'.gs b o o' (S.gL_of e) (uL_of e')⟩ su (fun j t b o hj f e => S.lent_kept s' F' j t b o hj f e) (fun j t b hj f => ?_) (fun j t b hj f => (foot_own (S.sl j t hj) f).1.2.1), su⟩
  obtain ⟨w, o, e⟩ := foot_own (S.sl j t hj) f
  unfold uL
  split
  · rfl
  · rename_i hl
    cases z : Hs' b with
    | none => rfl
    | some u =>
      have g : gL is G H σ δ b = some o := by unfold gL; rw [if_pos ⟨j, t, hj, f, fun ⟨z1, z2⟩ => hl ⟨j, t, z1, z2, hj, f⟩⟩]; exact e
      obtain ⟨y, hy⟩ := F'.gs b o u g z
      rw [w.2.2] at hy; cases hy
/-- a tuple is none of the lent lists -/
theorem Sat.uL_tup (S : Sat c Hs G H σ δ) {is : List Nat} (s' : Same (hsL is Hs H σ δ) Hs') : ∀ a xs, Rd Hs' a (.tup xs) → Rd (uL is Hs' H σ δ) a (.tup xs) := fun a xs h => by
  have nl : ¬ Lent is H σ δ a := fun hl => by
    obtain ⟨i, t, hi, hn, hj, f⟩ := hl
    have hH : hsL is Hs H σ δ a = H a := by unfold hsL; rw [if_pos ⟨i, t, hi, hn, hj, f⟩]
    obtain ⟨_, o, e⟩ := foot_own (S.sl i t hj) f
    have q := s' a o (hH.trans e)
    have isl : ∃ ys, H a = some (.lst ys) := by
      have sl := S.sl i t hj
      cases t with
      | ow ds =>
        obtain ⟨r, ys, e1, h1, _, _⟩ := sl
        rw [e1] at f
        have : a = r := f
        subst this; exact ⟨_, h1⟩
      | ow2 dss =>
        obtain ⟨r, rs, e1, h1, h2, h3, h4⟩ := sl
        rw [e1] at f
        rcases (show a = r ∨ ∃ xs, H r = some (.lst xs) ∧ V.ref a ∈ xs from f) with z | ⟨ys, z1, z2⟩
        · subst z; exact ⟨_, h1⟩
        · rw [h1] at z1
          cases z1
          obtain ⟨b, hb, z3⟩ := List.mem_map.mp z2
          cases z3
          obtain ⟨es, p⟩ := paired_mem h4 hb
          obtain ⟨ys, q1, _⟩ := p
          exact ⟨_, q1⟩
      | no => cases hn
      | sh d => cases hn
      | dk k => cases hn
      | dt k => cases hn
    obtain ⟨ys, ey⟩ := isl
    rw [ey] at e
    cases e
    rcases h with h | ⟨o2, h⟩ <;> rw [q] at h <;> cases h
  have e : uL is Hs' H σ δ a = Hs' a := by unfold uL; rw [if_neg nl]
  unfold Rd; rw [e]; exact h
/-- an effect-free expression over the lent slots, whose value is no list -/
def bor (is : List Nat) (f : En → Re D) : En → Re D := fun δ => match f (lend is δ) with
  | .ok d => if scal d then .ok d else .bad
  | _ => .bad
theorem de_bor {is : List Nat} {f : En → Re D} (h : PE X e (tD c E (Pu f))) : PE X e (tD c E (Pu (bor is f))) := PE.imp h fun σ H Q ⟨Hs, G, δ, S, q⟩ => by
  refine ⟨_, _, _, (S.lent is).1, ?_⟩
  unfold Pu bor at q
  unfold Pu
  cases hz : f (lend is δ) with
  | bad => rw [hz] at q; exact q.elim
  | er e => rw [hz] at q; exact q.elim
  | ok d =>
    simp only [hz] at q
    cases hs : scal d with
    | false => rw [hs] at q; exact q.elim
    | true =>
      rw [hs] at q
      exact fun Hs' H' s' v S' r => q _ H' (S.unlend s' S'.toFrm).2 v (S.unlend s' S'.toFrm).1 (scal_rp (S.uL_tup s') hs r)
/-- .. whose value is a new list of such values -/
def borF (is : List Nat) (f : En → Re (List D)) : En → Re (List D) := fun δ => match f (lend is δ) with
  | .ok ds => if ds.all scal then .ok ds else .bad
  | _ => .bad
theorem de_borF {is : List Nat} {f : En → Re (List D)} (h : PE X e (tF c E (Pu f))) : PE X e (tF c E (Pu (borF is f))) := PE.imp h fun σ H Q ⟨Hs, G, δ, S, q⟩ => by
  have ss := (S.lent is).2
  refine ⟨_, _, _, (S.lent is).1, ?_⟩
  unfold Pu borF at q
  unfold Pu
  cases hz : f (lend is δ) with
  | bad => rw [hz] at q; exact q.elim
  | er e => rw [hz] at q; exact q.elim
  | ok ds =>
    simp only [hz] at q
    cases hs : ds.all scal with
    | false => rw [hs] at q; exact q.elim
    | true =>
      rw [hs] at q
      intro Hs' H' s' p xs S' L h r
      obtain ⟨S2, s2⟩ := S.unlend s' S'.toFrm
      refine q _ H' s2 p xs S2 ⟨uL_n L.s, ?_, L.i, fun j t hj f => ?_⟩ h (scal_rpa (S.uL_tup s') hs r)
      · cases z : G p with
        | none => rfl
        | some o => have := S.gL_of (is := is) z; rw [L.g] at this; cases this
      · have f' := foot_keep (S.sl j t hj) (fun b o f e => S.lent_kept s' S'.toFrm j t b o hj f e) f
        obtain ⟨_, o, e⟩ := foot_own (S.sl j t hj) f'
        by_cases hl : Lent is H σ δ p
        · have := s' p o (by unfold hsL; rw [if_pos hl]; exact e)
          rw [L.s] at this; cases this
        · have hh : Hidn is H σ δ p := ⟨j, t, hj, f', fun ⟨z1, z2⟩ => hl ⟨j, t, z1, z2, hj, f'⟩⟩
          have : gL is G H σ δ p = some o := by unfold gL; rw [if_pos hh]; exact e
          rw [L.g] at this; cases this
/-! hidden alone: what is made meanwhile is kept -/
theorem hs_nil {Hs H : Hp} : hsL [] Hs H σ δ = Hs := by
  funext a
  unfold hsL
  rw [if_neg fun ⟨i, s, hi, _⟩ => by cases hi]
theorem Sat.unhideAll (S : Sat c Hs G H σ δ) (s' : Same Hs Hs') (F' : Frm c Hs' (gL [] G H σ δ) H') : Sat c Hs' G H' σ δ := by
  have s2 : Same (hsL [] Hs H σ δ) Hs' := by rw [hs_nil]; exact s'
  refine S.keep ⟨F'.bs, F'.sh, fun b o e => F'.gm b o (S.gL_of e), F'.nw, F'.hin, fun b o o' e e' => F'.gs b o o' (S.gL_of e) e'⟩ s' (fun j t b o hj f e => S.lent_kept s2 F' j t b o hj f e) (fun j t b hj f => ?_) (fun j t b hj f => (foot_own (S.sl j t hj) f).1.2.1)
  obtain ⟨w, o, e⟩ := foot_own (S.sl j t hj) f
  cases z : Hs' b with
  | none => rfl
  | some u =>
    have g : gL [] G H σ δ b = some o := by unfold gL; rw [if_pos ⟨j, t, hj, f, fun ⟨z, _⟩ => by cases z⟩]; exact e
    obtain ⟨y, hy⟩ := F'.gs b o u g z
    rw [w.2.2] at hy; cases hy
end
end DL

/-! DL11: calls with keywords -/
namespace DL
open PySem L2
def pick {α : Type} (ix : List Nat) (l : List α) : List α := ix.filterMap fun i => l[i]?
def gK {α : Type} (m n : Nat) (ix : List Nat) (us ws : List α) : List α := if us.length = m ∧ ws.length = n then pick ix (us ++ ws) else []
theorem vals_len {vs : List V} {us : List Value} (r : Vals vs us) : vs.length = us.length := r.length
theorem vals_app {vs ws : List V} {us zs : List Value} (r : Vals vs us) (r2 : Vals ws zs) : Vals (vs ++ ws) (us ++ zs) := by
  induction r with
  | nil => exact r2
  | cons h _ ih => exact .cons h ih
theorem vals_get {vs : List V} {us : List Value} (r : Vals vs us) : ∀ (i : Nat), (vs[i]? = none ∧ us[i]? = none) ∨ ∃ v u, vs[i]? = some v ∧ us[i]? = some u ∧ RelV v u := by
  induction r with
  | nil => exact fun i => .inl ⟨by simp, by simp⟩
  | cons h _ ih =>
    intro i
    cases i with
    | zero => exact .inr ⟨_, _, rfl, rfl, h⟩
    | succ i => simpa using ih i
theorem vals_pick {vs : List V} {us : List Value} (r : Vals vs us) : ∀ (ix : List Nat), Vals (pick ix vs) (pick ix us)
  | [] => .nil
  | i :: ix => by
    have ih := vals_pick r ix
    unfold pick at ih ⊢
    rcases vals_get r i with ⟨e1, e2⟩ | ⟨v, u, e1, e2, h⟩
    · rw [List.filterMap_cons_none e1, List.filterMap_cons_none e2]; exact ih
    · rw [List.filterMap_cons_some e1, List.filterMap_cons_some e2]; exact .cons h ih
theorem rpa_pick {K : PySem.W.Frag} {H : Hp} {vs : List V} {ds : List D} (r : RpAll K H vs ds) : ∀ (ix : List Nat), RpAll K H (pick ix vs) (pick ix ds)
  | [] => .nil
  | i :: ix => by
    have ih := rpa_pick r ix
    unfold pick at ih ⊢
    cases e : ds[i]? with
    | none =>
      have e1 : vs[i]? = none := by
        rw [List.getElem?_eq_none_iff] at e ⊢
        rw [dpa_len r]; exact e
      rw [List.filterMap_cons_none e1, List.filterMap_cons_none e]; exact ih
    | some d =>
      obtain ⟨v, e1, h⟩ := dpa_get r e
      rw [List.filterMap_cons_some e1, List.filterMap_cons_some e]; exact .cons h ih
theorem Fun.kbinds {K : PySem.W.Frag} {x qual : Str} {st : Stmt} {f : Addr} {fd : FuncData} {ps ks : List Str} {m n : Nat} {ix : List Nat} (F : Fun K x qual st f fd) (hp : ps.length ≠ 0)
    (h : ∀ (kV doc pm : Value) (an : Option Addr) (cdv ct : Value) (us ws : List Value), us.length = m → ws.length = n → bindArgs (PySem.W.fnOf x qual (defArgs st) (defBody st) (defScope st) .none kV doc pm an cdv ct) ⟨us, ks.zip ws⟩ = pure (ps.zip (pick ix (us ++ ws)))) : KBinds K fd ps ks (gK m n ix) (gK m n ix) := by
  obtain ⟨oc, od, kV, doc, pm, an, cdv, ct, osl, rfl, lk, hcd⟩ := F.ex
  refine ⟨fun s us ws _ hl => ?_, fun {vs us zs ws} r r2 => ?_⟩
  · unfold gK at hl ⊢
    split at hl
    · rename_i z
      rw [if_pos z]
      exact .of_eq (h kV doc pm an cdv ct us ws z.1 z.2)
    · exact absurd hl.symm hp
  · unfold gK
    rw [vals_len r, vals_len r2]
    split
    · exact vals_pick (vals_app r r2) ix
    · exact .nil
structure DnK (P : Program) (w : World) (K : PySem.W.Frag) (mg : Str → Option Value) (base : Heap) (k : Nat) (x : Str) (ps ks : List Str) (m n : Nat) (ix : List Nat) (sp : Sp) : Prop where
  ex : ∃ f fd, FnOkG P w K mg base (L2.CX P w) k f fd ps sp ∧ mg x = some (.ref f) ∧ PySem.W.keepIn K (.ref f) = true ∧ KBinds K fd ps ks (gK m n ix) (gK m n ix)
theorem PK.imp {X : Cx} {kws : List Keyword} {t t' : TA} (h : PK X kws t) (w : ∀ σ H Q, t' σ H Q → t σ H Q) : PK X kws t' := ⟨fun pos pins s σ H Q I q => h.run pos pins s σ H Q I (w σ H Q q)⟩
section
variable {X : Cx} {c : DC} {E : XK} {e : Expr} {es : List Expr} {kws : List Keyword} {fa : En → Re (D × En)} {fr f1 f2 : En → Re (List D × En)} {k : Nat} {x : Str} {ps ks : List Str} {m n : Nat} {ix : List Nat} {p pos kpos : Pos} {nm : Option Str} {Hs Hs' G H H' : Hp} {σ : St} {δ : En}
theorem dk_nil : PK X [] (tA c E (Pu pNil)) := PK.imp pk_nil fun σ H Q ⟨Hs, G, δ, S, q⟩ => q Hs H (Same.refl _) [] S .nil
theorem dk_cons (ha : PE X e (tD c E fa)) (hr : PK X kws (tA c E fr)) : PK X (⟨nm, e, kpos⟩ :: kws) (tA c E (eCons fa fr)) := PK.imp (pk_cons ha hr) fun σ H Q ⟨Hs, G, δ, S, q⟩ =>
  ⟨Hs, G, δ, S, PoG.seq q fun d δ1 Hs1 H1 s1 q1 x S1 r1 => ⟨Hs1, G, δ1, S1, PoG.seq q1 fun ds δ2 Hs2 H2 s2 q2 xs S2 r2 => q2 Hs2 H2 (Same.refl _) _ S2 (.cons (dp_mono s2 r1) r2)⟩⟩
theorem uKCons {fa : En → Re D} {fr : En → Re (List D)} (h : PK X kws (tA c E (eCons (Pu fa) (Pu fr)))) : PK X kws (tA c E (Pu (pCons fa fr))) := eCons_pu fa fr ▸ h
/-- F of the positional values and the keywords' values, brought into the parameters' order -/
def eCk {α : Type} (m n : Nat) (ix : List Nat) (F : List D → Re α) (f1 f2 : En → Re (List D × En)) : En → Re (α × En) := fun δ => (f1 δ).bd fun p => (f2 p.2).bd fun q => if p.1.length = m ∧ q.1.length = n then (F (pick ix (p.1 ++ q.1))).bd fun d => .ok (d, q.2) else .bad
def pCk {α : Type} (m n : Nat) (ix : List Nat) (F : List D → Re α) (f1 f2 : En → Re (List D)) : En → Re α := fun δ => (f1 δ).bd fun p => (f2 δ).bd fun q => if p.length = m ∧ q.length = n then F (pick ix (p ++ q)) else .bad
theorem eCk_pu {α : Type} (F : List D → Re α) (f1 f2 : En → Re (List D)) : eCk m n ix F (Pu f1) (Pu f2) = Pu (pCk m n ix F f1 f2) := by
  funext δ; unfold eCk Pu pCk
  cases f1 δ with
  | ok a =>
    simp only [Re.bd_ok]
    cases f2 δ with
    | ok b =>
      simp only [Re.bd_ok]
      split <;> rfl
    | _ => rfl
  | _ => rfl
theorem pe_ck0 {CX : CXT} {f : Addr} {fd : FuncData} {sp : Sp} {g : List Value → List Value → List Value} {gV : List V → List V → List V} {tk : TA} (F : FnOkG X.prog X.w X.K X.mg X.base CX k f fd ps sp) (hr : RoomG k X.A) (hg : Gl X x) (hm : X.mg x = some (.ref f)) (hk : PySem.W.keepIn X.K (.ref f) = true) (hb : KBinds X.K fd ps ks g gV) (hx : Passes CX X E)
    (hkw : PK X kws tk) (hall : (backToKw pos (keywordEach kws X.env)).all (·.1.isSome) = true := by rfl) (hks : (backToKw pos (keywordEach kws X.env)).filterMap (·.1) = ks := by rfl)
    (hdb : (x == ("__debug__" : Str)) = false := by decide) (hpl : ((backTo pos (starEach [] X.env)).any (·.1) || (backToKw pos (keywordEach kws X.env)).any (·.1.isNone)) = false := by rfl) :
    PE X (.Call (.Name x p) [] kws pos) (tCallK sp gV E tNil tk) := by
  refine ⟨fun pins s σ H Q I h => ?_⟩
  refine wpAny_Call_Name_kw (ld_glob I hg hm ?_ hdb)
  refine PySem.W.callWith_KW0 (h₀ := X.base) I.ok.mod.kin hk hall ?_ hpl
  refine thn (hkw.run pos pins s σ H _ I h) fun ws s2 ⟨zs, H2, I2, rz, q2⟩ => ⟨I2.kIn, ?_⟩
  rw [hks]
  exact run_fnkG F hr hb hx I2 .nil rz q2
theorem v_ck {F : List D → Re D} {t : TA} (ht : ∀ σ H Q, tA c E f1 σ H Q → t σ H Q) {Q : VK} (h : tD c E (eCk m n ix F f1 f2) σ H Q) : tCallK (spP c.K c.mg F) (gK m n ix) E t (tA c E f2) σ H Q := by
  obtain ⟨Hs, G, δ, S, q⟩ := h
  refine ht σ H _ ⟨Hs, G, δ, S, PoG.seq q fun ds δ1 Hs1 H1 s1 q1 vs S1 r1 => ⟨Hs1, G, δ1, S1, PoG.seq q1 fun es δ2 Hs2 H2 s2 q2 ws S2 r2 => ?_⟩⟩
  simp only at q2
  split at q2
  · rename_i z
    have e : gK m n ix vs ws = pick ix (vs ++ ws) := if_pos ⟨(dpa_len r1).trans z.1, (dpa_len r2).trans z.2⟩
    rw [e]
    exact v_cr (F := F) S2 (rpa_pick (dpa_append (dpa_mono s2 r1) r2) ix) q2
  · exact q2.elim
theorem de_ck {F : List D → Re D} (hD : DnK X.prog X.w X.K X.mg X.base k x ps ks m n ix (spP X.K X.mg F)) (hr : RoomG k X.A) (hg : Gl X x) (hx : Passes (L2.CX X.prog X.w) X E) (hK : c.K = X.K) (hM : c.mg = X.mg)
    (ha : PA X (e :: es) (tA c E f1)) (hkw : PK X kws (tA c E f2)) (hall : (backToKw pos (keywordEach kws X.env)).all (·.1.isSome) = true := by rfl) (hks : (backToKw pos (keywordEach kws X.env)).filterMap (·.1) = ks := by rfl)
    (hdb : (x == ("__debug__" : Str)) = false := by decide) (he : starEach (e :: es) X.env = (false, eval e X.env) :: starEach es X.env := by rfl)
    (hpl : ((backTo pos (starEach (e :: es) X.env)).any (·.1) || (backToKw pos (keywordEach kws X.env)).any (·.1.isNone)) = false := by rfl) :
    PE X (.Call (.Name x p) (e :: es) kws pos) (tD c E (eCk m n ix F f1 f2)) := by
  obtain ⟨f, fd, Fo, hm, hk, hb⟩ := hD.ex
  refine PE.imp (pe_callKG Fo hr hg hm hk hb hx ha hkw hall hks hdb he hpl) fun σ H Q h => ?_
  rw [← hK, ← hM]
  exact v_ck (fun _ _ _ z => z) h
theorem de_ck0 {F : List D → Re D} (hD : DnK X.prog X.w X.K X.mg X.base k x ps ks 0 n ix (spP X.K X.mg F)) (hr : RoomG k X.A) (hg : Gl X x) (hx : Passes (L2.CX X.prog X.w) X E) (hK : c.K = X.K) (hM : c.mg = X.mg)
    (hkw : PK X kws (tA c E f2)) (hall : (backToKw pos (keywordEach kws X.env)).all (·.1.isSome) = true := by rfl) (hks : (backToKw pos (keywordEach kws X.env)).filterMap (·.1) = ks := by rfl)
    (hdb : (x == ("__debug__" : Str)) = false := by decide) (hpl : ((backTo pos (starEach [] X.env)).any (·.1) || (backToKw pos (keywordEach kws X.env)).any (·.1.isNone)) = false := by rfl) :
    PE X (.Call (.Name x p) [] kws pos) (tD c E (eCk 0 n ix F (Pu pNil) f2)) := by
  obtain ⟨f, fd, Fo, hm, hk, hb⟩ := hD.ex
  refine PE.imp (pe_ck0G Fo hr hg hm hk hb hx hkw hall hks hdb hpl) fun σ H Q h => ?_
  rw [← hK, ← hM]
  exact v_ck (t := tNil) (fun σ H Q ⟨Hs, G, δ, S, q⟩ => q Hs H (Same.refl _) [] S .nil) h
end
end DL

/-! DL12: methods of texts, isinstance of two classes, [x] * n -/
namespace DL
open PySem L2
section
variable {X : Cx} {c : DC} {E : XK} {o e a b : Expr} {es : List Expr} {pos p : Pos} {α : Type} {fo fe fa fb : En → Re (D × En)} {Hs Hs' G H H' : Hp} {σ : St} {δ : En}
/-- a text's method with one value -/
def eM1 {α : Type} (g : Str → D → Option α) (fo fe : En → Re (D × En)) : En → Re (α × En) := fun δ => (fo δ).bd fun p => match p.1 with
  | .str a => (fe p.2).bd fun q => (opt (g a q.1)).bd fun d => .ok (d, q.2)
  | _ => .bad
def pM1 {α : Type} (g : Str → D → Option α) (fo fe : En → Re D) : En → Re α := fun δ => (fo δ).bd fun p => match p with
  | .str a => (fe δ).bd fun q => opt (g a q)
  | _ => .bad
theorem eM1_pu {α : Type} (g : Str → D → Option α) (fo fe : En → Re D) : eM1 g (Pu fo) (Pu fe) = Pu (pM1 g fo fe) := by
  funext δ; unfold eM1 Pu pM1
  cases fo δ with
  | ok x =>
    cases x with
    | str a =>
      simp only [Re.bd_ok]
      cases fe δ with
      | ok y =>
        simp only [Re.bd_ok]
      | _ => rfl
    | _ => rfl
  | _ => rfl
def VM1 (c : DC) (r : V → List V → Hp → VK → Prop) (g : Str → D → Option D) : Prop := ∀ (Hs H : Hp) (a : Str) (y : V) (dy d : D), Same Hs H → Rp c.K Hs y dy → g a dy = some d → ∃ v, (∀ Hs', Rp c.K Hs' v d) ∧ ∀ Q : VK, Q v H → r (.str a) [y] H Q
theorem v_m1 {r : V → List V → Hp → VK → Prop} {g : Str → D → Option D} (hr : VM1 c r g) {Q : VK} (h : tD c E (eM1 g fo fe) σ H Q) : tM1 r (tD c E fo) (tD c E fe) σ H Q := by
  obtain ⟨Hs, G, δ, S, q⟩ := h
  refine ⟨Hs, G, δ, S, PoG.seq q fun d δ1 Hs1 H1 s1 q1 x S1 r1 => ?_⟩
  cases r1 with
  | str a =>
    refine ⟨⟨a, rfl⟩, Hs1, G, δ1, S1, PoG.seq q1 fun dy δ2 Hs2 H2 s2 q2 y S2 r2 => ?_⟩
    obtain ⟨d, hd, q3⟩ := PoG.last (k := fun d => (d, δ2)) q2
    obtain ⟨v, rv, w⟩ := hr Hs2 H2 a y dy d S2.sh r2 hd
    exact w Q (q3 Hs2 H2 (Same.refl _) v S2 (rv _))
  | _ => exact False.elim q1
def strsOf : List D → Option (List Str)
  | [] => some []
  | .str i :: r => (strsOf r).map (i :: ·)
  | _ => none
theorem strsOf_map : ∀ ns : List Str, strsOf (ns.map PyData.str) = some ns
  | [] => rfl
  | n :: ns => by show (strsOf (ns.map PyData.str)).map (n :: ·) = _; rw [strsOf_map ns]; rfl
theorem rpa_strsOf {K : PySem.W.Frag} {H : Hp} : ∀ {ds : List D} {vs : List V} {ns : List Str}, RpAll K H vs ds → strsOf ds = some ns → vs = ns.map V.str
  | _, _, _, .nil, e => by cases e; rfl
  | _, _, ns, .cons h1 h2, e => by
    cases h1 with
    | str x =>
      obtain ⟨r, e1, e2⟩ := Option.map_eq_some_iff.mp (show (strsOf _).map (x :: ·) = some ns from e)
      subst e2
      rw [rpa_strsOf h2 e1]; rfl
    | _ => cases e
def gJoin (a : Str) : D → Option D
  | .list ds => match strsOf ds with
    | some ys => if (ys.map (·.length)).sum + ys.length * a.length ≤ 16777216 then some (.str (Txt.join a ys)) else none
    | none => none
  | _ => none
theorem e_join {apos : Pos} (ho : PE X o (tD c E fo)) (he : PE X e (tD c E fe)) (hK : c.K = X.K := by rfl) (hs : starEach [e] X.env = [(false, eval e X.env)] := by rfl) (hbase : attributeBase o "join" X.env (eval o X.env) = eval o X.env := by rfl) (hline : (apos.endLine == pos.line) = true := by rfl) :
    PE X (.Call (.Attribute o "join" apos) [e] [] pos) (tD c E (eM1 gJoin fo fe)) := PE.imp (pe_join ho he hs hbase hline) fun σ H Q h => v_m1 (fun Hs H a y dy d s r h => by
  unfold gJoin at h
  split at h
  · cases r with
    | @lst p xs ds h1 r1 =>
      split at h
      · rename_i ys hy
        split at h
        · rename_i hl
          cases h
          have e := rpa_strsOf r1 hy
          subst e
          exact ⟨_, fun _ => .str _, fun Q q => ⟨a, p, ys, rfl, rfl, .inl (by rw [← hK]; exact same_l s h1), hl, q⟩⟩
        · cases h
      · cases h
  · cases h) h
/-- .. that hands back a new list of texts -/
def VM1F (r : V → List V → Hp → VK → Prop) (g : Str → D → Option (List D)) : Prop := ∀ (K : PySem.W.Frag) (Hs H : Hp) (a : Str) (y : V) (dy : D) (d : List D), Rp K Hs y dy → g a dy = some d → ∃ ys : List Str, d = ys.map .str ∧ ∀ Q : VK, rNewStrs ys H Q → r (.str a) [y] H Q
theorem strs_rp {K : PySem.W.Frag} {H : Hp} : ∀ (ns : List Str), RpAll K H (ns.map V.str) (ns.map .str)
  | [] => .nil
  | n :: ns => .cons (.str n) (strs_rp ns)
theorem v_m1F {r : V → List V → Hp → VK → Prop} {g : Str → D → Option (List D)} (hr : VM1F r g) {Q : VK} (h : tF c E (eM1 g fo fe) σ H Q) : tM1 r (tD c E fo) (tD c E fe) σ H Q := by
  obtain ⟨Hs, G, δ, S, q⟩ := h
  refine ⟨Hs, G, δ, S, PoG.seq q fun d δ1 Hs1 H1 s1 q1 x S1 r1 => ?_⟩
  cases r1 with
  | str a =>
    refine ⟨⟨a, rfl⟩, Hs1, G, δ1, S1, PoG.seq q1 fun dy δ2 Hs2 H2 s2 q2 y S2 r2 => ?_⟩
    obtain ⟨d, hd, q3⟩ := PoG.last (k := fun d => (d, δ2)) q2
    obtain ⟨ys, rfl, w⟩ := hr c.K Hs2 H2 a y dy d r2 hd
    refine w Q fun p hp => ?_
    exact q3 Hs2 _ (Same.refl _) p _ (S2.loose hp) (S2.loose_of hp) upd_same (strs_rp ys)
  | _ => exact False.elim q1
def gSplit (a : Str) : D → Option (List D)
  | .str b => if (b.length == 0) = false ∧ a.length + 2 ≤ 1000000 then some ((Txt.split a b).map .str) else none
  | _ => none
theorem e_split {apos : Pos} (ho : PE X o (tD c E fo)) (he : PE X e (tD c E fe)) (hs : starEach [e] X.env = [(false, eval e X.env)] := by rfl) (hbase : attributeBase o "split" X.env (eval o X.env) = eval o X.env := by rfl) (hline : (apos.endLine == pos.line) = true := by rfl) :
    PE X (.Call (.Attribute o "split" apos) [e] [] pos) (tF c E (eM1 gSplit fo fe)) := PE.imp (pe_split ho he hs hbase hline) fun σ H Q h => v_m1F (fun K Hs H a y dy d r h => by
  unfold gSplit at h
  split at h
  · cases r with
    | str b =>
      split at h
      · rename_i hl
        cases h
        exact ⟨_, rfl, fun Q q => ⟨a, _, rfl, rfl, hl.1, Nat.le_trans hl.2 (by decide), q⟩⟩
      · cases h
  · cases h) h
theorem uM1 {g : Str → D → Option D} {fo fe : En → Re D} (h : PE X e (tD c E (eM1 g (Pu fo) (Pu fe)))) : PE X e (tD c E (Pu (pM1 g fo fe))) := eM1_pu g fo fe ▸ h
theorem uM1F {g : Str → D → Option (List D)} {fo fe : En → Re D} (h : PE X e (tF c E (eM1 g (Pu fo) (Pu fe)))) : PE X e (tF c E (Pu (pM1 g fo fe))) := eM1_pu g fo fe ▸ h
/-! isinstance(x, (A, B)) -/
def eIsi2 (T U : String) (fa : En → Re (D × En)) : En → Re (D × En) := fun δ => (fa δ).bd fun p => .ok (.bool (isiD p.1 T || isiD p.1 U), p.2)
def pIsi2 (T U : String) (fa : En → Re D) : En → Re D := fun δ => (fa δ).bd fun p => .ok (.bool (isiD p T || isiD p U))
theorem eIsi2_pu (T U : String) (fa : En → Re D) : eIsi2 T U (Pu fa) = Pu (pIsi2 T U fa) := by
  funext δ; unfold eIsi2 Pu pIsi2; cases fa δ <;> rfl
theorem uIsi2 {T U : String} {fa : En → Re D} (h : PE X e (tD c E (eIsi2 T U (Pu fa)))) : PE X e (tD c E (Pu (pIsi2 T U fa))) := eIsi2_pu T U fa ▸ h
theorem kit_two {K : PySem.W.Frag} {T U : String} (h1 : kitAll T = true) (h2 : kitAll U = true) (d : D) : PySem.W.kitAny K (.type (tyN d)) [.type T, .type U] = some (isiD d T || isiD d U) := by
  refine kitAny_cons (kit_ty (kit_all h1 d)) (fun z => ?_) (fun z => by rw [z]; rfl)
  rw [z, Bool.false_or]
  refine kitAny_cons (kit_ty (kit_all h2 d)) (fun z => ?_) (fun z => z)
  rw [z]; rfl
theorem de_isi2 {T U : String} {x y z : Str} {p1 p2 : Pos} {k : Nat} {tpos : Pos} (ha : PE X a (tD c E fa)) (hT : kitAll T = true) (hU : kitAll U = true) (hK : c.K = X.K) (hg : Gl X x) (hm : X.mg x = none) (hv : bootBuiltins x = some (.builtin "isinstance")) (hg2 : Gl X y) (hm2 : X.mg y = none) (hv2 : bootBuiltins y = some (.type T))
    (hg3 : Gl X z) (hm3 : X.mg z = none) (hv3 : bootBuiltins z = some (.type U))
    (hn : x ≠ "__name__" := by decide) (hdb : (x == ("__debug__" : Str)) = false := by decide) (hn2 : y ≠ "__name__" := by decide) (hdb2 : (y == ("__debug__" : Str)) = false := by decide) (hn3 : z ≠ "__name__" := by decide) (hdb3 : (z == ("__debug__" : Str)) = false := by decide)
    (hs : starEach [a, .Tuple [.Name y p1, .Name z p2] k tpos] X.env = (false, eval a X.env) :: starEach [.Tuple [.Name y p1, .Name z p2] k tpos] X.env := by rfl) (hs2 : starEach [.Tuple [.Name y p1, .Name z p2] k tpos] X.env = (false, eval (.Tuple [.Name y p1, .Name z p2] k tpos) X.env) :: starEach [] X.env := by rfl)
    (hs3 : starEach [.Name y p1, .Name z p2] X.env = (false, eval (.Name y p1) X.env) :: starEach [.Name z p2] X.env := by rfl) (hs4 : starEach [.Name z p2] X.env = (false, eval (.Name z p2) X.env) :: starEach [] X.env := by rfl)
    (hpl : (backTo pos (starEach [.Tuple [.Name y p1, .Name z p2] k tpos] X.env)).any (·.1) = false := by rfl) :
    PE X (.Call (.Name x p) [a, .Tuple [.Name y p1, .Name z p2] k tpos] [] pos) (tD c E (eIsi2 T U fa)) :=
  PE.imp (pe_callB call_isiT hg hm hv (pa_cons ha (pa_cons (pe_tup (pa_cons (pe_bltn (v := .ty T) hg2 hm2 hv2 rfl hn2 hdb2) (pa_cons (pe_bltn (v := .ty U) hg3 hm3 hv3 rfl hn3 hdb3) pa_nil hs4) hs3)) pa_nil hs2) hs) hn hdb hs hpl) fun σ H Q ⟨Hs, G, δ, S, q⟩ =>
  ⟨Hs, G, δ, S, PoG.seq q fun d δ1 Hs1 H1 s1 q1 v S1 r1 => by
    refine ⟨(show 2 ≤ sizeLine by decide), fun t ht => ⟨v, t, [.ty T, .ty U], .type (tyN d), [.type T, .type U], isiD d T || isiD d U, rfl, upd_same, .cons (.ty T) (.cons (.ty U) .nil), ?_, kit_two hT hU d, ?_⟩⟩
    · rw [← hK]; exact same_tyx (S1.sh.trans (same_new ht)) r1
    · exact q1 Hs1 _ (Same.refl _) _ (S1.loose ht) (.bl _)⟩
theorem uCk {F : List D → Re D} {m n : Nat} {ix : List Nat} {f1 f2 : En → Re (List D)} (h : PE X e (tD c E (eCk m n ix F (Pu f1) (Pu f2)))) : PE X e (tD c E (Pu (pCk m n ix F f1 f2))) := eCk_pu F f1 f2 ▸ h
/-- a promise that is never asked -/
theorem fn_bad {P : Program} {w : World} {K : PySem.W.Frag} {mg : Str → Option Value} {base : Heap} {CX : CXT} {k : Nat} {f : Addr} {fd : FuncData} {ps : List Str} : FnOkG P w K mg base CX k f fd ps (spP K mg fun _ => .bad) :=
  ⟨fun vs H Q E ⟨_, _, _, _, h⟩ => h.elim, fun A outer s H args us vs Q E hr he hb hv ⟨_, _, _, _, h⟩ => h.elim⟩
variable {kws : List Keyword} {f1 f2 : En → Re (List D × En)} {k m n : Nat} {x : Str} {ps ks : List Str} {ix : List Nat}
theorem v_ckF {F : List D → Re (List D)} {t : TA} (ht : ∀ σ H Q, tA c E f1 σ H Q → t σ H Q) {Q : VK} (h : tF c E (eCk m n ix F f1 f2) σ H Q) : tCallK (spPF c.K c.mg F) (gK m n ix) E t (tA c E f2) σ H Q := by
  obtain ⟨Hs, G, δ, S, q⟩ := h
  refine ht σ H _ ⟨Hs, G, δ, S, PoG.seq q fun ds δ1 Hs1 H1 s1 q1 vs S1 r1 => ⟨Hs1, G, δ1, S1, PoG.seq q1 fun es δ2 Hs2 H2 s2 q2 ws S2 r2 => ?_⟩⟩
  simp only at q2
  split at q2
  · rename_i z
    have e : gK m n ix vs ws = pick ix (vs ++ ws) := if_pos ⟨(dpa_len r1).trans z.1, (dpa_len r2).trans z.2⟩
    rw [e]
    exact v_crF (F := F) S2 (rpa_pick (dpa_append (dpa_mono s2 r1) r2) ix) q2
  · exact q2.elim
theorem de_ckF {F : List D → Re (List D)} (hD : DnK X.prog X.w X.K X.mg X.base k x ps ks m n ix (spPF X.K X.mg F)) (hr : RoomG k X.A) (hg : Gl X x) (hx : Passes (L2.CX X.prog X.w) X E) (hK : c.K = X.K) (hM : c.mg = X.mg)
    (ha : PA X (e :: es) (tA c E f1)) (hkw : PK X kws (tA c E f2)) (hall : (backToKw pos (keywordEach kws X.env)).all (·.1.isSome) = true := by rfl) (hks : (backToKw pos (keywordEach kws X.env)).filterMap (·.1) = ks := by rfl)
    (hdb : (x == ("__debug__" : Str)) = false := by decide) (he : starEach (e :: es) X.env = (false, eval e X.env) :: starEach es X.env := by rfl)
    (hpl : ((backTo pos (starEach (e :: es) X.env)).any (·.1) || (backToKw pos (keywordEach kws X.env)).any (·.1.isNone)) = false := by rfl) :
    PE X (.Call (.Name x p) (e :: es) kws pos) (tF c E (eCk m n ix F f1 f2)) := by
  obtain ⟨f, fd, Fo, hm, hk, hb⟩ := hD.ex
  refine PE.imp (pe_callKG Fo hr hg hm hk hb hx ha hkw hall hks hdb he hpl) fun σ H Q h => ?_
  rw [← hK, ← hM]
  exact v_ckF (fun _ _ _ z => z) h
theorem de_ck0F {F : List D → Re (List D)} (hD : DnK X.prog X.w X.K X.mg X.base k x ps ks 0 n ix (spPF X.K X.mg F)) (hr : RoomG k X.A) (hg : Gl X x) (hx : Passes (L2.CX X.prog X.w) X E) (hK : c.K = X.K) (hM : c.mg = X.mg)
    (hkw : PK X kws (tA c E f2)) (hall : (backToKw pos (keywordEach kws X.env)).all (·.1.isSome) = true := by rfl) (hks : (backToKw pos (keywordEach kws X.env)).filterMap (·.1) = ks := by rfl)
    (hdb : (x == ("__debug__" : Str)) = false := by decide) (hpl : ((backTo pos (starEach [] X.env)).any (·.1) || (backToKw pos (keywordEach kws X.env)).any (·.1.isNone)) = false := by rfl) :
    PE X (.Call (.Name x p) [] kws pos) (tF c E (eCk 0 n ix F (Pu pNil) f2)) := by
  obtain ⟨f, fd, Fo, hm, hk, hb⟩ := hD.ex
  refine PE.imp (pe_ck0G Fo hr hg hm hk hb hx hkw hall hks hdb hpl) fun σ H Q h => ?_
  rw [← hK, ← hM]
  exact v_ckF (t := tNil) (fun σ H Q ⟨Hs, G, δ, S, q⟩ => q Hs H (Same.refl _) [] S .nil) h
theorem uCkF {F : List D → Re (List D)} {m n : Nat} {ix : List Nat} {f1 f2 : En → Re (List D)} (h : PE X e (tF c E (eCk m n ix F (Pu f1) (Pu f2)))) : PE X e (tF c E (Pu (pCk m n ix F f1 f2))) := eCk_pu F f1 f2 ▸ h
end
end DL

/-! DL13: new lists side by side; [x] * n -/
namespace DL
open PySem L2
section
variable {X : Cx} {c : DC} {E : XK} {e a b : Expr} {pos : Pos} {fa fb : En → Re (D × En)} {ga gb : En → Re (List D × En)} {Hs Hs' G G' H H' : Hp} {σ σ' : St} {δ δ' : En} {p : Addr} {o : HO}
/-- a list that nobody owns yet is hidden for a while -/
theorem Sat.hideL (S : Sat c Hs G H σ δ) (L : Loose c Hs G H σ δ p) (h : H p = some o) : Sat c Hs (upd G p o) H σ δ :=
  S.keep ⟨S.bs, S.sh, fun b u e => by
      by_cases hb : b = p
      · subst hb; rw [upd_same] at e; rw [h]; exact e
      · rw [upd_ne hb] at e; exact S.gm b u e, S.nw, S.hin, fun b u u' e e' => by
      by_cases hb : b = p
      · subst hb; rw [L.s] at e'; cases e'
      · rw [upd_ne hb] at e; exact S.gs b u u' e e'⟩ (Same.refl _) (fun j s b u _ _ e => e) (fun j s b hj f => (foot_own (S.sl j s hj) f).1.1) fun j s b hj f => by
    have hb : b ≠ p := by rintro rfl; exact L.f j s hj f
    rw [upd_ne hb]; exact (foot_own (S.sl j s hj) f).1.2.1
theorem Sat.unhide (S : Sat c Hs (upd G p o) H σ δ) (hg : G p = none) (hi : c.Hin p = none) : Sat c Hs G H σ δ ∧ Loose c Hs G H σ δ p ∧ H p = some o := by
  have hp : H p = some o := S.gm p o upd_same
  have hs : Hs p = none := by
    cases q : Hs p with
    | none => rfl
    | some u =>
      obtain ⟨z, e⟩ := S.gs p o u upd_same q
      rw [hi] at e; cases e
  have gg : Same G (upd G p o) := same_new hg
  have nf : ∀ (j : Nat) (s : Sl) (b : Addr), δ[j]? = some s → Foot H σ[j]? s b → b ≠ p := fun j s b hj f e => by
    subst e
    have := (foot_own (S.sl j s hj) f).1.2.1
    rw [upd_same] at this; cases this
  refine ⟨S.keep ⟨S.bs, S.sh, gg.trans S.gm, S.nw, S.hin, fun b u u' e e' => S.gs b u u' (gg b u e) e'⟩ (Same.refl _) (fun j s b u _ _ e => e) (fun j s b hj f => (foot_own (S.sl j s hj) f).1.1) (fun j s b hj f => ?_), ⟨hs, hg, hi, fun j s hj f => nf j s p hj f rfl⟩, hp⟩
  have := (foot_own (S.sl j s hj) f).1.2.1
  rw [upd_ne (nf j s b hj f)] at this; exact this
theorem Frm.unhide (S : Frm c Hs G' H) (gg : Same G G') : Frm c Hs G H := ⟨S.bs, S.sh, gg.trans S.gm, S.nw, S.hin, fun b u u' e e' => S.gs b u u' (gg b u e) e'⟩
theorem PoG.seqG {α β : Type} {W : β → En → Hp → Hp → Prop} {W' : α → En → Hp → Hp → Prop} {r : Re (α × En)} {k : α × En → Re (β × En)} (gg : Same G G') (h : PoG c E Hs G W (r.bd k))
    (w : ∀ a δ' Hs' H', Same Hs Hs' → PoG c E Hs' G W (k (a, δ')) → W' a δ' Hs' H') : PoG c E Hs G' W' r := by
  cases r with
  | bad => exact h
  | er e => exact fun Hs' H' s F => h Hs' H' s (F.unhide gg)
  | ok x => exact fun Hs' H' s => w x.1 x.2 Hs' H' s (PoG.mono s h)
theorem PoS.seqG {α : Type} {De : Ends} {W' : α → En → Hp → Hp → Prop} {r : Re (α × En)} {k : α × En → Re Fl} (gg : Same G G') (h : PoS c E Hs G De (r.bd k))
    (w : ∀ a δ' Hs' H', Same Hs Hs' → PoS c E Hs' G De (k (a, δ')) → W' a δ' Hs' H') : PoG c E Hs G' W' r := by
  cases r with
  | bad => exact h
  | er e => exact fun Hs' H' s F => h Hs' H' s (F.unhide gg)
  | ok x => exact fun Hs' H' s => w x.1 x.2 Hs' H' s (PoS.mono s h)
theorem Loose.set {i : Nat} {ds : List D} {q : Addr} (L : Loose c Hs G H σ δ p) (hl : σ.length = δ.length) (ne : p ≠ q) : Loose c Hs G H (σ.set i (some (.ref q))) (δ.set i (.ow ds)) p := ⟨L.s, L.g, L.i, fun j s hj f => by
  by_cases e : i = j
  · subst e
    have hlt : i < δ.length := by
      have := (List.getElem?_eq_some_iff.mp hj).1
      simpa using this
    rw [List.getElem?_set_self hlt] at hj
    cases hj
    rw [List.getElem?_set_self (by rw [hl]; exact hlt)] at f
    exact ne f
  · rw [List.getElem?_set_ne e] at hj f
    exact L.f j s hj f⟩
theorem Loose.set' {i : Nat} {d : D} {v : V} (L : Loose c Hs G H σ δ p) : Loose c Hs G H (σ.set i (some v)) (δ.set i (.sh d)) p := ⟨L.s, L.g, L.i, fun j s hj f => by
  by_cases e : i = j
  · subst e
    have hlt : i < δ.length := by
      have := (List.getElem?_eq_some_iff.mp hj).1
      simpa using this
    rw [List.getElem?_set_self hlt] at hj
    cases hj
    exact foot_sh f
  · rw [List.getElem?_set_ne e] at hj f
    exact L.f j s hj f⟩
/-- x, y = a, b with new lists (local names) -/
def paFF (i j : Nat) (ga gb : En → Re (List D × En)) : En → Re Fl := fun δ => (ga δ).bd fun p => (gb p.2).bd fun q => .ok (.nx ((q.2.set i (.ow p.1)).set j (.ow q.1)))
theorem ds_parFF {i j : Nat} {x y : Str} {px py pt : Pos} {kt k2 : Nat} {pt2 : Pos} (hm : i ∉ c.mi) (hm2 : j ∉ c.mi) (hc : X.calm = true) (hN : X.N.Nodup) (hi : X.N[i]? = some x) (hj : X.N[j]? = some y) (hij : i ≠ j)
    (hx : X.env.scope.names.lookup x = some .local) (hy : X.env.scope.names.lookup y = some .local) (ha : PE X a (tF c E ga)) (hb : PE X b (tF c E gb))
    (hw : swappedStores [.Tuple [.Name x px, .Name y py] kt pt] (.Tuple [a, b] k2 pt2) X.env = pure (some [x, y]))
    (hs1 : starEach [a, b] X.env = (false, eval a X.env) :: starEach [b] X.env := by rfl) (hs2 : starEach [b] X.env = (false, eval b X.env) :: starEach [] X.env := by rfl)
    (hs : swapsWithSole [.Tuple [.Name x px, .Name y py] kt pt] (.Tuple [a, b] k2 pt2) pos.line X.env = pure false := by rfl) :
    PS X (.Assign [.Tuple [.Name x px, .Name y py] kt pt] (.Tuple [a, b] k2 pt2) pos) (tS c E (paFF i j ga gb)) := PS.imp (ps_par hc hN hi hj hij hx hy (pa_cons ha (pa_cons hb pa_nil hs2) hs1) hw hs) fun σ H De ⟨Hs, G, δ, S, q⟩ =>
  ⟨Hs, G, δ, S, PoS.seq q fun ds δ1 Hs1 H1 s1 q1 p xs S1 L1 h1 r1 => by
    have gg : Same G (upd G p (.lst xs)) := same_new L1.g
    refine ⟨Hs1, upd G p (.lst xs), δ1, S1.hideL L1 h1, PoS.seqG gg q1 fun es δ2 Hs2 H2 s2 q2 p2 ys S2 L2 h2 r2 => ?_⟩
    obtain ⟨S3, L3, hp⟩ := S2.unhide L1.g L1.i
    have ne : p2 ≠ p := fun e => by
      have := L2.g
      rw [e, upd_same] at this; cases this
    have L4 : Loose c Hs2 G H2 σ δ2 p2 := ⟨L2.s, by have := L2.g; rw [upd_ne ne] at this; exact this, L2.i, L2.f⟩
    exact ⟨.ref p, .ref p2, rfl, q2 _ Hs2 H2 (Same.refl _) ((S3.setOw hm L3 hp (dpa_mono s2 r1)).setOw hm2 (L4.set S3.ln.symm ne) h2 r2)⟩⟩
/-- [..] * n -/
def gRep (l : List D) : D → Option (List D)
  | .int k => if (-(2 ^ 63) ≤ k ∧ k < 2 ^ 63) ∧ l.length * k.toNat ≤ 1000000 then some (List.replicate k.toNat l).flatten else none
  | _ => none
theorem gRep_inv {l r : List D} {d : D} (h : gRep l d = some r) : ∃ k : Int, d = .int k ∧ (-(2 ^ 63) ≤ k ∧ k < 2 ^ 63) ∧ l.length * k.toNat ≤ 1000000 ∧ r = (List.replicate k.toNat l).flatten := by
  unfold gRep at h
  split at h
  · split at h
    · rename_i k hk; cases h; exact ⟨k, rfl, hk.1, hk.2, rfl⟩
    · cases h
  · cases h
def eRep (ga : En → Re (List D × En)) (fb : En → Re (D × En)) : En → Re (List D × En) := fun δ => (ga δ).bd fun p => (fb p.2).bd fun q => (opt (gRep p.1 q.1)).bd fun d => .ok (d, q.2)
def pRep (ga : En → Re (List D)) (fb : En → Re D) : En → Re (List D) := fun δ => (ga δ).bd fun p => (fb δ).bd fun q => opt (gRep p q)
theorem eRep_pu (ga : En → Re (List D)) (fb : En → Re D) : eRep (Pu ga) (Pu fb) = Pu (pRep ga fb) := by
  funext δ; unfold eRep Pu pRep
  cases ga δ with
  | ok x =>
    simp only [Re.bd_ok]
    cases fb δ with
    | ok y => simp only [Re.bd_ok]
    | _ => rfl
  | _ => rfl
theorem rpa_rep {K : PySem.W.Frag} {xs : List V} {ds : List D} (r : RpAll K Hs xs ds) : ∀ k : Nat, RpAll K Hs (List.replicate k xs).flatten (List.replicate k ds).flatten
  | 0 => .nil
  | k + 1 => by
    rw [List.replicate_succ, List.replicate_succ, List.flatten_cons, List.flatten_cons]
    exact dpa_append r (rpa_rep r k)
theorem de_rep (ha : PE X a (tF c E ga)) (hb : PE X b (tD c E fb)) : PE X (.BinOp a .Mult b pos) (tF c E (eRep ga fb)) := PE.imp (pe_op op_rep ha hb) fun σ H Q ⟨Hs, G, δ, S, q⟩ =>
  ⟨Hs, G, δ, S, PoG.seq q fun ds δ1 Hs1 H1 s1 q1 p xs S1 L1 h1 r1 => by
    have gg : Same G (upd G p (.lst xs)) := same_new L1.g
    refine ⟨Hs1, upd G p (.lst xs), δ1, S1.hideL L1 h1, PoG.seqG gg q1 fun dk δ2 Hs2 H2 s2 q2 y S2 r2 => ?_⟩
    obtain ⟨S3, L3, hp⟩ := S2.unhide L1.g L1.i
    obtain ⟨d, hd, q3⟩ := PoG.last (k := fun d => (d, δ2)) q2
    obtain ⟨k, rfl, hk1, hk2, rfl⟩ := gRep_inv hd
    cases r2
    have hz : xs.length * k.toNat ≤ sizeLine := by rw [dpa_len r1]; exact Nat.le_trans hk2 (by decide)
    refine ⟨p, k, xs, rfl, rfl, hp, hk1.1, hk1.2, hz, fun p2 hp2 => ?_⟩
    exact q3 Hs2 _ (Same.refl _) p2 _ (S3.loose hp2) (S3.loose_of hp2) upd_same (rpa_rep (dpa_mono s2 r1) k.toNat)⟩
theorem uRep {ga : En → Re (List D)} {fb : En → Re D} (h : PE X e (tF c E (eRep (Pu ga) (Pu fb)))) : PE X e (tF c E (Pu (pRep ga fb))) := eRep_pu ga fb ▸ h
/-! text * number -/
theorem op_mulS : OpR X (binaryOp .Mult) (fun x y H Q => ∃ (a : Str) (n : Int), x = .str a ∧ y = .int n ∧ MulOk a n ∧ Q (.str (Txt.mul a n)) H) := by
  intro pins s σ H x y v u Q I rx ry h
  obtain ⟨a, n, rfl, rfl, ok, q⟩ := h
  obtain ⟨t, rfl⟩ := rx
  obtain ⟨t', rfl⟩ := ry
  exact SB.mul ok fun t' tk => ⟨.str _, H, I.tok _, ⟨_, rfl⟩, q⟩
def gMulA : D → D → Option D
  | .int i, .int j => gMul (.int i) (.int j)
  | .str a, .int n => if a.length ≤ 1000 ∧ n ≤ 1000 ∧ -1000 ≤ n then some (.str (Txt.mul a n)) else none
  | _, _ => none
theorem vMulA : VOp2 c (fun x y H Q => rI CMulX (fun i j => .int (i * j)) x y H Q ∨ ∃ (a : Str) (n : Int), x = .str a ∧ y = .int n ∧ MulOk a n ∧ Q (.str (Txt.mul a n)) H) gMulA := VOp2.of fun Hs H x y dx dy d s rx ry e => by
  cases rx with
  | int i => cases ry with
    | int j =>
      have e' : gMul (.int i) (.int j) = some d := e
      simp only [gMul] at e'
      split at e'
      · rename_i h; cases e'; exact ⟨_, .int _, fun Q q => .inl ⟨i, j, rfl, rfl, mulx_of h, q⟩⟩
      · cases e'
    | _ => cases e
  | str a => cases ry with
    | int n =>
      simp only [gMulA] at e
      split at e
      · rename_i h; cases e; exact ⟨_, .str _, fun Q q => .inr ⟨a, n, rfl, rfl, PyProof.Rows.mulOk_of 1000 1000 h.1 h.2.1 (by omega) (by decide) (by decide), q⟩⟩
      · cases e
    | _ => cases e
  | _ => cases e
theorem e_mulA (ha : PE X a (tD c E fa)) (hb : PE X b (tD c E fb)) : PE X (.BinOp a .Mult b pos) (tD c E (eOp gMulA fa fb)) := de_bin (OpR.or op_mulX op_mulS) vMulA ha hb
end
end DL

/-! DL14: repr of data -/
namespace DL
open PySem L2
def rpOk (d : D) : Bool := d.showable && !d.hasDict && decide (d.depth ≤ 64) && decide (d.shown.length ≤ 16000000)
def gRepr : List D → Option D
  | [d] => if rpOk d then some (.str d.shown) else none
  | _ => none
theorem rpOk_spec {d : D} (h : rpOk d = true) : d.showable = true ∧ d.hasDict = false ∧ d.depth ≤ 64 ∧ d.shown.length ≤ 16000000 := by
  unfold rpOk at h
  simp only [Bool.and_eq_true, decide_eq_true_eq, Bool.not_eq_true'] at h
  exact ⟨h.1.1.1, h.1.1.2, h.1.2, h.2⟩
section
variable {X : Cx} {c : DC} {E : XK} {e : Expr} {p pos : Pos} {fr : En → Re (List D × En)} {k : Nat}
theorem call_reprD (gd : X.A.guards = some []) (hu : X.A.units + 66 < cLine) : CallR X (.builtin "repr") (fun xs H Q => ∃ v d, xs = [v] ∧ Rp X.K H v d ∧ rpOk d = true ∧ Q (.str d.shown) H) := by
  intro pins s σ H xs us Q I r h
  obtain ⟨v, d, rfl, rd, ok, q⟩ := h
  obtain ⟨o1, o2, o3, o4⟩ := rpOk_spec ok
  obtain ⟨u, rfl, ru⟩ := vals1 r
  have hsz : d.shown.length ≤ sizeLine := Nat.le_trans o4 (by decide)
  cases rd with
  | non =>
    cases ru
    exact PySem.P.repr_of_none ⟨.str _, H, I.tok _, ⟨_, rfl⟩, q⟩
  | bl b =>
    cases ru
    refine PySem.P.repr_of_bool ⟨.str _, H, I.tok _, ⟨_, rfl⟩, ?_⟩
    cases b <;> exact q
  | int i =>
    obtain ⟨t, rfl⟩ := ru
    exact PySem.P.repr_of_int (of_decide_eq_true o1) ⟨.str _, H, I.tok _, ⟨_, rfl⟩, q⟩
  | str x =>
    obtain ⟨t, rfl⟩ := ru
    exact PySem.P.repr_of_str (hsz := hsz) ⟨.str _, H, I.tok _, ⟨_, rfl⟩, q⟩
  | @lst a ys ds h1 h2 =>
    cases ru
    obtain ⟨as, rr⟩ := Dp.reads I _ _ _ (Rp.dp (.lst h1 h2) o2) rfl
    exact repr_of_reads' rr o1 (fun z => by rw [o2] at z; cases z) gd (by omega) (fun b o z => z) (fun h' u tk kp => ⟨.str _, H, I.kept kp, ⟨_, rfl⟩, q⟩) hsz
  | @tup a ys ds h1 h2 =>
    cases ru
    obtain ⟨as, rr⟩ := Dp.reads I _ _ _ (Rp.dp (.tup h1 h2) o2) rfl
    exact repr_of_reads' rr o1 (fun z => by rw [o2] at z; cases z) gd (by omega) (fun b o z => z) (fun h' u tk kp => ⟨.str _, H, I.kept kp, ⟨_, rfl⟩, q⟩) hsz
  | @dic a ns ys ds h1 h2 h3 => simp only [dicD, PyData.hasDict] at o2; cases o2
theorem vRepr : VCall c (fun xs H Q => ∃ v d, xs = [v] ∧ Rp c.K H v d ∧ rpOk d = true ∧ Q (.str d.shown) H) gRepr := VCall.of fun Hs H vs ds d s r e => by
  unfold gRepr at e
  split at e
  · split at e
    · rename_i d0 ok
      cases e
      obtain ⟨v, rfl, rv⟩ := rpa1 r
      exact ⟨_, .str _, fun Q q => ⟨v, d0, rfl, dp_mono s rv, ok, q⟩⟩
    · cases e
  · cases e
theorem e_repr (hr : RoomG k X.A) (hm : X.mg "repr" = none) (ha : PA X [e] (tA c E fr)) (hK : c.K = X.K := by rfl) (hg : Gl X "repr" := by rfl) (he : starEach [e] X.env = (false, eval e X.env) :: starEach [] X.env := by rfl) :
    PE X (.Call (.Name "repr" p) [e] [] pos) (tD c E (eCa gRepr fr)) := de_callB (call_reprD hr.gd (room65 hr)) (hK ▸ vRepr) hg hm (by decide +kernel) ha (he := he)
end
end DL

/-! DL17: methods of texts without values -/
namespace DL
open PySem L2
section
variable {X : Cx} {c : DC} {E : XK} {o e : Expr} {pos : Pos} {fo : En → Re (D × En)}
def gUpper : D → Option D
  | .str a => if a.length ≤ 1000000 then some (.str (Txt.upper a)) else none
  | _ => none
theorem e_upper {apos : Pos} (ho : PE X o (tD c E fo)) (hbase : attributeBase o "upper" X.env (eval o X.env) = eval o X.env := by rfl) (hline : (apos.endLine == pos.line) = true := by rfl) : PE X (.Call (.Attribute o "upper" apos) [] [] pos) (tD c E (eUn gUpper fo)) := PE.imp (pe_upper ho hbase hline) fun σ H Q ⟨Hs, G, δ, S, q⟩ =>
  ⟨Hs, G, δ, S, PoG.seq q fun d δ1 Hs1 H1 s1 q1 v S1 r1 => by
    obtain ⟨d2, hd, q3⟩ := PoG.last (k := fun d => (d, δ1)) q1
    unfold gUpper at hd
    cases r1 with
    | str a =>
      simp only at hd
      split at hd
      · rename_i few
        cases hd
        exact ⟨⟨a, rfl⟩, a, rfl, rfl, Nat.le_trans few (by decide), q3 Hs1 H1 (Same.refl _) _ S1 (.str _)⟩
      · cases hd
    | _ => cases hd⟩
/-- x[::-1] of a list: a new one -/
def eUnF (g : D → Option (List D)) (fa : En → Re (D × En)) : En → Re (List D × En) := fun δ => (fa δ).bd fun p => (opt (g p.1)).bd fun d => .ok (d, p.2)
def pUnF (g : D → Option (List D)) (fa : En → Re D) : En → Re (List D) := fun δ => (fa δ).bd fun p => opt (g p)
theorem eUnF_pu (g : D → Option (List D)) (fa : En → Re D) : eUnF g (Pu fa) = Pu (pUnF g fa) := by
  funext δ; unfold eUnF Pu pUnF
  cases fa δ with
  | ok x => simp only [Re.bd_ok]
  | _ => rfl
theorem uUnF {g : D → Option (List D)} {fa : En → Re D} (h : PE X e (tF c E (eUnF g (Pu fa)))) : PE X e (tF c E (Pu (pUnF g fa))) := eUnF_pu g fa ▸ h
def gRevL : D → Option (List D)
  | .list ds => some ds.reverse
  | _ => none
theorem e_revL {k : Nat} {p1 p2 p3 : Pos} (ho : PE X o (tD c E fo)) (hK : c.K = X.K := by rfl) : PE X (.Subscript o (.Slice none none (some (.UnaryOp .USub (.Constant (.int 1) k p1) p2)) p3) pos) (tF c E (eUnF gRevL fo)) := PE.imp (pe_revL ho) fun σ H Q ⟨Hs, G, δ, S, q⟩ =>
  ⟨Hs, G, δ, S, PoG.seq q fun d δ1 Hs1 H1 s1 q1 v S1 r1 => by
    obtain ⟨d2, hd, q3⟩ := PoG.last (k := fun d => (d, δ1)) q1
    unfold gRevL at hd
    cases r1 with
    | @lst l vs ds h1 h2 =>
      cases hd
      exact ⟨l, vs, rfl, by rw [← hK]; exact same_l S1.sh h1, fun p hp => q3 Hs1 _ (Same.refl _) p _ (S1.loose hp) (S1.loose_of hp) upd_same (dpa_reverse h2)⟩
    | _ => cases hd⟩
end
end DL

/-! DL18: owned lists of owned lists: y = [new list for ..], y[i].append(x) -/
namespace DL
open PySem L2
def rowsOf : List D → Option (List (List D))
  | [] => some []
  | .list ds :: r => (rowsOf r).map (ds :: ·)
  | _ => none
theorem rowsOf_map {α : Type} (f : α → List D) : ∀ l : List α, rowsOf (l.map fun a => .list (f a)) = some (l.map f)
  | [] => rfl
  | a :: l => by
    show (rowsOf (l.map fun a => .list (f a))).map (f a :: ·) = _
    rw [rowsOf_map f l]; rfl
theorem rowsOf_app : ∀ {xs ys : List D} {a b : List (List D)}, rowsOf xs = some a → rowsOf ys = some b → rowsOf (xs ++ ys) = some (a ++ b)
  | [], ys, a, b, h, h2 => by cases h; exact h2
  | .list ds :: r, ys, a, b, h, h2 => by
    obtain ⟨m, e1, e2⟩ := Option.map_eq_some_iff.mp (show (rowsOf r).map (ds :: ·) = some a from h)
    subst e2
    show (rowsOf (r ++ ys)).map (ds :: ·) = _
    rw [rowsOf_app e1 h2]; rfl
  | .none :: _, _, _, _, h, _ => by cases h
  | .bool _ :: _, _, _, _, h, _ => by cases h
  | .int _ :: _, _, _, _, h, _ => by cases h
  | .str _ :: _, _, _, _, h, _ => by cases h
  | .tuple _ :: _, _, _, _, h, _ => by cases h
  | .dict _ :: _, _, _, _, h, _ => by cases h
def tF2 (c : DC) (E : XK) (f : En → Re (List (List D) × En)) : TE := fun σ H Q => ∃ Hs G δ, Sat c Hs G H σ δ ∧
  PoG c E Hs G (fun dss δ' Hs' H' => ∀ p rs, Sat c Hs' G H' σ δ' → Loose2 c Hs' G H' σ δ' p rs dss → Q (.ref p) H') (f δ)
section
variable {X : Cx} {c : DC} {E : XK} {e : Expr} {Hs Hs' G H H' : Hp} {σ : St} {δ δ' : En} {i : Nat} {dss : List (List D)}
theorem paired_row {G H : Hp} {rs : List Addr} (h : Paired (RowL c.K Hs H) rs dss) (o : ∀ a ∈ rs, Ow3 c Hs G a) : Paired (Row c Hs G H) rs dss := by
  induction h with
  | nil => exact .nil
  | @cons a ds rs' dss' h1 h2 ih =>
    obtain ⟨xs, e, r⟩ := h1
    exact .cons ⟨xs, e, r, o a List.mem_cons_self⟩ (ih fun b hb => o b (List.mem_cons_of_mem _ hb))
theorem Sat.setOw2 {p : Addr} {rs : List Addr} (S : Sat c Hs G H σ δ) (hi : i ∉ c.mi) (L : Loose2 c Hs G H σ δ p rs dss) : Sat c Hs G H (σ.set i (some (.ref p))) (δ.set i (.ow2 dss)) := by
  have o3 : ∀ a ∈ p :: rs, Ow3 c Hs G a := fun a ha => ⟨(L.l a ha).s, (L.l a ha).g, (L.l a ha).i⟩
  have op := o3 p List.mem_cons_self
  refine S.setAny hi ⟨p, rs, rfl, L.h, ⟨op.1, op.2.1, op.2.2, fun z => absurd z hi⟩, L.nd, paired_row L.r fun a ha => o3 a (List.mem_cons_of_mem _ ha)⟩ fun j t b hj f1 f2 => ?_
  rcases (show b = p ∨ ∃ xs, H p = some (.lst xs) ∧ V.ref b ∈ xs from f1) with rfl | ⟨xs, h1, h2⟩
  · exact (L.l b List.mem_cons_self).f j t hj f2
  · rw [L.h] at h1
    cases h1
    obtain ⟨a, ha, e⟩ := List.mem_map.mp h2
    cases e
    exact (L.l b (List.mem_cons_of_mem _ ha)).f j t hj f2
def owS2 (i : Nat) (f : En → Re (List (List D) × En)) : En → Re Fl := fun δ => (f δ).bd fun p => .ok (.nx (p.2.set i (.ow2 p.1)))
theorem v_ow2 {i : Nat} (hm : i ∉ c.mi) {f : En → Re (List (List D) × En)} {σ : St} {H : Hp} {De : Ends} (h : tS c E (owS2 i f) De σ H) : tAsg (tF2 c E f) (gName i) De σ H := by
  obtain ⟨Hs, G, δ, S, q⟩ := h
  exact ⟨Hs, G, δ, S, PoS.seq q fun dss δ1 Hs1 H1 s1 q1 p rs S1 L => q1 _ Hs1 H1 (Same.refl _) (S1.setOw2 hm L)⟩
/-- a new object that is hidden -/
theorem Sat.hideLoose {p : Addr} {o : HO} (S : Sat c Hs G H σ δ) (L : Loose c Hs G H σ δ p) (h : H p = some o) : Sat c Hs (upd G p o) H σ δ := by
  refine S.keep ⟨S.bs, S.sh, fun b u q => ?_, S.nw, S.hin, fun b u u' q q' => ?_⟩ (Same.refl _) (fun j s b u hj f q => q) (fun j s b hj f => (foot_own (S.sl j s hj) f).1.1) fun j s b hj f => ?_
  · by_cases hb : b = p
    · subst hb; rw [upd_same] at q; rw [h]; exact q
    · rw [upd_ne hb] at q; exact S.gm b u q
  · by_cases hb : b = p
    · subst hb; rw [L.s] at q'; cases q'
    · rw [upd_ne hb] at q; exact S.gs b u u' q q'
  · by_cases hb : b = p
    · subst hb; exact (L.f j s hj f).elim
    · rw [upd_ne hb]; exact (foot_own (S.sl j s hj) f).1.2.1
theorem paired_snoc {α β : Type} {F : α → β → Prop} : ∀ {xs : List α} {ys : List β} {a : α} {b : β}, Paired F xs ys → F a b → Paired F (xs ++ [a]) (ys ++ [b])
  | _, _, _, _, .nil, h => .cons h .nil
  | _, _, _, _, .cons h1 h2, h => .cons h1 (paired_snoc h2 h)
/-- what is hidden while the list is made: the list, its rows -/
structure Mak (c : DC) (G GG Hs : Hp) (p : Addr) (rs : List Addr) (dss : List (List D)) : Prop where
  le : Same G GG
  new : ∀ a ∈ p :: rs, G a = none ∧ c.Hin a = none ∧ ∃ o, GG a = some o
  nd : (p :: rs).Nodup
  h : GG p = some (.lst (rs.map V.ref))
  r : Paired (RowL c.K Hs GG) rs dss
variable {fi : En → Re (List D × En)} {vs ts : List Nat} {g : D → En → Option En} {t : En → Re (Bool × En)} {f : En → Re (List D × En)}
def eRw (f : En → Re (List D × En)) : En → Re (List (List D) × En) := fun δ => (f δ).bd fun p => (opt (rowsOf p.1)).bd fun dss => .ok (dss, p.2)
theorem v_lcR (hn : vs.Nodup) (hm : ∀ v ∈ vs, v ∉ c.mi) (ht : ∀ t ∈ ts, t ∈ vs) {σ : St} {H : Hp} {Q : VK} (h : tF2 c E (eRw (eLc fi vs g t (fz f))) σ H Q) : tLc (tI c E fi) (tG c ts g) (tT c E0 t) (tF c E0 f) vs σ H Q := by
  obtain ⟨Hs, G, δ, S, q⟩ := h
  unfold eRw at q
  have q0 : PoG c E Hs G (fun dss δ' Hs' H' => ∀ p rs, Sat c Hs' G H' σ δ' → Loose2 c Hs' G H' σ δ' p rs dss → Q (.ref p) H') ((fi δ).bd fun p => (if p.1.length ≤ 1000000 ∧ chk p.2 vs = true then nb (lcL vs g t (fz f) p.1 (wp p.2 vs)) fun q => .ok (q.1, rs p.2 q.2 vs) else .bad).bd fun p => (opt (rowsOf p.1)).bd fun dss => .ok (dss, p.2)) := by
    unfold eLc at q
    cases hz : fi δ with
    | bad => rw [hz] at q; exact q
    | er e => rw [hz] at q; exact q
    | ok p => rw [hz] at q; exact q
  refine ⟨Hs, G, δ, S, PoG.seq q0 fun ds δ1 Hs1 H1 s1 q1 J S1 it D hD => ?_⟩
  simp only at q1
  split at q1
  · rename_i hc
    obtain ⟨hlen, hck⟩ := hc
    rcases lcL_ne (vs := vs) (g := g) (t := t) (f := fz f) ds (wp δ1 vs) with e | ⟨r, hr⟩
    · rw [e] at q1; exact q1.elim
    · rw [hr] at q1
      obtain ⟨R, δF⟩ := r
      simp only [nb_ok, Re.bd_ok] at q1
      cases hro : rowsOf R with
      | none => rw [hro] at q1; exact q1.elim
      | some RR =>
      rw [hro] at q1
      simp only [opt_some, Re.bd_ok] at q1
      have hIn : c.Hin D = none := Sat.fresh_in S1.toFrm hD
      have hG : G D = none := Sat.fresh_G S1.toFrm hD
      refine ⟨fun i m H => m = ds.length - i ∧ i ≤ ds.length ∧ ∃ Hs2 δ2 acc dss rows GG r, Same Hs1 Hs2 ∧ Sat c Hs2 GG H (wipe σ vs) δ2 ∧ Mak c G GG Hs2 D rows dss ∧ rowsOf acc = some dss ∧ rows.length ≤ i ∧ lcL vs g t (fz f) (ds.drop i) δ2 = .ok (r, δF) ∧ R = acc ++ r,
        ⟨ds.length, by simp, Nat.zero_le _, Hs1, wp δ1 vs, [], [], [], upd G D (.lst []), R, Same.refl _, (S1.hide hD).wipe hm, ⟨same_new hG, fun a ha => by
          rw [List.mem_singleton] at ha; subst ha; exact ⟨hG, hIn, _, upd_same⟩, by simp, upd_same, .nil⟩, rfl, Nat.le_refl _, by simpa using hr, rfl⟩, ?_⟩
      rintro i m H2 ⟨rfl, hi, Hs2, δ2, acc, dss, rows, GG, r, s2, S2, M, hac, hxl, hl, hR⟩
      by_cases hlt : i < ds.length
      · right
        obtain ⟨hgo, hstep⟩ := (it Hs2 _ H2 _ δ2 s2 S2).1 i ds[i] (by simp [hlt])
        rw [List.drop_eq_getElem_cons hlt] at hl
        unfold lcL at hl
        refine ⟨hgo, _, fun H' n => ⟨ds.length - (i + 1), by omega, n⟩, fun x H' y => ?_⟩
        obtain ⟨Hs3, s3, S3, r3⟩ := hstep x H' y
        cases hg : g ds[i] δ2 with
        | none => rw [hg] at hl; cases hl
        | some δ3 =>
          rw [hg] at hl
          refine ⟨Hs3, _, δ2, ds[i], δ3, S3, r3, hg, fun σ3 S4 w => ⟨?_, ?_⟩⟩
          · rw [w vs ht, wipe_idem]
          · have w' : wipe σ3 vs = wipe σ vs := by rw [w vs ht, wipe_idem]
            refine ⟨Hs3, _, δ3, S4, ?_⟩
            simp only at hl
            cases htt : t δ3 with
            | bad => rw [htt] at hl; cases hl
            | er e => rw [htt] at hl; cases hl
            | ok p =>
              rw [htt, nb_ok] at hl
              obtain ⟨b, δ5⟩ := p
              refine PoG.of_ok fun Hs5 H5 s5 S5 => ?_
              simp only at hl
              cases b with
              | true =>
                show if true = true then _ else _
                rw [if_pos rfl]
                simp only at hl
                refine ⟨Hs5, _, δ5, S5, ?_⟩
                cases hf : f δ5 with
                | bad => unfold fz at hl; rw [hf] at hl; cases hl
                | er e => unfold fz at hl; rw [hf] at hl; cases hl
                | ok p =>
                  unfold fz at hl
                  rw [hf] at hl
                  simp only [Re.bd_ok, nb_ok] at hl
                  obtain ⟨d6, δ6⟩ := p
                  refine PoG.of_ok fun Hs6 H6 s6 y xs S6 L6 h6 r6 => ?_
                  have s26 := ((s3.trans s5).trans s6)
                  have yD : y ≠ D := fun z => by
                    obtain ⟨_, _, o, ho⟩ := M.new D List.mem_cons_self
                    have := L6.g
                    rw [z, ho] at this; cases this
                  have hD6 : H6 D = some (.lst (rows.map V.ref)) := S6.gm _ _ M.h
                  simp only at hl
                  refine ⟨rows.map V.ref, hD6, Nat.lt_of_le_of_lt (by rw [List.length_map]; exact hxl) (Nat.lt_of_lt_of_le hlt (million hlen)), rfl, hlt, ?_⟩
                  change nb (lcL vs g t (fz f) (ds.drop (i + 1)) (wp δ6 vs)) _ = _ at hl
                  rcases lcL_ne (vs := vs) (g := g) (t := t) (f := fz f) (ds.drop (i + 1)) (wp δ6 vs) with e | ⟨r2, hr2⟩
                  · rw [e] at hl; cases hl
                  · rw [hr2, nb_ok] at hl
                    obtain ⟨r3', δ7⟩ := r2
                    cases hl
                    have S7 := (S6.hideLoose L6 h6)
                    have S8 := (S7.regrow (p := D) (o := .lst (rows.map V.ref)) (o' := .lst (rows.map V.ref ++ [.ref y])) (by rw [upd_ne yD.symm]; exact M.h) hIn).wipe hm
                    have gg : ∀ a, a ≠ D → upd (upd GG y (.lst xs)) D (.lst (rows.map V.ref ++ [.ref y])) a = upd GG y (.lst xs) a := fun a n => upd_ne n
                    refine ⟨Hs6, wp δ6 vs, acc ++ [.list d6], dss ++ [d6], rows ++ [y], _, r3', s2.trans s26, by rw [← w']; exact S8, ⟨fun a o e => ?_, fun a ha => ?_, ?_, ?_, ?_⟩, rowsOf_app hac rfl, by simpa using hxl, hr2, by simp [hR]⟩
                    · by_cases a1 : a = D
                      · subst a1; rw [hG] at e; cases e
                      · rw [upd_ne a1]
                        by_cases a2 : a = y
                        · subst a2
                          have := M.le a o e
                          rw [L6.g] at this; cases this
                        · rw [upd_ne a2]; exact M.le a o e
                    · by_cases a1 : a = D
                      · subst a1; exact ⟨hG, hIn, _, upd_same⟩
                      · by_cases a2 : a = y
                        · subst a2
                          refine ⟨?_, L6.i, _, by rw [upd_ne a1, upd_same]⟩
                          cases z : G a with
                          | none => rfl
                          | some o => have := M.le a o z; rw [L6.g] at this; cases this
                        · obtain ⟨n1, n2, o, n3⟩ := M.new a (by
                            simp only [List.mem_cons, List.mem_append, List.not_mem_nil, or_false] at ha ⊢
                            rcases ha with z | z | z
                            · exact .inl z
                            · exact .inr z
                            · exact absurd z a2)
                          exact ⟨n1, n2, o, by rw [upd_ne a1, upd_ne a2]; exact n3⟩
                    · have nd := M.nd
                      rw [List.nodup_cons] at nd ⊢
                      have ny : y ∉ rows := fun z => by
                        obtain ⟨_, _, o, ho⟩ := M.new y (List.mem_cons_of_mem _ z)
                        have := L6.g
                        rw [ho] at this; cases this
                      refine ⟨fun z => ?_, List.nodup_append.mpr ⟨nd.2, by simp, fun a ha b hb e => ?_⟩⟩
                      · rcases List.mem_append.mp z with z | z
                        · exact nd.1 z
                        · rw [List.mem_singleton] at z; exact yD z.symm
                      · rw [List.mem_singleton] at hb; subst hb e; exact ny ha
                    · rw [upd_same, List.map_append]; rfl
                    · refine paired_snoc ?_ ⟨xs, by rw [upd_ne yD, upd_same], r6⟩
                      have key : ∀ a ∈ rows, upd (upd GG y (.lst xs)) D (.lst (rows.map V.ref ++ [.ref y])) a = GG a := fun a ha => by
                        have n1 : a ≠ D := fun z => by subst z; exact (List.nodup_cons.mp M.nd).1 ha
                        have n2 : a ≠ y := fun z => by
                          subst z
                          obtain ⟨_, _, o, ho⟩ := M.new a (List.mem_cons_of_mem _ ha)
                          have := L6.g
                          rw [ho] at this; cases this
                        rw [upd_ne n1, upd_ne n2]
                      have pr := M.r
                      generalize upd (upd GG y (.lst xs)) D (.lst (rows.map V.ref ++ [.ref y])) = G9 at key
                      clear M hac S8 S2 hxl hD6 gg S7
                      induction pr with
                      | nil => exact .nil
                      | @cons a ds0 rs' dss' h1 h2 ih =>
                        obtain ⟨ys, e1, e2⟩ := h1
                        exact .cons ⟨ys, by rw [key a List.mem_cons_self]; exact e1, dpa_mono s26 e2⟩ (ih fun b hb => key b (List.mem_cons_of_mem _ hb))
              | false =>
                show if false = true then _ else _
                rw [if_neg Bool.false_ne_true]
                simp only at hl
                refine ⟨rfl, hlt, Hs5, wp δ5 vs, acc, dss, rows, GG, r, (s2.trans s3).trans s5, ?_, ⟨M.le, M.new, M.nd, M.h, paired_mono (fun a b ⟨ys, e1, e2⟩ => ⟨ys, e1, dpa_mono (s3.trans s5) e2⟩) M.r⟩, hac, Nat.le_succ_of_le hxl, hl, hR⟩
                rw [← w']
                exact S5.wipe hm
      · left
        have e : i = ds.length := by omega
        subst e
        refine ⟨(it Hs2 _ H2 _ δ2 s2 S2).2 _ (Nat.le_refl _), ?_⟩
        rw [List.drop_length] at hl
        cases hl
        rw [List.append_nil] at hR
        subst hR
        rw [hac] at hro
        cases hro
        have S3 := Sat.unwipe S1 s2 hn hck hm S2
        refine q1 Hs2 H2 s2 D rows (S3.weakG M.le) ⟨fun a ha => ?_, M.nd, S3.gm _ _ M.h, paired_mono (fun a b ⟨ys, e1, e2⟩ => ⟨ys, S3.gm _ _ e1, e2⟩) M.r⟩
        obtain ⟨n1, n2, o, n3⟩ := M.new a ha
        refine ⟨?_, n1, n2, fun j s hj fo => ?_⟩
        · cases z : Hs2 a with
          | none => rfl
          | some u =>
            obtain ⟨o, ho⟩ := S3.gs a _ u n3 z
            rw [n2] at ho; cases ho
        · have := (foot_own (S3.sl j s hj) fo).1.2.1
          rw [n3] at this
          cases this
  · exact q1.elim
end
end DL
namespace DL
open PySem L2
section
variable {X : Cx} {c : DC} {E : XK} {e : Expr} {pos : Pos} {Hs Hs' G H H' : Hp} {σ : St} {δ δ' : En} {i : Nat}
variable {fi : En → Re (List D × En)} {ts : List Nat} {g : D → En → Option En} {t : En → Re (Bool × En)} {f : En → Re (List D × En)} {elt tg iter : Expr} {ifs : List Expr} {scope : Scope} {own : List (Str × Nat)} {spos : Pos}
theorem de_lcR (hc : X.calm = true) (hN : X.N.Nodup) (hn : (own.map (·.2)).Nodup) (hm : ∀ v ∈ own.map (·.2), v ∉ c.mi) (hts : ∀ t ∈ ts, t ∈ own.map (·.2)) (hi : PI X tg iter (tI c E fi)) (ok : BlkOk X.N X.env.scope scope own)
    (hg : ∀ (s : Shared) (H : Hp) (C : Addr) (cl : List (Str × Addr)) (fp : List Addr), PG (X.blk s H scope (compEnvC scope cl C X.env) fp) tg (tG c ts g)) (ht : ∀ (s : Shared) (H : Hp) (C : Addr) (cl : List (Str × Addr)) (fp : List Addr), PTs (X.blk s H scope (compEnvC scope cl C X.env) fp) ifs (tT c E0 t))
    (he : ∀ (s : Shared) (H : Hp) (C : Addr) (cl : List (Str × Addr)) (fp : List Addr), PE (X.blk s H scope (compEnvC scope cl C X.env) fp) elt (tF c E0 f)) (hs : ∀ x, foldedSetIterable iter X.env x = pure x := by intro _; rfl) :
    PE X (.ListComp elt [⟨tg, iter, ifs, 0⟩] scope pos) (tF2 c E (eRw (eLc fi (own.map (·.2)) g t (fz f)))) := PE.imp (pe_lc hc hN hi ok hg ht he hs) fun _ _ _ h => v_lcR hn hm hts h
theorem ds_ownLcR {i : Nat} {y : Str} {py : Pos} (hmi : i ∉ c.mi) (hc : X.calm = true) (hN : X.N.Nodup) (hy : X.N[i]? = some y) (hyl : X.env.scope.names.lookup y = some .local)
    (hsw : swapsWith (.ListComp elt [⟨tg, iter, ifs, 0⟩] scope pos) (some (.Name y py)) spos.line X.env = pure true) (hn : (own.map (·.2)).Nodup) (hm : ∀ v ∈ own.map (·.2), v ∉ c.mi) (hts : ∀ t ∈ ts, t ∈ own.map (·.2)) (hi : PI X tg iter (tI c E fi)) (ok : BlkOk X.N X.env.scope scope own)
    (hg : ∀ (s : Shared) (H : Hp) (C : Addr) (cl : List (Str × Addr)) (fp : List Addr), PG (X.blk s H scope (compEnvC scope cl C X.env) fp) tg (tG c ts g)) (ht : ∀ (s : Shared) (H : Hp) (C : Addr) (cl : List (Str × Addr)) (fp : List Addr), PTs (X.blk s H scope (compEnvC scope cl C X.env) fp) ifs (tT c E0 t))
    (he : ∀ (s : Shared) (H : Hp) (C : Addr) (cl : List (Str × Addr)) (fp : List Addr), PE (X.blk s H scope (compEnvC scope cl C X.env) fp) elt (tF c E0 f)) (hs : ∀ x, foldedSetIterable iter X.env x = pure x := by intro _; rfl) :
    PS X (.Assign [.Name y py] (.ListComp elt [⟨tg, iter, ifs, 0⟩] scope pos) spos) (tS c E (owS2 i (eRw (eLc fi (own.map (·.2)) g t (fz f))))) := PS.imp (ps_setLc hc hN hy hyl hsw hi ok hg ht he hs) fun σ H De h =>
  v_lcR hn hm hts (Q := fun x H1 => gName i x σ H1 De.nx) (by
    obtain ⟨Hs, G, δ, S, q⟩ := h
    exact ⟨Hs, G, δ, S, PoS.seq q fun dss δ1 Hs1 H1 s1 q1 p rs S1 L => q1 _ Hs1 H1 (Same.refl _) (S1.setOw2 hmi L)⟩)
theorem ds_own2 {i : Nat} {x : Str} {pos' : Pos} {f : En → Re (List (List D) × En)} (hm : i ∉ c.mi) (hN : X.N.Nodup) (hi : X.N[i]? = some x) (hx : Loc X.env.scope x) (he : PE X e (tF2 c E f)) (hs : swapsWith e (some (.Name x pos')) pos.line X.env = pure false := by rfl) (hf : X.fn x = true ∨ X.env.scope.names.lookup x = some .local := by first | exact .inl rfl | exact .inr rfl | assumption) :
    PS X (.Assign [.Name x pos'] e pos) (tS c E (owS2 i f)) := PS.imp (ps_set hN hi hx he hs hf) fun σ H De h => v_ow2 hm h
/-- a new list of lists as stable data -/
theorem rpa_rows {K : PySem.W.Frag} {Hs H Hz : Hp} {rs : List Addr} {dss : List (List D)} (s : Same Hs Hz) (h : Paired (RowL K Hs H) rs dss) (at_ : ∀ a ∈ rs, ∀ o, H a = some o → Hz a = some o) : RpAll K Hz (rs.map V.ref) (dss.map .list) := by
  induction h with
  | nil => exact .nil
  | @cons a ds rs' dss' h1 h2 ih =>
    obtain ⟨xs, e, r⟩ := h1
    exact .cons (.lst (SqL.of (at_ a List.mem_cons_self _ e)) (dpa_mono s r)) (ih fun b hb => at_ b (List.mem_cons_of_mem _ hb))
/-! ### x[k].method(..) -/
def tw2 : Option Sl → Re (List (List D))
  | some (.ow2 dss) => .ok dss
  | _ => .bad
def eMu2 (i : Nat) (m : List D → List D → Option (List D × D)) (fi : En → Re D) (fr : En → Re (List D)) : En → Re (D × En) := fun δ => (tw2 δ[i]?).bd fun dss => nb (fi δ) fun q => match q with
  | .int k => (opt (ixN dss.length k)).bd fun j => nb (fr (lend [] δ)) fun es => (opt (dss[j]?)).bd fun ds => (opt (m ds es)).bd fun z => .ok (z.2, δ.set i (.ow2 (dss.set j z.1)))
  | _ => .bad
theorem paired_get {α β : Type} {F : α → β → Prop} : ∀ {xs : List α} {ys : List β} {k : Nat} {b : β}, Paired F xs ys → ys[k]? = some b → ∃ a, xs[k]? = some a ∧ F a b
  | _, _, 0, _, .cons h1 _, e => by cases e; exact ⟨_, rfl, h1⟩
  | _, _, k + 1, b, .cons _ h2, e => by
    obtain ⟨a, e1, h⟩ := paired_get (k := k) (b := b) h2 (by simpa using e)
    exact ⟨a, by simpa using e1, h⟩
  | _, _, _, _, .nil, e => by simp at e
theorem paired_len {α β : Type} {F : α → β → Prop} : ∀ {xs : List α} {ys : List β}, Paired F xs ys → xs.length = ys.length
  | _, _, .nil => rfl
  | _, _, .cons _ h2 => congrArg (· + 1) (paired_len h2)
/-- one row is changed -/
theorem Sat.writeRow {a r : Addr} {rs : List Addr} {dss : List (List D)} {j : Nat} {xs : List V} {es : List D} (S : Sat c Hs G H σ δ) (hi : δ[i]? = some (.ow2 dss)) (ha : σ[i]? = some (some (.ref r))) (hr : H r = some (.lst (rs.map V.ref))) (hj : rs[j]? = some a) (rx : RpAll c.K Hs xs es) : Sat c Hs G (upd H a (.lst xs)) σ (δ.set i (.ow2 (dss.set j es))) := by
  obtain ⟨r', rs', e1, h1, h2, h3, h4⟩ := S.sl i _ hi
  rw [ha] at e1
  cases e1
  rw [hr] at h1
  injection h1 with h1
  injection h1 with h1
  have ers : rs = rs' := by
    have := congrArg (List.map fun v => match v with | V.ref a => a | _ => 0) h1
    simpa [List.map_map, Function.comp_def] using this
  subst ers
  have am : a ∈ rs := List.mem_of_getElem? hj
  have ra : r ≠ a := fun z => by subst z; exact (List.nodup_cons.mp h3).1 am
  have nd := (List.nodup_cons.mp h3).2
  refine S.write (s' := .ow2 (dss.set j es)) hi (by rw [ha]; exact .inr ⟨_, hr, List.mem_map.mpr ⟨a, am, rfl⟩⟩) ⟨r, rs, ha, by rw [upd_ne ra]; exact hr, h2, h3, ?_⟩ fun b f => .inl ?_
  · clear S hi ha hr
    induction h4 generalizing j with
    | nil => simp at hj
    | @cons a0 ds0 rs0 dss0 h5 h6 ih =>
      obtain ⟨ys, q1, q2, q3⟩ := h5
      cases j with
      | zero =>
        simp at hj
        subst hj
        refine .cons ⟨xs, upd_same, rx, q3⟩ ?_
        have : ∀ b ∈ rs0, b ≠ a0 := fun b hb z => by subst z; exact (List.nodup_cons.mp nd).1 hb
        clear ih nd h1 h3 ra am
        induction h6 with
        | nil => exact .nil
        | @cons a1 ds1 rs1 dss1 h7 h8 ih =>
          obtain ⟨zs, p1, p2, p3⟩ := h7
          exact .cons ⟨zs, by rw [upd_ne (this a1 List.mem_cons_self)]; exact p1, p2, p3⟩ (ih fun b hb => this b (List.mem_cons_of_mem _ hb))
      | succ j =>
        simp only [List.getElem?_cons_succ] at hj
        have n0 : a0 ≠ a := fun z => by subst z; exact (List.nodup_cons.mp nd).1 (List.mem_of_getElem? hj)
        refine .cons ⟨ys, by rw [upd_ne n0]; exact q1, q2, q3⟩ (ih hj (by
          rw [List.nodup_cons] at h3 ⊢
          exact ⟨fun z => h3.1 (List.mem_cons_of_mem _ z), (List.nodup_cons.mp h3.2).2⟩) rfl (List.mem_of_getElem? hj) (List.nodup_cons.mp nd).2)
  · rw [ha] at f ⊢
    rcases (show b = r ∨ ∃ ys, upd H a (.lst xs) r = some (.lst ys) ∧ V.ref b ∈ ys from f) with z | ⟨ys, e, hb⟩
    · exact .inl z
    · rw [upd_ne ra] at e
      exact .inr ⟨ys, e, hb⟩
variable {o b : Expr} {es : List Expr} {fr : En → Re (List D)} {name : Str} {apos cpos p2 : Pos} {id : String} {r : V → List V → Hp → VK → Prop} {m : List D → List D → Option (List D × D)} {x : Str} {xp : Pos}
theorem de_mu2 {fi : En → Re D} (slot : Slot "list" name id) (hty : typeOf (.builtin id) = pure (.type "method_descriptor")) (hm : MtR X id r) (hr : VMu r m) (hx : PE X (.Name x xp) (tVar i)) (hb : PE X b (tD c E (Pu fi))) (ha : PA X (e :: es) (tA c E (Pu fr)))
    (hK : c.K = X.K := by rfl) (hpi : PlainIx b := by exact fun _ _ => rfl)
    (hbase : attributeBase (.Subscript (.Name x xp) b p2) name X.env (eval (.Subscript (.Name x xp) b p2) X.env) = eval (.Subscript (.Name x xp) b p2) X.env := by rfl)
    (hfew : ((backTo cpos (starEach (e :: es) X.env)).all (fun x => !x.1) && (backToKw cpos (keywordEach [] X.env)).all (fun x => x.1.isSome)
      && decide ((e :: es).length + ([] : List Keyword).length + (if ([] : List Keyword).isEmpty then 0 else 1) < 30)) = true := by rfl)
    (hline : (apos.endLine == cpos.line) = true := by rfl) (hs : starEach (e :: es) X.env = (false, eval e X.env) :: starEach es X.env := by rfl) (hplain : (backTo cpos (starEach es X.env)).any (·.1) = false := by rfl) :
    PE X (.Call (.Attribute (.Subscript (.Name x xp) b p2) name apos) (e :: es) [] cpos) (tD c E (eMu2 i m fi fr)) := PE.imp (pe_bm PySem.F.plainAttrs_list slot hty hm (pe_ix ix_list hx hb hpi) ha hbase hfew hline hs hplain) fun σ H Q ⟨Hs, G, δ, S, q⟩ => by
  unfold eMu2 at q
  cases hi : δ[i]? with
  | none => rw [hi] at q; exact q.elim
  | some s => cases s with
    | ow2 dss =>
      rw [hi] at q
      simp only [tw2, Re.bd_ok] at q
      obtain ⟨l, rs, e1, h1, h2, h3, h4⟩ := S.sl i _ hi
      refine ⟨.ref l, e1, Hs, G, δ, S, ?_⟩
      unfold Pu
      cases hz : fi δ with
      | bad => rw [hz] at q; exact q
      | er e => rw [hz] at q; exact q.elim
      | ok d =>
        rw [hz] at q
        simp only [nb_ok] at q
        refine PoG.of_ok fun Hs1 H1 s1 v S1 rv => ?_
        cases rv with
        | int k =>
          simp only at q
          cases hk : ixN dss.length k with
          | none => rw [hk] at q; exact q.elim
          | some j =>
            rw [hk] at q
            simp only [opt_some, Re.bd_ok] at q
            cases hf : fr (lend [] δ) with
            | bad => rw [hf] at q; exact q.elim
            | er e => rw [hf] at q; exact q.elim
            | ok es' =>
              rw [hf] at q
              simp only [nb_ok] at q
              cases hds : dss[j]? with
              | none => rw [hds] at q; exact q.elim
              | some ds =>
                rw [hds] at q
                simp only [opt_some, Re.bd_ok] at q
                cases hmz : m ds es' with
                | none => rw [hmz] at q; exact q.elim
                | some z =>
                  rw [hmz] at q
                  obtain ⟨ds', dr⟩ := z
                  simp only [opt_some, Re.bd_ok] at q
                  obtain ⟨l', rs1, e2, h5, h6, h7, h8⟩ := S1.sl i _ hi
                  rw [e1] at e2
                  cases e2
                  obtain ⟨a, haj, ys, p1, p2, p3⟩ := paired_get h8 hds
                  have hv : atI (rs1.map V.ref) k = some (.ref a) := by
                    unfold atI
                    rw [List.length_map, paired_len h8, hk]
                    simp [haj]
                  refine ⟨l, rs1.map V.ref, k, .ref a, rfl, rfl, SqL.of h5, hv, .inl ⟨rfl, ys, SqL.of p1⟩, ?_⟩
                  obtain ⟨SL, _⟩ := S1.lent []
                  rw [hs_nil] at SL
                  refine ⟨Hs1, _, _, SL, ?_⟩
                  show PoG c E Hs1 (gL [] G H1 σ δ) _ ((fr (lend [] δ)).bd fun a => Re.ok (a, lend [] δ))
                  rw [hf]
                  refine PoG.of_ok fun Hs2 H2 s2 as S2 ra => ?_
                  have S3 := S1.unhideAll s2 S2.toFrm
                  have kept := fun (b : Addr) (o : HO) (f : Foot H1 σ[i]? (.ow2 dss) b) (e : H1 b = some o) => S1.lent_kept (by rw [hs_nil]; exact s2) S2.toFrm i _ b o hi f e
                  have am : a ∈ rs1 := List.mem_of_getElem? haj
                  have h5' : H2 l = some (.lst (rs1.map V.ref)) := kept l _ (by rw [e1]; exact .inl rfl) h5
                  have p1' : H2 a = some (.lst ys) := kept a _ (by rw [e1]; exact .inr ⟨_, h5, List.mem_map.mpr ⟨a, am, rfl⟩⟩) p1
                  have n2 : Hs2 a = none := by
                    obtain ⟨w, _⟩ := foot_own (S3.sl i _ hi) (a := a) (by rw [e1]; exact .inr ⟨_, h5', List.mem_map.mpr ⟨a, am, rfl⟩⟩)
                    exact w.1
                  refine hr c.K Hs2 H2 a ys as ds es' ds' dr p1' S3.sh n2 (dpa_mono s2 p2) ra hmz Q fun xs' v rx rv => ?_
                  exact q Hs2 _ (s1.trans s2) v (S3.writeRow hi e1 h5' haj rx) rv
        | _ => exact q.elim
    | _ => rw [hi] at q; exact q.elim
end
end DL

/-! DL19: a list times a number, wherever the list stands -/
namespace DL
open PySem L2
open PySem.P in
theorem rmulW (a : Int) (t : Tok) (l : Addr) (items : Array Value) (n : Nat) (d : Option Addr) (sl : Array (Option Value)) :
    Meets (Builtin.«int.__rmul__» ⟨[.int a t, .ref l], []⟩) (fun _ R s => s.heap.get? l = some { cls := .type "list", dict := d, data := .seq items n, slots := sl } ∧ R (.ok (.ret Value.notImplemented)) s) :=
  .of_wp fun prog w A R s h => by obtain ⟨hp, g, d, tk, os⟩ := s; obtain ⟨hl, h⟩ := h; wp_walk; exact ⟨_, rfl, h⟩
theorem mulW (l : Addr) (items : Array Value) (n : Nat) (d : Option Addr) (sl : Array (Option Value)) (x : Int) (u : Tok) (hc0 : ¬(!Builtin.List.listFitsIndex x) = true) (hc1 : ¬items.size * x.toNat > (2 ^ 63 - 1) / 8) (hc2 : ¬Builtin.List.listTooLong (items.size * x.toNat) = true) :
    Meets (Builtin.«list.__mul__» ⟨[.ref l, .int x u], []⟩) (fun _ R s => s.heap.get? l = some { cls := .type "list", dict := d, data := .seq items n, slots := sl } ∧ R (.ok (.ret (Value.ref s.heap.objs.size))) { s with heap := s.heap.push { cls := Value.type "list", data := Data.seq (List.foldl (fun x1 x2 => x1 ++ x2) #[] (List.replicate (if items.isEmpty = true then 0 else x.toNat) items)) }, toks := s.toks }) :=
  .of_wp fun prog w A R s h => by
    obtain ⟨hp, g, d, tk, os⟩ := s; obtain ⟨hl, h⟩ := h
    have hsz := AutoListH.joined_fits hc2
    wp_walk; refine wpAny_ite_false (decide_eq_false (Nat.not_lt.mpr hsz)) ?_; wp_walk; exact ⟨_, rfl, h⟩
def rRepS (K : PySem.W.Frag) : R2 := fun x y H Q => ∃ l k xs, x = .ref l ∧ y = .int k ∧ SqL K H l xs ∧ -(2 ^ 63) ≤ k ∧ k < 2 ^ 63 ∧ xs.length * k.toNat ≤ sizeLine ∧
  ∀ p, H p = none → Q (.ref p) (upd H p (.lst (List.replicate k.toNat xs).flatten))
section
variable {X : Cx} {c : DC} {E : XK} {e a b : Expr} {pos : Pos} {fa fb : En → Re (D × En)}
theorem op_repS : OpR X (binaryOp .Mult) (rRepS X.K) := by
  intro pins s σ H x y v u Q I rx ry h
  obtain ⟨l, k, xs, rfl, rfl, hH, h1, h2, hz, q⟩ := h
  cases rx
  obtain ⟨t, rfl⟩ := ry
  obtain ⟨its, r, ⟨⟨c1, d1, t1, l1⟩, n, e, k1, _, g1⟩, _⟩ := I.list hH
  simp only at k1 g1
  subst k1 g1
  have hl := r.length
  have hlen : its.toArray.size * k.toNat ≤ sizeLine := by rw [List.size_toArray, ← hl]; exact hz
  have hcap : ¬ its.toArray.size * k.toNat > (2 ^ 63 - 1) / 8 := by
    have : (sizeLine : Nat) ≤ (2 ^ 63 - 1) / 8 := by decide
    omega
  have hfit : ¬ (!Builtin.List.listFitsIndex k) = true := by
    rw [fitsIndex_both h1 h2]
    exact Bool.false_ne_true
  have hlong : ¬ Builtin.List.listTooLong (its.toArray.size * k.toNat) = true := by
    rw [notLongL hlen]
    exact Bool.false_ne_true
  have hnew : List.foldl (fun x1 x2 => x1 ++ x2) #[] (List.replicate (if its.toArray.isEmpty = true then 0 else k.toNat) its.toArray) = (List.replicate k.toNat its).flatten.toArray := by
    have f0 : ∀ m : Nat, List.foldl (fun x1 x2 => x1 ++ x2) #[] (List.replicate m its.toArray) = (List.replicate m its).flatten.toArray := fun m => by
      have := foldl_rep its m []
      rw [List.nil_append] at this
      exact this
    rw [f0]
    cases its with
    | nil => simp
    | cons a r' => rw [if_neg (by simp)]
  refine wpAny_binaryOp_repeat_ref (T := "list") (U := "int") (by decide) ⟨_, e, rfl⟩ (fun s' => typeIs_int s' k t) noFill_list_mul PySem.F.fills_int_mul PySem.F.slot_int_rmul repeat_list PySem.F.slot_int_index.lookup
    (call_meets PySem.F.slot_int_rmul (typeIs_int s k t) PySem.F.entry_int_rmul (PySem.F.args_int_rmul_2 _ _) (rmulW k t l its.toArray n d1 l1)
      ⟨e, rfl, ⟨_, e, rfl⟩, call_meets PySem.F.slot_list_mul ⟨_, e, rfl⟩ PySem.F.entry_list_mul (PySem.F.args_list_mul_2 _ _) (mulW l its.toArray n d1 l1 k t hfit hcap hlong) ⟨e, ?_⟩⟩)
  rw [hnew]
  exact ⟨.ref _, _, I.lnew (t' := s.toks) (r.rep k.toNat) (by rw [PyProof.Rows.lm_len_rep_flat, Nat.mul_comm]; exact hz), rfl, q _ I.fresh⟩
def gMulL : D → D → Option (List D)
  | .list l, d => gRep l d
  | _, _ => none
theorem vMulL : VOp2F c (rRepS c.K) gMulL := fun Hs G H σ δ x y dx dy d S rx ry e Q q => by
  cases rx with
  | @lst l xs ds h1 r1 =>
    obtain ⟨k, rfl, hk1, hk2, rfl⟩ := gRep_inv (show gRep ds dy = some d from e)
    cases ry
    exact ⟨l, k, xs, rfl, rfl, same_l S.sh h1, hk1.1, hk1.2, by rw [dpa_len r1]; exact million hk2, fun p hp => q p _ Hs _ (Same.refl _) (S.loose hp) (S.loose_of hp) upd_same (rpa_rep r1 k.toNat)⟩
  | _ => cases e
theorem e_mulL (ha : PE X a (tD c E fa)) (hb : PE X b (tD c E fb)) (hK : c.K = X.K := by rfl) : PE X (.BinOp a .Mult b pos) (tF c E (eOp gMulL fa fb)) := de_binF op_repS (hK ▸ vMulL) ha hb
end
end DL

/-! DL20: defs that hand back a new list of new lists; defs that change any of their arguments -/
namespace DL
open PySem L2
section
variable {X : Cx} {c : DC} {E : XK} {e : Expr} {pos : Pos} {Hs Hs' G H H' : Hp} {σ : St} {δ δ' : En} {i : Nat} {p : Addr}
/-! ### results -/
def rf2S (fr : En → Re (List (List D) × En)) : En → Re Fl := fun δ => (fr δ).bd fun p => .ok (.rf2 p.1 p.2)
theorem ds_retF2 {fr : En → Re (List (List D) × En)} (h : PE X e (tF2 c E fr)) : PS X (.Return (some e) pos) (tS c E (rf2S fr)) := PS.imp (ps_ret h) fun σ H De ⟨Hs, G, δ, S, q⟩ =>
  ⟨Hs, G, δ, S, PoS.seq q fun d δ1 Hs1 H1 s1 q1 p rs S1 L => q1 p rs σ Hs1 H1 (Same.refl _) S1 L⟩
def ro2S (i : Nat) : En → Re Fl := fun δ => (tw2 δ[i]?).bd fun dss => .ok (.rf2 dss (δ.set i .no))
theorem drop_at {i j : Nat} {t : Sl} (hj : (δ.set i .no)[j]? = some t) : (j = i ∧ t = .no) ∨ (j ≠ i ∧ δ[j]? = some t) := by
  by_cases e : j = i
  · subst e
    have hlt : j < δ.length := by
      have := (List.getElem?_eq_some_iff.mp hj).1
      simpa using this
    rw [List.getElem?_set_self hlt] at hj
    cases hj
    exact .inl ⟨rfl, rfl⟩
  · rw [List.getElem?_set_ne (Ne.symm e)] at hj
    exact .inr ⟨e, hj⟩
theorem row_l {rs : List Addr} {dss : List (List D)} (h : Paired (Row c Hs G H) rs dss) : Paired (RowL c.K Hs H) rs dss := paired_mono (fun _ _ ⟨xs, e, r, _⟩ => ⟨xs, e, r⟩) h
theorem ds_retO2 {i : Nat} {x : Str} {xp : Pos} (hx : PE X (.Name x xp) (tVar i)) : PS X (.Return (some (.Name x xp)) pos) (tS c E (ro2S i)) := PS.imp (ps_ret hx) fun σ H De ⟨Hs, G, δ, S, q⟩ => by
  unfold ro2S at q
  cases hi : δ[i]? with
  | none => rw [hi] at q; exact q.elim
  | some s => cases s with
    | ow2 dss =>
      rw [hi] at q
      obtain ⟨l, rs, e1, h1, w1, nd, pr⟩ := S.sl i _ hi
      have own : ∀ a ∈ l :: rs, Foot H σ[i]? (.ow2 dss) a := fun a ha => by
        rw [e1]
        rcases List.mem_cons.mp ha with z | z
        · exact .inl z
        · exact .inr ⟨_, h1, List.mem_map.mpr ⟨a, z, rfl⟩⟩
      refine ⟨.ref l, e1, q l rs σ Hs H (Same.refl _) (S.dropSl i) ⟨fun a ha => ?_, nd, h1, row_l pr⟩⟩
      obtain ⟨w, _⟩ := foot_own (S.sl i _ hi) (own a ha)
      refine ⟨w.1, w.2.1, w.2.2, fun j t hj f => ?_⟩
      rcases drop_at hj with ⟨_, rfl⟩ | ⟨ne, h⟩
      · exact foot_no f
      · exact S.sp j i t _ a ne h hi f (own a ha)
    | _ => rw [hi] at q; exact q.elim
theorem fr2_pu (f : En → Re (List (List D))) : rf2S (Pu f) = fun δ => (f δ).bd fun d => .ok (.rf2 d δ) := by
  funext δ; unfold rf2S Pu; cases f δ <;> rfl
/-- a new list of new lists, then as stable data -/
def fz2 (f : En → Re (List (List D) × En)) : En → Re (D × En) := fun δ => (f δ).bd fun p => .ok (.list (p.1.map .list), p.2)
/-! ### defs without a changed argument whose result is such a list -/
def PoPF2 (K : PySem.W.Frag) (mg : Str → Option Value) (Hs H : Hp) (Q : VK) (E : XK) : Re (List (List D)) → Prop
  | .bad => False
  | .er e => ∀ Hs' H', Same Hs Hs' → Same Hs' H' → Same H H' → Nw H Hs Hs' → XOkK K mg E Hs' H' e
  | .ok dss => ∀ p rs Hs' H', Same Hs Hs' → Same Hs' H' → Same H H' → Nw H Hs Hs' → (∀ a ∈ p :: rs, Hs' a = none ∧ H a = none) → (p :: rs).Nodup → H' p = some (.lst (rs.map V.ref)) → Paired (RowL K Hs' H') rs dss → Q (.ref p) H'
def spPF2 (K : PySem.W.Frag) (mg : Str → Option Value) (F : List D → Re (List (List D))) : Sp := fun vs H Q E => ∃ Hs ds, Same Hs H ∧ RpAll K Hs vs ds ∧ PoPF2 K mg Hs H Q E (F ds)
def dfPF2 (np n : Nat) (F : En → Re Fl) (ds : List D) : Re (List (List D)) := if ds.length = np then (match F (en0 n ds) with
  | .bad => .bad
  | .er e => .er e
  | .ok (.rf2 d _) => .ok d
  | .ok _ => .bad) else .bad
variable {P : Program} {w : World} {K : PySem.W.Frag} {mg : Str → Option Value} {base : Heap}
variable {x qual : Str} {st : Stmt} {f : Addr} {fd : FuncData} {N ps : List Str} {k : Nat}
theorem fn_PF2 (F : Fun K x qual st f fd) (S : FnScope N ps (defScope st)) {Fb : En → Re Fl}
    (hb : ∀ (cdv : Value) (A : Around) (outer : List Env) (s : Shared) (H : Hp) (E : XK) (Hin Hb : Hp) (ma : Nat → Addr), RoomG k (A.deeper (PyProof.Rows.envOfC qual (defScope st) s.heap.objs.size f cdv)) →
      PSs (cxOf (L2.CX P w) P w K mg base N qual (defScope st) f cdv A outer s H E) (defBody st) (tS ⟨K, mg, Hin, Hb, [], ma⟩ E Fb)) :
    FnOkG P w K mg base (L2.CX P w) (k + 1) f fd ps (spPF2 K mg (dfPF2 ps.length N.length Fb)) := by
  refine fun_okG F S (fun vs H Q E ⟨_, ds, _, r, h⟩ => by
    unfold dfPF2 at h
    split at h
    · rename_i hl; rw [dpa_len r]; exact hl
    · exact h.elim) (fun cdv A outer s H vs Q E hr ⟨Hs, ds, hs, r, h⟩ => ⟨_, hb cdv A outer s H E H Hs (fun _ => 0) hr, Hs, H, en0 N.length ds, sat0 hs r, ?_⟩)
  unfold dfPF2 at h
  split at h
  case isFalse => exact h.elim
  cases hz : Fb (en0 N.length ds) with
  | bad => rw [hz] at h; exact h
  | er e => rw [hz] at h; exact fun Hs' H' s' F' => h Hs' H' s' F'.sh F'.gm F'.nw
  | ok fl =>
    rw [hz] at h
    cases fl with
    | rf2 d δ => exact fun p rs σ' Hs' H' s' S' L => h p rs Hs' H' s' S'.sh S'.gm S'.nw (fun a ha => ⟨(L.l a ha).s, (L.l a ha).i⟩) L.nd L.h L.r
    | _ => exact h.elim
theorem v_crF2 {F : List D → Re (List (List D))} (S : Sat c Hs G H σ δ) {vs : List V} {ds : List D} (r : RpAll c.K Hs vs ds) {Q : VK} (h : PoG c E Hs G (fun dss δ' Hs' H' => ∀ p rs, Sat c Hs' G H' σ δ' → Loose2 c Hs' G H' σ δ' p rs dss → Q (.ref p) H') ((F ds).bd fun d => .ok (d, δ))) : spPF2 c.K c.mg F vs H Q E := by
  refine ⟨Hs, ds, S.sh, r, ?_⟩
  cases hz : F ds with
  | bad => rw [hz] at h; exact h
  | er e => rw [hz] at h; exact fun Hs' H' s sh sm nw => h Hs' H' s (S.toFrm.grown s sh sm nw)
  | ok d =>
    rw [hz] at h
    intro p rs Hs' H' s sh sm nw hn nd hp pr
    refine h Hs' H' s p rs (S.grown s sh sm nw) ⟨fun a ha => ⟨(hn a ha).1, Sat.fresh_G S.toFrm (hn a ha).2, Sat.fresh_in S.toFrm (hn a ha).2, fun j t hj f => ?_⟩, nd, hp, pr⟩
    have f' := foot_keep (H' := H') (S.sl j t hj) (fun b u _ e => sm b u e) f
    obtain ⟨_, u, e⟩ := foot_own (S.sl j t hj) f'
    rw [(hn a ha).2] at e; cases e
variable {es : List Expr} {fr : En → Re (List D × En)} {pp : Pos}
theorem de_crF2 {F : List D → Re (List (List D))} (hD : Dn X.prog X.w X.K X.mg X.base k x ps (spPF2 X.K X.mg F)) (hr : RoomG k X.A) (hg : Gl X x) (hx : Passes (L2.CX X.prog X.w) X E) (hK : c.K = X.K) (hM : c.mg = X.mg)
    (ha : PA X (e :: es) (tA c E fr)) (hdb : (x == ("__debug__" : Str)) = false := by decide) (he : starEach (e :: es) X.env = (false, eval e X.env) :: starEach es X.env := by rfl) (hpl : (backTo pos (starEach es X.env)).any (·.1) = false := by rfl) :
    PE X (.Call (.Name x pp) (e :: es) [] pos) (tF2 c E (eCr F fr)) := by
  obtain ⟨f, fd, Fo, hm, hk, hb⟩ := hD.ex
  refine PE.imp (pe_callG Fo hr hg hm hk hb .nil hx ha hdb he hpl) fun σ H Q ⟨Hs, G, δ, S, q⟩ => ⟨Hs, G, δ, S, PoG.seq q fun ds δ1 Hs1 H1 s1 q1 vs S1 r1 => ?_⟩
  have := v_crF2 (F := F) S1 r1 q1
  show spPF2 X.K X.mg F (vs ++ []) H1 Q E
  rw [List.append_nil, ← hK, ← hM]
  exact this
theorem uCrF2 {F : List D → Re (List (List D))} {fr : En → Re (List D)} (h : PE X e (tF2 c E (eCr F (Pu fr)))) : PE X e (tF2 c E (Pu (pCr F fr))) := eCr_pu F fr ▸ h
/-! lending, where the result is such a list, its rows of plain values -/
def bor2 (is : List Nat) (f : En → Re (List (List D))) : En → Re (List (List D)) := fun δ => match f (lend is δ) with
  | .ok dss => if dss.all fun ds => ds.all scal then .ok dss else .bad
  | _ => .bad
theorem de_bor2 {is : List Nat} {f : En → Re (List (List D))} (h : PE X e (tF2 c E (Pu f))) : PE X e (tF2 c E (Pu (bor2 is f))) := PE.imp h fun σ H Q ⟨Hs, G, δ, S, q⟩ => by
  have ss := (S.lent is).2
  refine ⟨_, _, _, (S.lent is).1, ?_⟩
  unfold Pu bor2 at q
  unfold Pu
  cases hz : f (lend is δ) with
  | bad => rw [hz] at q; exact q.elim
  | er e => rw [hz] at q; exact q.elim
  | ok dss =>
    simp only [hz] at q
    cases hs : dss.all fun ds => ds.all scal with
    | false => rw [hs] at q; exact q.elim
    | true =>
      rw [hs] at q
      intro Hs' H' s' p rs S' L
      obtain ⟨S2, s2⟩ := S.unlend s' S'.toFrm
      refine q _ H' s2 p rs S2 ⟨fun a ha => ⟨uL_n (L.l a ha).s, ?_, (L.l a ha).i, fun j t hj f => ?_⟩, L.nd, L.h, ?_⟩
      · cases z : G a with
        | none => rfl
        | some o => have := S.gL_of (is := is) z; rw [(L.l a ha).g] at this; cases this
      · have f' := foot_keep (S.sl j t hj) (fun b o f e => S.lent_kept s' S'.toFrm j t b o hj f e) f
        obtain ⟨_, o, e⟩ := foot_own (S.sl j t hj) f'
        by_cases hl : Lent is H σ δ a
        · have := s' a o (by unfold hsL; rw [if_pos hl]; exact e)
          rw [(L.l a ha).s] at this; cases this
        · have hh : Hidn is H σ δ a := ⟨j, t, hj, f', fun ⟨z1, z2⟩ => hl ⟨j, t, z1, z2, hj, f'⟩⟩
          have : gL is G H σ δ a = some o := by unfold gL; rw [if_pos hh]; exact e
          rw [(L.l a ha).g] at this; cases this
      · have pr := L.r
        clear L q hz
        induction pr with
        | nil => exact .nil
        | @cons a ds rs' dss' h1 h2 ih =>
          obtain ⟨ys, e1, e2⟩ := h1
          rw [List.all_cons, Bool.and_eq_true] at hs
          exact .cons ⟨ys, e1, scal_rpa (S.uL_tup s') hs.1 e2⟩ (ih hs.2)
/-- y = [.. for ..] over lent lists -/
theorem v_borF {is : List Nat} {f : En → Re (List D)} {σ : St} {H : Hp} {Q : VK} (h : tF c E (Pu (borF is f)) σ H Q) : tF c E (Pu f) σ H Q := by
  obtain ⟨Hs, G, δ, S, q⟩ := h
  have ss := (S.lent is).2
  refine ⟨_, _, _, (S.lent is).1, ?_⟩
  unfold Pu borF at q
  unfold Pu
  cases hz : f (lend is δ) with
  | bad => rw [hz] at q; exact q.elim
  | er e => rw [hz] at q; exact q.elim
  | ok ds =>
    simp only [hz] at q
    cases hs : ds.all scal with
    | false => rw [hs] at q; exact q.elim
    | true =>
      rw [hs] at q
      intro Hs' H' s' p xs S' L h r
      obtain ⟨S2, s2⟩ := S.unlend s' S'.toFrm
      refine q _ H' s2 p xs S2 ⟨uL_n L.s, ?_, L.i, fun j t hj f => ?_⟩ h (scal_rpa (S.uL_tup s') hs r)
      · cases z : G p with
        | none => rfl
        | some o => have := S.gL_of (is := is) z; rw [L.g] at this; cases this
      · have f' := foot_keep (S.sl j t hj) (fun b o f e => S.lent_kept s' S'.toFrm j t b o hj f e) f
        obtain ⟨_, o, e⟩ := foot_own (S.sl j t hj) f'
        by_cases hl : Lent is H σ δ p
        · have := s' p o (by unfold hsL; rw [if_pos hl]; exact e)
          rw [L.s] at this; cases this
        · have hh : Hidn is H σ δ p := ⟨j, t, hj, f', fun ⟨z1, z2⟩ => hl ⟨j, t, z1, z2, hj, f'⟩⟩
          have : gL is G H σ δ p = some o := by unfold gL; rw [if_pos hh]; exact e
          rw [L.g] at this; cases this
theorem ds_ownLcB {is : List Nat} {fi : En → Re (List D)} {ts : List Nat} {g : D → En → Option En} {t : En → Re Bool} {f : En → Re D} {elt tg iter : Expr} {ifs : List Expr} {scope : Scope} {own : List (Str × Nat)} {spos : Pos}
    {y : Str} {py : Pos} (gok : GOk (own.map (·.2)) g) (hmi : i ∉ c.mi) (hc : X.calm = true) (hN : X.N.Nodup) (hy : X.N[i]? = some y) (hyl : X.env.scope.names.lookup y = some .local)
    (hsw : swapsWith (.ListComp elt [⟨tg, iter, ifs, 0⟩] scope pos) (some (.Name y py)) spos.line X.env = pure true) (hn : (own.map (·.2)).Nodup) (hm : ∀ v ∈ own.map (·.2), v ∉ c.mi) (hts : ∀ t ∈ ts, t ∈ own.map (·.2)) (hi : PI X tg iter (tI c E (Pu fi))) (ok : BlkOk X.N X.env.scope scope own)
    (hg : ∀ (s : Shared) (H : Hp) (C : Addr) (cl : List (Str × Addr)) (fp : List Addr), PG (X.blk s H scope (compEnvC scope cl C X.env) fp) tg (tG c ts g)) (ht : ∀ (s : Shared) (H : Hp) (C : Addr) (cl : List (Str × Addr)) (fp : List Addr), PTs (X.blk s H scope (compEnvC scope cl C X.env) fp) ifs (tT c E0 (Pu t)))
    (he : ∀ (s : Shared) (H : Hp) (C : Addr) (cl : List (Str × Addr)) (fp : List Addr), PE (X.blk s H scope (compEnvC scope cl C X.env) fp) elt (tD c E0 (Pu f))) (hs : ∀ x, foldedSetIterable iter X.env x = pure x := by intro _; rfl) :
    PS X (.Assign [.Name y py] (.ListComp elt [⟨tg, iter, ifs, 0⟩] scope pos) spos) (tS c E (owS i (Pu (borF is (pLc fi (own.map (·.2)) g t f))))) := PS.imp (ps_setLc hc hN hy hyl hsw hi ok hg ht he hs) fun σ H De h =>
  v_lc hn hm hts (Q := fun x H1 => gName i x σ H1 De.nx) (by
    rw [eLc_pu gok]
    refine v_borF (is := is) ?_
    obtain ⟨Hs, G, δ, S, q⟩ := h
    exact ⟨Hs, G, δ, S, PoS.seq q fun d δ1 Hs1 H1 s1 q1 p xs S1 L h r1 => q1 _ Hs1 H1 (Same.refl _) (S1.setOw hmi L h r1)⟩)
end
end DL

/-! DL21: defs that change any of their arguments (lists, lists of lists, dicts) -/
namespace DL
open PySem L2
def own1 : Sl → Sl
  | .ow ds => .ow ds
  | .ow2 d => .ow2 d
  | .dk k => .dk k
  | _ => .no
def ownd : Option Sl → Bool
  | some (.ow _) => true
  | some (.ow2 _) => true
  | some (.dk _) => true
  | _ => false
def finX (mi : List Nat) (np : Nat) (δ : En) : En := (List.range np).map fun i => if i ∈ mi then own1 (δ.getD i .no) else .no
section
variable {c c0 : DC} {Hs Hs' G G0 H H' : Hp} {σ σ0 : St} {δ ars : En} {i : Nat} {s : Sl} {v : Option (Option V)}
theorem own_val (h : SlOk c Hs G H i v s) (ho : ownd (some s) = true) (hi : i ∈ c.mi) : v = some (some (.ref (c.ma i))) := by
  cases s with
  | no => cases ho
  | sh d => cases ho
  | ow ds =>
    obtain ⟨r, xs, e, _, _, w⟩ := h
    rw [e, w.2.2.2 hi]
  | ow2 ds =>
    obtain ⟨r, rs, e, _, w, _⟩ := h
    rw [e, w.2.2.2 hi]
  | dk ks =>
    obtain ⟨r, xs, e, _, _, w⟩ := h
    rw [e, w.2.2.2 hi]
  | dt ks => cases ho
theorem own1_cases (s : Sl) : own1 s = .no ∨ (own1 s = s ∧ ownd (some s) = true) := by
  cases s <;> simp [own1, ownd]
/-- the same for another context that owns the same -/
theorem slok_to {j : Nat} {G' : Hp} (h : SlOk c Hs G H i v s) (o : ∀ a, Foot H v s a → Ow3 c0 Hs G' a) (hK : c0.K = c.K) (rt : ∀ r, v = some (some (.ref r)) → j ∈ c0.mi → r = c0.ma j) : SlOk c0 Hs G' H j v s := by
  cases s with
  | no => trivial
  | sh d => obtain ⟨x, e, r⟩ := h; exact ⟨x, e, hK ▸ r⟩
  | ow ds =>
    obtain ⟨r, xs, rfl, h1, h2, h3⟩ := h
    have w := o r rfl
    exact ⟨r, xs, rfl, h1, hK ▸ h2, w.1, w.2.1, w.2.2, rt r rfl⟩
  | ow2 dss =>
    obtain ⟨r, rs, rfl, h1, h2, h3, h4⟩ := h
    have w := o r (.inl rfl)
    refine ⟨r, rs, rfl, h1, ⟨w.1, w.2.1, w.2.2, rt r rfl⟩, h3, ?_⟩
    have fm : ∀ b ∈ rs, Ow3 c0 Hs G' b := fun b hb => o b (.inr ⟨_, h1, List.mem_map.mpr ⟨b, hb, rfl⟩⟩)
    clear h1 h3 o h2 rt w
    induction h4 with
    | nil => exact .nil
    | @cons a ds rs' dss' h5 h6 ih =>
      obtain ⟨xs, q1, q2, q3⟩ := h5
      exact .cons ⟨xs, q1, hK ▸ q2, fm _ List.mem_cons_self⟩ (ih fun b hb => fm b (List.mem_cons_of_mem _ hb))
  | dk kvs =>
    obtain ⟨r, xs, rfl, h1, h2, h3⟩ := h
    have w := o r rfl
    exact ⟨r, xs, rfl, h1, hK ▸ h2, w.1, w.2.1, w.2.2, rt r rfl⟩
  | dt kvs =>
    obtain ⟨r, xs, rfl, h1, h2, h3⟩ := h
    have w := o r rfl
    exact ⟨r, xs, rfl, h1, hK ▸ h2, w.1, w.2.1, w.2.2, rt r rfl⟩
/-! ### results -/
def RzD (c : DC) (Hs G H : Hp) (σ : St) (δ : En) (d : D) (v : V) : Prop := Rp c.K Hs v d
def RzF (c : DC) (Hs G H : Hp) (σ : St) (δ : En) (ds : List D) (v : V) : Prop := ∃ p xs, v = .ref p ∧ Loose c Hs G H σ δ p ∧ H p = some (.lst xs) ∧ RpAll c.K Hs xs ds
def RzF2 (c : DC) (Hs G H : Hp) (σ : St) (δ : En) (dss : List (List D)) (v : V) : Prop := ∃ p rs, v = .ref p ∧ Loose2 c Hs G H σ δ p rs dss
def PoX {α : Type} (c : DC) (Hs G : Hp) (σ : St) (R : DC → Hp → Hp → Hp → St → En → α → V → Prop) (Q : VK) : Re (α × En) → Prop
  | .bad => False
  | .er _ => False
  | .ok (a, ars) => ∀ v Hs' H', Same Hs Hs' → Sat c Hs' G H' σ ars → R c Hs' G H' σ ars a v → Q v H'
def spX {α : Type} (K : PySem.W.Frag) (mg : Str → Option Value) (mi : List Nat) (R : DC → Hp → Hp → Hp → St → En → α → V → Prop) (F : En → Re (α × En)) : Sp := fun vs H Q _ => ∃ Hs G ars ma,
  Sat ⟨K, mg, G, Hs, mi, ma⟩ Hs G H (vs.map some) ars ∧ (∀ i ∈ mi, vs[i]? = some (.ref (ma i))) ∧ PoX ⟨K, mg, G, Hs, mi, ma⟩ Hs G (vs.map some) R Q (F ars)
/-! ### from a body to the promise -/
theorem satX {N : List Str} {vs : List V} (S : Sat c Hs G H (vs.map some) ars) : Sat c Hs G H (L2.start N vs) (ars ++ List.replicate (N.length - vs.length) .no) := by
  have hl : ars.length = vs.length := by rw [S.ln, List.length_map]
  have key : ∀ (i : Nat) (t : Sl), (ars ++ List.replicate (N.length - vs.length) .no)[i]? = some t → t = .no ∨ (ars[i]? = some t ∧ (L2.start N vs)[i]? = (vs.map some)[i]?) := fun i t h => by
    by_cases hi : i < ars.length
    · rw [List.getElem?_append_left hi] at h
      refine .inr ⟨h, ?_⟩
      have hv : vs[i]? = some vs[i] := List.getElem?_eq_getElem (by omega)
      rw [start_at hv, List.getElem?_map, hv]; rfl
    · rw [List.getElem?_append_right (by omega), List.getElem?_replicate] at h
      split at h
      · cases h; exact .inl rfl
      · cases h
  refine ⟨S.toFrm, ?_, fun i t h => ?_, fun i j t u a ne h1 h2 f1 f2 => ?_⟩
  · rw [start_len, List.length_append, List.length_replicate, hl]
  · rcases key i t h with rfl | ⟨h1, h2⟩
    · trivial
    · rw [h2]; exact S.sl i t h1
  · rcases key i t h1 with rfl | ⟨h3, h4⟩
    · exact foot_no f1
    · rcases key j u h2 with rfl | ⟨h5, h6⟩
      · exact foot_no f2
      · rw [h4] at f1
        rw [h6] at f2
        exact S.sp i j t u a ne h3 h5 f1 f2
/-- the arguments at the end -/
theorem finS {vs : List V} (S : Sat c Hs G H σ δ) (hv : ∀ i ∈ c.mi, vs[i]? = some (.ref (c.ma i))) : Sat c Hs G H (vs.map some) (finX c.mi vs.length δ) := by
  have key : ∀ (i : Nat) (t : Sl), (finX c.mi vs.length δ)[i]? = some t → t = .no ∨ (δ[i]? = some t ∧ (vs.map some)[i]? = σ[i]?) := fun i t h => by
    unfold finX at h
    rw [List.getElem?_map] at h
    obtain ⟨k, hk, e⟩ := Option.map_eq_some_iff.mp h
    obtain ⟨hlt, e2⟩ := List.getElem?_eq_some_iff.mp hk
    have e3 : i = k := by simpa using e2
    subst e3
    by_cases hm : i ∈ c.mi
    · rw [if_pos hm] at e
      rcases own1_cases (δ.getD i .no) with z | ⟨z1, z2⟩
      · rw [z] at e; exact .inl e.symm
      · rw [z1] at e
        refine .inr ?_
        have hd : δ[i]? = some t := by
          rw [List.getD_eq_getElem?_getD] at e z2
          cases hq : δ[i]? with
          | none => rw [hq] at z2; cases z2
          | some u => rw [hq] at e; simp at e; rw [e]
        refine ⟨hd, ?_⟩
        rw [e] at z2
        rw [own_val (S.sl i t hd) z2 hm, List.getElem?_map, hv i hm]; rfl
    · rw [if_neg hm] at e; exact .inl e.symm
  refine ⟨S.toFrm, by unfold finX; simp, fun i t h => ?_, fun i j t u a ne h1 h2 f1 f2 => ?_⟩
  · rcases key i t h with rfl | ⟨h1, h2⟩
    · trivial
    · rw [h2]; exact S.sl i t h1
  · rcases key i t h1 with rfl | ⟨h3, h4⟩
    · exact foot_no f1
    · rcases key j u h2 with rfl | ⟨h5, h6⟩
      · exact foot_no f2
      · rw [h4] at f1
        rw [h6] at f2
        exact S.sp i j t u a ne h3 h5 f1 f2
theorem finL {vs : List V} {p : Addr} (S : Sat c Hs G H σ δ) (hv : ∀ i ∈ c.mi, vs[i]? = some (.ref (c.ma i))) (L : Loose c Hs G H σ δ p) : Loose c Hs G H (vs.map some) (finX c.mi vs.length δ) p := by
  refine ⟨L.s, L.g, L.i, fun i t h f => ?_⟩
  unfold finX at h
  rw [List.getElem?_map] at h
  obtain ⟨k, hk, e⟩ := Option.map_eq_some_iff.mp h
  obtain ⟨hlt, e2⟩ := List.getElem?_eq_some_iff.mp hk
  have e3 : i = k := by simpa using e2
  subst e3
  by_cases hm : i ∈ c.mi
  · rw [if_pos hm] at e
    rcases own1_cases (δ.getD i .no) with z | ⟨z1, z2⟩
    · rw [z] at e; subst e; exact foot_no f
    · rw [z1] at e
      have hd : δ[i]? = some t := by
        rw [List.getD_eq_getElem?_getD] at e z2
        cases hq : δ[i]? with
        | none => rw [hq] at z2; cases z2
        | some u => rw [hq] at e; simp at e; rw [e]
      rw [e] at z2
      have ev := own_val (S.sl i t hd) z2 hm
      rw [List.getElem?_map, hv i hm] at f
      exact L.f i t hd (by rw [ev]; exact f)
  · rw [if_neg hm] at e; subst e; exact foot_no f
def dfXD (mi : List Nat) (np n : Nat) (F : En → Re Fl) (ars : En) : Re (D × En) := if ars.length = np then (match F (ars ++ List.replicate (n - np) .no) with
  | .ok (.nx δ) => .ok (.none, finX mi np δ)
  | .ok (.rt d δ) => .ok (d, finX mi np δ)
  | _ => .bad) else .bad
def dfXF (mi : List Nat) (np n : Nat) (F : En → Re Fl) (ars : En) : Re (List D × En) := if ars.length = np then (match F (ars ++ List.replicate (n - np) .no) with
  | .ok (.rf d δ) => .ok (d, finX mi np δ)
  | _ => .bad) else .bad
def dfXF2 (mi : List Nat) (np n : Nat) (F : En → Re Fl) (ars : En) : Re (List (List D) × En) := if ars.length = np then (match F (ars ++ List.replicate (n - np) .no) with
  | .ok (.rf2 d δ) => .ok (d, finX mi np δ)
  | _ => .bad) else .bad
end
section
variable {P : Program} {w : World} {K : PySem.W.Frag} {mg : Str → Option Value} {base : Heap}
variable {x qual : Str} {st : Stmt} {f : Addr} {fd : FuncData} {N ps : List Str} {k : Nat} {mi : List Nat}
theorem ars_len {c : DC} {Hs G H : Hp} {vs : List V} {ars : En} (S : Sat c Hs G H (vs.map some) ars) : ars.length = vs.length := by rw [S.ln, List.length_map]
theorem fn_XD (F : Fun K x qual st f fd) (S : FnScope N ps (defScope st)) {Fb : En → Re Fl}
    (hb : ∀ (cdv : Value) (A : Around) (outer : List Env) (s : Shared) (H : Hp) (E : XK) (Hin Hb : Hp) (ma : Nat → Addr), RoomG k (A.deeper (PyProof.Rows.envOfC qual (defScope st) s.heap.objs.size f cdv)) →
      PSs (cxOf (L2.CX P w) P w K mg base N qual (defScope st) f cdv A outer s H E) (defBody st) (tS ⟨K, mg, Hin, Hb, mi, ma⟩ E Fb)) :
    FnOkG P w K mg base (L2.CX P w) (k + 1) f fd ps (spX K mg mi RzD (dfXD mi ps.length N.length Fb)) := by
  refine fun_okG F S (fun vs H Q E ⟨Hs, G, ars, ma, Sa, hv, h⟩ => by
    unfold dfXD at h
    split at h
    · rename_i hl; rw [← hl, ars_len Sa]
    · exact h.elim) (fun cdv A outer s H vs Q E hr ⟨Hs, G, ars, ma, Sa, hv, h⟩ => ⟨_, hb cdv A outer s H E G Hs ma hr, Hs, G, _, satX Sa, ?_⟩)
  unfold dfXD at h
  split at h
  case isFalse => exact h.elim
  rename_i hl
  have hl2 : ps.length = vs.length := by rw [← hl, ars_len Sa]
  rw [hl2] at h
  cases hz : Fb (ars ++ List.replicate (N.length - vs.length) .no) with
  | bad => rw [hz] at h; exact h.elim
  | er e => rw [hz] at h; exact h.elim
  | ok fl =>
    rw [hz] at h
    cases fl with
    | nx δ => exact fun σ' Hs' H' s' S' => h .non Hs' H' s' (finS S' hv) .non
    | rt d δ => exact fun v σ' Hs' H' s' S' rv => h v Hs' H' s' (finS S' hv) rv
    | _ => exact h.elim
theorem fn_XF (F : Fun K x qual st f fd) (S : FnScope N ps (defScope st)) {Fb : En → Re Fl}
    (hb : ∀ (cdv : Value) (A : Around) (outer : List Env) (s : Shared) (H : Hp) (E : XK) (Hin Hb : Hp) (ma : Nat → Addr), RoomG k (A.deeper (PyProof.Rows.envOfC qual (defScope st) s.heap.objs.size f cdv)) →
      PSs (cxOf (L2.CX P w) P w K mg base N qual (defScope st) f cdv A outer s H E) (defBody st) (tS ⟨K, mg, Hin, Hb, mi, ma⟩ E Fb)) :
    FnOkG P w K mg base (L2.CX P w) (k + 1) f fd ps (spX K mg mi RzF (dfXF mi ps.length N.length Fb)) := by
  refine fun_okG F S (fun vs H Q E ⟨Hs, G, ars, ma, Sa, hv, h⟩ => by
    unfold dfXF at h
    split at h
    · rename_i hl; rw [← hl, ars_len Sa]
    · exact h.elim) (fun cdv A outer s H vs Q E hr ⟨Hs, G, ars, ma, Sa, hv, h⟩ => ⟨_, hb cdv A outer s H E G Hs ma hr, Hs, G, _, satX Sa, ?_⟩)
  unfold dfXF at h
  split at h
  case isFalse => exact h.elim
  rename_i hl
  have hl2 : ps.length = vs.length := by rw [← hl, ars_len Sa]
  rw [hl2] at h
  cases hz : Fb (ars ++ List.replicate (N.length - vs.length) .no) with
  | bad => rw [hz] at h; exact h.elim
  | er e => rw [hz] at h; exact h.elim
  | ok fl =>
    rw [hz] at h
    cases fl with
    | rf ds δ => exact fun p xs σ' Hs' H' s' S' L hx rx => h (.ref p) Hs' H' s' (finS S' hv) ⟨p, xs, rfl, finL S' hv L, hx, rx⟩
    | _ => exact h.elim
theorem fn_XF2 (F : Fun K x qual st f fd) (S : FnScope N ps (defScope st)) {Fb : En → Re Fl}
    (hb : ∀ (cdv : Value) (A : Around) (outer : List Env) (s : Shared) (H : Hp) (E : XK) (Hin Hb : Hp) (ma : Nat → Addr), RoomG k (A.deeper (PyProof.Rows.envOfC qual (defScope st) s.heap.objs.size f cdv)) →
      PSs (cxOf (L2.CX P w) P w K mg base N qual (defScope st) f cdv A outer s H E) (defBody st) (tS ⟨K, mg, Hin, Hb, mi, ma⟩ E Fb)) :
    FnOkG P w K mg base (L2.CX P w) (k + 1) f fd ps (spX K mg mi RzF2 (dfXF2 mi ps.length N.length Fb)) := by
  refine fun_okG F S (fun vs H Q E ⟨Hs, G, ars, ma, Sa, hv, h⟩ => by
    unfold dfXF2 at h
    split at h
    · rename_i hl; rw [← hl, ars_len Sa]
    · exact h.elim) (fun cdv A outer s H vs Q E hr ⟨Hs, G, ars, ma, Sa, hv, h⟩ => ⟨_, hb cdv A outer s H E G Hs ma hr, Hs, G, _, satX Sa, ?_⟩)
  unfold dfXF2 at h
  split at h
  case isFalse => exact h.elim
  rename_i hl
  have hl2 : ps.length = vs.length := by rw [← hl, ars_len Sa]
  rw [hl2] at h
  cases hz : Fb (ars ++ List.replicate (N.length - vs.length) .no) with
  | bad => rw [hz] at h; exact h.elim
  | er e => rw [hz] at h; exact h.elim
  | ok fl =>
    rw [hz] at h
    cases fl with
    | rf2 ds δ => exact fun p rs σ' Hs' H' s' S' L => h (.ref p) Hs' H' s' (finS S' hv) ⟨p, rs, rfl, fun a ha => finL S' hv (L.l a ha), L.nd, L.h, L.r⟩
    | _ => exact h.elim
end
end DL

/-! DL22: calls of defs that change any of their arguments -/
namespace DL
open PySem L2
/-- the arguments: a place with a name's slot (lent for changing), or data -/
inductive XV (K : PySem.W.Frag) (Hs : Hp) (σ : St) : List (Option Nat) → List V → List D → Prop
  | nil : XV K Hs σ [] [] []
  | d {sh : List (Option Nat)} {v : V} {vs : List V} {d : D} {ds : List D} : Rp K Hs v d → XV K Hs σ sh vs ds → XV K Hs σ (none :: sh) (v :: vs) (d :: ds)
  | o {sh : List (Option Nat)} {v : V} {vs : List V} {d : D} {ds : List D} {i : Nat} : σ[i]? = some (some v) → XV K Hs σ sh vs ds → XV K Hs σ (some i :: sh) (v :: vs) (d :: ds)
theorem xv_len {K : PySem.W.Frag} {Hs : Hp} {σ : St} : ∀ {sh : List (Option Nat)} {vs : List V} {ds : List D}, XV K Hs σ sh vs ds → vs.length = sh.length ∧ ds.length = sh.length
  | _, _, _, .nil => ⟨rfl, rfl⟩
  | _, _, _, .d _ h => ⟨congrArg (· + 1) (xv_len h).1, congrArg (· + 1) (xv_len h).2⟩
  | _, _, _, .o _ h => ⟨congrArg (· + 1) (xv_len h).1, congrArg (· + 1) (xv_len h).2⟩
theorem xv_mono {K : PySem.W.Frag} {Hs Hs' : Hp} {σ : St} (s : Same Hs Hs') : ∀ {sh : List (Option Nat)} {vs : List V} {ds : List D}, XV K Hs σ sh vs ds → XV K Hs' σ sh vs ds
  | _, _, _, .nil => .nil
  | _, _, _, .d r h => .d (dp_mono s r) (xv_mono s h)
  | _, _, _, .o e h => .o e (xv_mono s h)
theorem xv_o {K : PySem.W.Frag} {Hs : Hp} {σ : St} : ∀ {sh : List (Option Nat)} {vs : List V} {ds : List D} {j i : Nat}, XV K Hs σ sh vs ds → sh[j]? = some (some i) → ∃ v, vs[j]? = some v ∧ σ[i]? = some (some v)
  | _, _, _, 0, _, .o e h, z => by
    simp at z; subst z; exact ⟨_, rfl, e⟩
  | _, _, _, 0, _, .d r h, z => by simp at z
  | _, _, _, j + 1, i, .d _ h, z => by
    obtain ⟨v, a, b⟩ := xv_o (j := j) (i := i) h (by simpa using z)
    exact ⟨v, by simpa using a, b⟩
  | _, _, _, j + 1, i, .o _ h, z => by
    obtain ⟨v, a, b⟩ := xv_o (j := j) (i := i) h (by simpa using z)
    exact ⟨v, by simpa using a, b⟩
  | _, _, _, _, _, .nil, z => by simp at z
theorem xv_d {K : PySem.W.Frag} {Hs : Hp} {σ : St} : ∀ {sh : List (Option Nat)} {vs : List V} {ds : List D} {j : Nat}, XV K Hs σ sh vs ds → sh[j]? = some none → ∃ v d, vs[j]? = some v ∧ ds[j]? = some d ∧ Rp K Hs v d
  | _, _, _, 0, .d r h, z => ⟨_, _, rfl, rfl, r⟩
  | _, _, _, 0, .o e h, z => by simp at z
  | _, _, _, j + 1, .d _ h, z => by
    obtain ⟨v, d, a, b, r⟩ := xv_d (j := j) h (by simpa using z)
    exact ⟨v, d, by simpa using a, by simpa using b, r⟩
  | _, _, _, j + 1, .o _ h, z => by
    obtain ⟨v, d, a, b, r⟩ := xv_d (j := j) h (by simpa using z)
    exact ⟨v, d, by simpa using a, by simpa using b, r⟩
  | _, _, _, _, .nil, z => by simp at z
def arX : List (Option Nat) → List D → En → En
  | none :: sh, d :: ds, δ => .sh d :: arX sh ds δ
  | some i :: sh, _ :: ds, δ => δ.getD i .no :: arX sh ds δ
  | _, _, _ => []
def owA (sh : List (Option Nat)) (δ : En) : Bool := sh.all fun o => match o with
  | none => true
  | some i => ownd δ[i]?
def putX : List (Option Nat) → En → En → En
  | none :: sh, _ :: r, δ => putX sh r δ
  | some i :: sh, x :: r, δ => putX sh r (δ.set i x)
  | _, _, δ => δ
def miOf (sh : List (Option Nat)) : List Nat := (List.range sh.length).filter fun j => match sh[j]? with
  | some (some _) => true
  | _ => false
theorem mi_iff {sh : List (Option Nat)} {j : Nat} : j ∈ miOf sh ↔ ∃ i, sh[j]? = some (some i) := by
  unfold miOf
  rw [List.mem_filter, List.mem_range]
  constructor
  · rintro ⟨h1, h2⟩
    cases q : sh[j]? with
    | none => rw [q] at h2; cases h2
    | some o => cases o with
      | none => rw [q] at h2; cases h2
      | some i => exact ⟨i, rfl⟩
  · rintro ⟨i, e⟩
    exact ⟨(List.getElem?_eq_some_iff.mp e).1, by rw [e]⟩
theorem arX_at : ∀ {sh : List (Option Nat)} {ds : List D} {δ : En} {j : Nat}, ds.length = sh.length → (arX sh ds δ).length = sh.length ∧ ((sh[j]? = none → (arX sh ds δ)[j]? = none) ∧ (sh[j]? = some none → ∃ d, ds[j]? = some d ∧ (arX sh ds δ)[j]? = some (.sh d)) ∧ ∀ i, sh[j]? = some (some i) → (arX sh ds δ)[j]? = some (δ.getD i .no))
  | [], [], δ, j, _ => ⟨rfl, fun _ => by simp [arX], fun z => by simp at z, fun i z => by simp at z⟩
  | none :: sh, d :: ds, δ, 0, h => ⟨by simp only [arX, List.length_cons]; rw [(arX_at (δ := δ) (j := 0) (Nat.succ.inj h)).1], fun z => by simp at z, fun _ => ⟨d, rfl, rfl⟩, fun i z => by simp at z⟩
  | none :: sh, d :: ds, δ, j + 1, h => by
    have q := arX_at (δ := δ) (j := j) (Nat.succ.inj h)
    refine ⟨by simp only [arX, List.length_cons]; rw [q.1], fun z => ?_, fun z => ?_, fun i z => ?_⟩
    · simpa [arX] using q.2.1 (by simpa using z)
    · obtain ⟨d', a, b⟩ := q.2.2.1 (by simpa using z)
      exact ⟨d', by simpa using a, by simpa [arX] using b⟩
    · have := q.2.2.2 i (by simpa using z)
      simpa [arX] using this
  | some i0 :: sh, d :: ds, δ, 0, h => ⟨by simp only [arX, List.length_cons]; rw [(arX_at (δ := δ) (j := 0) (Nat.succ.inj h)).1], fun z => by simp at z, fun z => by simp at z, fun i z => by simp at z; subst z; rfl⟩
  | some i0 :: sh, d :: ds, δ, j + 1, h => by
    have q := arX_at (δ := δ) (j := j) (Nat.succ.inj h)
    refine ⟨by simp only [arX, List.length_cons]; rw [q.1], fun z => ?_, fun z => ?_, fun i z => ?_⟩
    · simpa [arX] using q.2.1 (by simpa using z)
    · obtain ⟨d', a, b⟩ := q.2.2.1 (by simpa using z)
      exact ⟨d', by simpa using a, by simpa [arX] using b⟩
    · have := q.2.2.2 i (by simpa using z)
      simpa [arX] using this
/-- the slots behind the call -/
theorem putX_at : ∀ {sh : List (Option Nat)} {r δ : En} {l : Nat}, r.length = sh.length → (∀ i, some i ∈ sh → i < δ.length) → (sh.filterMap id).Nodup → (putX sh r δ).length = δ.length ∧ ((l ∉ sh.filterMap id → (putX sh r δ)[l]? = δ[l]?) ∧ ∀ (j : Nat), sh[j]? = some (some l) → (putX sh r δ)[l]? = r[j]?)
  | [], [], δ, l, _, _, _ => ⟨rfl, fun _ => rfl, fun j z => by simp at z⟩
  | none :: sh, x :: r, δ, l, h, hb, nd => by
    have q := putX_at (δ := δ) (l := l) (Nat.succ.inj h) (fun i hi => hb i (List.mem_cons_of_mem _ hi)) (by simpa using nd)
    refine ⟨q.1, fun z => q.2.1 (by simpa using z), fun j z => ?_⟩
    cases j with
    | zero => simp at z
    | succ j => exact q.2.2 j (by simpa using z)
  | some i :: sh, x :: r, δ, l, h, hb, nd => by
    have nd' : i ∉ sh.filterMap id ∧ (sh.filterMap id).Nodup := by simpa using nd
    have hi : i < δ.length := hb i List.mem_cons_self
    have q := fun l => putX_at (δ := δ.set i x) (l := l) (Nat.succ.inj h) (fun i' hi' => by rw [List.length_set]; exact hb i' (List.mem_cons_of_mem _ hi')) nd'.2
    refine ⟨by show (putX sh r (δ.set i x)).length = _; rw [(q 0).1, List.length_set], fun z => ?_, fun j z => ?_⟩
    · have z' : l ≠ i ∧ l ∉ sh.filterMap id := by
        simp at z
        exact ⟨z.1, by simpa using z.2⟩
      show (putX sh r (δ.set i x))[l]? = _
      rw [(q l).2.1 z'.2, List.getElem?_set_ne (Ne.symm z'.1)]
    · cases j with
      | zero =>
        simp at z
        subst z
        show (putX sh r (δ.set i x))[i]? = _
        rw [(q i).2.1 nd'.1, List.getElem?_set_self hi]; rfl
      | succ j => exact (q l).2.2 j (by simpa using z)
def tX (c : DC) (E : XK) (sh : List (Option Nat)) (f : En → Re (List D × En)) : TA := fun σ H Q => ∃ Hs G δ, Sat c Hs G H σ δ ∧
  PoG c E Hs G (fun ds δ' Hs' H' => ∀ vs, Sat c Hs' G H' σ δ' → XV c.K Hs' σ sh vs ds → Q vs H') (f δ)
def eCx {α : Type} (sh : List (Option Nat)) (F : En → Re (α × En)) (fr : En → Re (List D × En)) : En → Re (α × En) := fun δ => (fr δ).bd fun p => if p.1.length = sh.length ∧ owA sh p.2 = true then nb (F (arX sh p.1 p.2)) fun q => if q.2.length = sh.length then .ok (q.1, putX sh q.2 p.2) else .bad else .bad
section
variable {X : Cx} {c : DC} {E : XK} {e : Expr} {es : List Expr} {pos p : Pos} {Hs Hs' G H H' : Hp} {σ : St} {δ : En} {i k : Nat} {x y : Str} {ps : List Str} {sh : List (Option Nat)} {fa : En → Re (D × En)} {fr : En → Re (List D × En)} {yp : Pos}
theorem dx_nil : PA X [] (tX c E [] (Pu pNil)) := PA.imp pa_nil fun σ H Q ⟨Hs, G, δ, S, q⟩ => q Hs H (Same.refl _) [] S .nil
theorem dx_d (h : PE X e (tD c E fa)) (h2 : PA X es (tX c E sh fr)) (hs : starEach (e :: es) X.env = (false, eval e X.env) :: starEach es X.env := by rfl) : PA X (e :: es) (tX c E (none :: sh) (eCons fa fr)) := PA.imp (pa_cons h h2 hs) fun σ H Q ⟨Hs, G, δ, S, q⟩ =>
  ⟨Hs, G, δ, S, PoG.seq q fun d δ1 Hs1 H1 s1 q1 v S1 r1 => ⟨Hs1, G, δ1, S1, PoG.seq q1 fun ds δ2 Hs2 H2 s2 q2 vs S2 r2 => q2 Hs2 H2 (Same.refl _) (v :: vs) S2 (.d (dp_mono s2 r1) r2)⟩⟩
def eXo (i : Nat) (fr : En → Re (List D × En)) : En → Re (List D × En) := fun δ => if ownd δ[i]? = true then (fr δ).bd fun p => .ok (.none :: p.1, p.2) else .bad
theorem own_ref {s : Sl} {v : Option (Option V)} (h : SlOk c Hs G H i v s) (ho : ownd (some s) = true) : ∃ r, v = some (some (.ref r)) := by
  cases s with
  | no => cases ho
  | sh d => cases ho
  | ow ds => obtain ⟨r, xs, e, _⟩ := h; exact ⟨r, e⟩
  | ow2 ds => obtain ⟨r, xs, e, _⟩ := h; exact ⟨r, e⟩
  | dk ds => obtain ⟨r, xs, e, _⟩ := h; exact ⟨r, e⟩
  | dt ds => cases ho
theorem dx_o (h : PE X (.Name y yp) (tVar i)) (h2 : PA X es (tX c E sh fr)) (hs : starEach (.Name y yp :: es) X.env = (false, eval (.Name y yp) X.env) :: starEach es X.env := by rfl) : PA X (.Name y yp :: es) (tX c E (some i :: sh) (eXo i fr)) := PA.imp (pa_cons h h2 hs) fun σ H Q ⟨Hs, G, δ, S, q⟩ => by
  unfold eXo at q
  split at q
  · rename_i ho
    cases hi : δ[i]? with
    | none => rw [hi] at ho; cases ho
    | some s =>
      rw [hi] at ho
      obtain ⟨r, e⟩ := own_ref (S.sl i s hi) ho
      exact ⟨.ref r, e, Hs, G, δ, S, PoG.seq q fun ds δ2 Hs2 H2 s2 q2 vs S2 r2 => q2 Hs2 H2 (Same.refl _) (.ref r :: vs) S2 (.o e r2)⟩
  · exact q.elim
/-! ### the call -/
theorem owA_at {sh : List (Option Nat)} {δ : En} (h : owA sh δ = true) {j i : Nat} (e : sh[j]? = some (some i)) : ownd δ[i]? = true := by
  have := List.all_eq_true.mp h (some i) (List.mem_of_getElem? e)
  exact this
/-- what is lent for changing -/
def FootX (sh : List (Option Nat)) (H : Hp) (σ : St) (δ : En) (a : Addr) : Prop := ∃ (j i : Nat) (s : Sl), sh[j]? = some (some i) ∧ δ[i]? = some s ∧ Foot H σ[i]? s a
noncomputable def gX (sh : List (Option Nat)) (H : Hp) (σ : St) (δ : En) : Hp := fun a => open Classical in if FootX sh H σ δ a then none else H a
theorem gX_some {a : Addr} {o : HO} : gX sh H σ δ a = some o ↔ ¬ FootX sh H σ δ a ∧ H a = some o := by
  unfold gX
  split
  · rename_i h; simp [h]
  · rename_i h; simp [h]
theorem gX_none {a : Addr} : gX sh H σ δ a = none ↔ FootX sh H σ δ a ∨ H a = none := by
  unfold gX
  split
  · rename_i h; simp [h]
  · rename_i h; simp [h]
theorem slot_inj {sh : List (Option Nat)} (nd : (sh.filterMap id).Nodup) : ∀ {j l i : Nat}, sh[j]? = some (some i) → sh[l]? = some (some i) → j = l := by
  induction sh with
  | nil => intro j l i h; simp at h
  | cons o sh ih =>
    intro j l i h1 h2
    cases o with
    | none =>
      cases j with
      | zero => simp at h1
      | succ j =>
        cases l with
        | zero => simp at h2
        | succ l => exact congrArg (· + 1) (ih (by simpa using nd) (j := j) (l := l) (i := i) (by simpa using h1) (by simpa using h2))
    | some i0 =>
      have nd' : i0 ∉ sh.filterMap id ∧ (sh.filterMap id).Nodup := by simpa using nd
      have out : ∀ {j : Nat}, sh[j]? = some (some i0) → False := fun {j} h => nd'.1 (List.mem_filterMap.mpr ⟨some i0, List.mem_of_getElem? h, rfl⟩)
      cases j with
      | zero =>
        cases l with
        | zero => rfl
        | succ l =>
          simp at h1 h2
          subst h1
          exact (out h2).elim
      | succ j =>
        cases l with
        | zero =>
          simp at h1 h2
          subst h2
          exact (out h1).elim
        | succ l => exact congrArg (· + 1) (ih nd'.2 (j := j) (l := l) (i := i) (by simpa using h1) (by simpa using h2))
/-- the frame of the callee -/
theorem Sat.toX {vs : List V} {ds : List D} {ma : Nat → Addr} (S : Sat c Hs G H σ δ) (nd : (sh.filterMap id).Nodup) (r : XV c.K Hs σ sh vs ds) (ho : owA sh δ = true) (hma : ∀ j, j ∈ miOf sh → vs[j]? = some (.ref (ma j))) :
    Sat ⟨c.K, c.mg, gX sh H σ δ, Hs, miOf sh, ma⟩ Hs (gX sh H σ δ) H (vs.map some) (arX sh ds δ) := by
  obtain ⟨lv, ld⟩ := xv_len r
  have key : ∀ (j : Nat) (t : Sl), (arX sh ds δ)[j]? = some t → (∃ v d, vs[j]? = some v ∧ t = .sh d ∧ Rp c.K Hs v d) ∨ ∃ i v, sh[j]? = some (some i) ∧ δ[i]? = some t ∧ vs[j]? = some v ∧ σ[i]? = some (some v) := fun j t h => by
    have q := arX_at (δ := δ) (j := j) ld
    cases hs : sh[j]? with
    | none => rw [q.2.1 hs] at h; cases h
    | some o => cases o with
      | none =>
        obtain ⟨d, a, b⟩ := q.2.2.1 hs
        rw [b] at h
        cases h
        obtain ⟨v, d', a1, a2, a3⟩ := xv_d r hs
        rw [a] at a2
        cases a2
        exact .inl ⟨v, d, a1, rfl, a3⟩
      | some i =>
        have b := q.2.2.2 i hs
        rw [b] at h
        injection h with h
        obtain ⟨v, a1, a2⟩ := xv_o r hs
        have ow := owA_at ho hs
        refine .inr ⟨i, v, rfl, ?_, a1, a2⟩
        rw [List.getD_eq_getElem?_getD] at h
        cases hq : δ[i]? with
        | none => rw [hq] at ow; cases ow
        | some u => rw [hq] at h; simp at h; rw [h]
  refine ⟨⟨Same.refl _, S.sh, fun a o e => (gX_some.mp e).2, fun a o e => .inl e, fun a o e => ⟨o, (gX_some.mp e).2⟩, fun a o o' e _ => ⟨o, e⟩⟩, ?_, fun j t h => ?_, fun j l t u a ne h1 h2 f1 f2 => ?_⟩
  · rw [(arX_at (δ := δ) (j := 0) ld).1, List.length_map, lv]
  · rcases key j t h with ⟨v, d, e1, rfl, rv⟩ | ⟨i, v, e1, e2, e3, e4⟩
    · exact ⟨v, by rw [List.getElem?_map, e1]; rfl, rv⟩
    · rw [List.getElem?_map, e3]
      show SlOk _ _ _ _ j (some (some v)) t
      have ok := S.sl i t e2
      rw [e4] at ok
      refine slok_to ok (fun a f => ?_) rfl fun r0 z hm => ?_
      · have f' : Foot H σ[i]? t a := by rw [e4]; exact f
        have fx : gX sh H σ δ a = none := gX_none.mpr (.inl ⟨j, i, t, e1, e2, f'⟩)
        exact ⟨(foot_own (S.sl i t e2) f').1.1, fx, fx⟩
      · have := hma j hm
        rw [e3] at this
        cases this
        cases z
        rfl
  · rcases key j t h1 with ⟨v, d, e1, rfl, rv⟩ | ⟨i, v, e1, e2, e3, e4⟩
    · exact foot_sh f1
    · rcases key l u h2 with ⟨v2, d, g1, rfl, rv⟩ | ⟨i2, v2, g1, g2, g3, g4⟩
      · exact foot_sh f2
      · rw [List.getElem?_map, e3] at f1
        rw [List.getElem?_map, g3] at f2
        have ne2 : i ≠ i2 := fun z => by subst z; exact ne (slot_inj nd e1 g1)
        exact S.sp i i2 t u a ne2 e2 g2 (by rw [e4]; exact f1) (by rw [g4]; exact f2)
/-- .. and back -/
theorem Sat.ofX {vs : List V} {ds : List D} {ma : Nat → Addr} {ars : En} (S : Sat c Hs G H σ δ) (nd : (sh.filterMap id).Nodup) (r : XV c.K Hs σ sh vs ds) (ho : owA sh δ = true) (hma : ∀ j, j ∈ miOf sh → vs[j]? = some (.ref (ma j))) (hl : ars.length = sh.length)
    (s : Same Hs Hs') (S' : Sat ⟨c.K, c.mg, gX sh H σ δ, Hs, miOf sh, ma⟩ Hs' (gX sh H σ δ) H' (vs.map some) ars) : Sat c Hs' G H' σ (putX sh ars δ) ∧ ∀ p, Loose ⟨c.K, c.mg, gX sh H σ δ, Hs, miOf sh, ma⟩ Hs' (gX sh H σ δ) H' (vs.map some) ars p → Loose c Hs' G H' σ (putX sh ars δ) p := by
  obtain ⟨lv, ld⟩ := xv_len r
  have bound : ∀ i, some i ∈ sh → i < δ.length := fun i hi => by
    obtain ⟨j, hj⟩ := List.mem_iff_getElem?.mp hi
    have ow := owA_at ho hj
    cases hq : δ[i]? with
    | none => rw [hq] at ow; cases ow
    | some u => exact (List.getElem?_eq_some_iff.mp hq).1
  have pa := fun l => putX_at (l := l) hl bound nd
  have own : ∀ a, FootX sh H σ δ a → Ow3 c Hs G a := fun a ⟨j, i, t, e1, e2, f⟩ => (foot_own (S.sl i t e2) f).1
  -- what is not lent is kept
  have kept : ∀ a o, ¬ FootX sh H σ δ a → H a = some o → H' a = some o := fun a o n e => S'.gm a o (gX_some.mpr ⟨n, e⟩)
  have noG : ∀ a, gX sh H σ δ a = none → G a = none ∧ c.Hin a = none := fun a e => by
    rcases gX_none.mp e with z | z
    · exact ⟨(own a z).2.1, (own a z).2.2⟩
    · exact ⟨Sat.fresh_G S.toFrm z, Sat.fresh_in S.toFrm z⟩
  have frm : Frm c Hs' G H' := by
    refine ⟨S.bs.trans s, S'.sh, fun a o e => ?_, fun a o e => ?_, fun a o e => ?_, fun a o o' e e' => ?_⟩
    · refine kept a o (fun z => ?_) (S.gm a o e)
      rw [(own a z).2.1] at e; cases e
    · rcases S'.nw a o e with z | z
      · exact S.nw a o z
      · exact .inr (noG a z).2
    · obtain ⟨o', e'⟩ := S.hin a o e
      refine ⟨o', kept a o' (fun z => ?_) e'⟩
      rw [(own a z).2.2] at e; cases e
    · rcases S'.nw a o' e' with z | z
      · exact S.gs a o o' e z
      · rw [(noG a z).1] at e; cases e
  -- the slots
  have cases_ : ∀ (l : Nat) (t : Sl), (putX sh ars δ)[l]? = some t → (∃ j v, sh[j]? = some (some l) ∧ ars[j]? = some t ∧ vs[j]? = some v ∧ σ[l]? = some (some v)) ∨ ((∀ j, sh[j]? ≠ some (some l)) ∧ δ[l]? = some t) := fun l t h => by
    by_cases hm : l ∈ sh.filterMap id
    · obtain ⟨o, ho2, e⟩ := List.mem_filterMap.mp hm
      obtain ⟨j, hj⟩ := List.mem_iff_getElem?.mp ho2
      have e' : o = some l := e
      rw [e'] at hj
      obtain ⟨v, a1, a2⟩ := xv_o r hj
      rw [(pa l).2.2 j hj] at h
      exact .inl ⟨j, v, hj, h, a1, a2⟩
    · rw [(pa l).2.1 hm] at h
      exact .inr ⟨fun j z => hm (List.mem_filterMap.mpr ⟨some l, List.mem_of_getElem? z, rfl⟩), h⟩
  have out : ∀ (l : Nat) (t : Sl) (b : Addr), (∀ j, sh[j]? ≠ some (some l)) → δ[l]? = some t → Foot H σ[l]? t b → ¬ FootX sh H σ δ b := fun l t b n e f ⟨j, i, u, e1, e2, f2⟩ => by
    have ne : l ≠ i := fun z => by subst z; exact n j e1
    exact S.sp l i t u b ne e e2 f f2
  have keep1 : ∀ (l : Nat) (t : Sl), (∀ j, sh[j]? ≠ some (some l)) → δ[l]? = some t → ∀ b o, Foot H σ[l]? t b → H b = some o → H' b = some o := fun l t n e b o f z => kept b o (out l t b n e f) z
  have gOut : ∀ (l : Nat) (t : Sl) (b : Addr), (∀ j, sh[j]? ≠ some (some l)) → δ[l]? = some t → Foot H' σ[l]? t b → ∃ o, gX sh H σ δ b = some o := fun l t b n e f => by
    have f' := foot_keep (S.sl l t e) (fun b o f z => keep1 l t n e b o f z) f
    obtain ⟨_, o, z⟩ := foot_own (S.sl l t e) f'
    exact ⟨o, gX_some.mpr ⟨out l t b n e f', z⟩⟩
  have gIn : ∀ (j : Nat) (t : Sl) (v : V) (b : Addr), ars[j]? = some t → vs[j]? = some v → Foot H' (some (some v)) t b → gX sh H σ δ b = none := fun j t v b e1 e2 f => by
    have ok := S'.sl j t e1
    rw [List.getElem?_map, e2] at ok
    exact (foot_own ok f).1.2.1
  refine ⟨⟨frm, ?_, fun l t h => ?_, fun l l2 t t2 b ne h1 h2 f1 f2 => ?_⟩, fun p L => ⟨L.s, (noG p L.g).1, (noG p L.g).2, fun l t h f => ?_⟩⟩
  · rw [(pa 0).1]; exact S.ln
  · rcases cases_ l t h with ⟨j, v, e1, e2, e3, e4⟩ | ⟨n, e⟩
    · have ok := S'.sl j t e2
      rw [List.getElem?_map, e3] at ok
      rw [e4]
      refine slok_to ok (fun a f => ?_) rfl fun r0 z hm => ?_
      · have w := (foot_own ok f).1
        exact ⟨w.1, (noG a w.2.1).1, (noG a w.2.1).2⟩
      · have ow := owA_at ho e1
        cases hq : δ[l]? with
        | none => rw [hq] at ow; cases ow
        | some u =>
          rw [hq] at ow
          have := own_val (S.sl l u hq) ow hm
          rw [e4] at this
          rw [z] at this
          injection this with this
          injection this with this
          injection this
    · exact slok_keep (S.sl l t e) s (fun b o f z => keep1 l t n e b o f z) (fun b f => by
        obtain ⟨w, o, z⟩ := foot_own (S.sl l t e) f
        cases q : Hs' b with
        | none => rfl
        | some u =>
          rcases S'.nw b u q with y | y
          · exact absurd ((show Hs b = some u from y).symm.trans w.1) (by simp)
          · have := gX_some.mpr ⟨out l t b n e f, z⟩
            rw [show gX sh H σ δ b = none from y] at this; cases this) fun b f => (foot_own (S.sl l t e) f).1.2.1
  · rcases cases_ l t h1 with ⟨j, v, e1, e2, e3, e4⟩ | ⟨n, e⟩
    · rw [e4] at f1
      rcases cases_ l2 t2 h2 with ⟨j2, v2, g1, g2, g3, g4⟩ | ⟨n2, g⟩
      · rw [g4] at f2
        have nj : j ≠ j2 := fun z => by
          subst z
          rw [e1] at g1
          injection g1 with g1
          injection g1 with g1
          exact ne g1
        exact S'.sp j j2 t t2 b nj e2 g2 (by rw [List.getElem?_map, e3]; exact f1) (by rw [List.getElem?_map, g3]; exact f2)
      · obtain ⟨o, z⟩ := gOut l2 t2 b n2 g f2
        rw [gIn j t v b e2 e3 f1] at z; cases z
    · rcases cases_ l2 t2 h2 with ⟨j2, v2, g1, g2, g3, g4⟩ | ⟨n2, g⟩
      · rw [g4] at f2
        obtain ⟨o, z⟩ := gOut l t b n e f1
        rw [gIn j2 t2 v2 b g2 g3 f2] at z; cases z
      · have a1 := foot_keep (S.sl l t e) (fun b o f z => keep1 l t n e b o f z) f1
        have a2 := foot_keep (S.sl l2 t2 g) (fun b o f z => keep1 l2 t2 n2 g b o f z) f2
        exact S.sp l l2 t t2 b ne e g a1 a2
  · rcases cases_ l t h with ⟨j, v, e1, e2, e3, e4⟩ | ⟨n, e⟩
    · rw [e4] at f
      exact L.f j t e2 (by rw [List.getElem?_map, e3]; exact f)
    · obtain ⟨o, z⟩ := gOut l t p n e f
      rw [L.g] at z; cases z
theorem v_cx {α : Type} {R : DC → Hp → Hp → Hp → St → En → α → V → Prop} {F : En → Re (α × En)} {W : α → En → Hp → Hp → Prop} {vs : List V} {ds : List D} {Q : VK} {mi : List Nat} (hmi : miOf sh = mi) (nd : (sh.filterMap id).Nodup) (S : Sat c Hs G H σ δ) (r : XV c.K Hs σ sh vs ds)
    (h : PoG c E Hs G W (if ds.length = sh.length ∧ owA sh δ = true then nb (F (arX sh ds δ)) fun q => if q.2.length = sh.length then .ok (q.1, putX sh q.2 δ) else .bad else .bad))
    (w : ∀ (a : α) (ars : En) (ma : Nat → Addr) (v : V) (Hs' H' : Hp), Same Hs Hs' → Sat c Hs' G H' σ (putX sh ars δ) → (∀ p, Loose ⟨c.K, c.mg, gX sh H σ δ, Hs, mi, ma⟩ Hs' (gX sh H σ δ) H' (vs.map some) ars p → Loose c Hs' G H' σ (putX sh ars δ) p) →
      R ⟨c.K, c.mg, gX sh H σ δ, Hs, mi, ma⟩ Hs' (gX sh H σ δ) H' (vs.map some) ars a v → W a (putX sh ars δ) Hs' H' → Q v H') : spX c.K c.mg mi R F vs H Q E := by
  subst hmi
  split at h
  · rename_i hc
    obtain ⟨hl, ho⟩ := hc
    obtain ⟨lv, ld⟩ := xv_len r
    have ex : ∀ j, ∃ a : Addr, j ∈ miOf sh → vs[j]? = some (.ref a) := fun j => by
      by_cases hm : j ∈ miOf sh
      · obtain ⟨i, e⟩ := mi_iff.mp hm
        obtain ⟨v, a1, a2⟩ := xv_o r e
        have ow := owA_at ho e
        cases hq : δ[i]? with
        | none => rw [hq] at ow; cases ow
        | some u =>
          rw [hq] at ow
          obtain ⟨a, z⟩ := own_ref (S.sl i u hq) ow
          rw [a2] at z
          cases z
          exact ⟨a, fun _ => a1⟩
      · exact ⟨0, fun z => absurd z hm⟩
    obtain ⟨ma, hma⟩ := Classical.axiomOfChoice ex
    refine ⟨Hs, gX sh H σ δ, arX sh ds δ, ma, S.toX nd r ho hma, hma, ?_⟩
    cases hz : F (arX sh ds δ) with
    | bad => rw [hz] at h; exact h.elim
    | er e => rw [hz] at h; exact h.elim
    | ok q =>
      obtain ⟨a, ars⟩ := q
      rw [hz] at h
      simp only [nb_ok] at h
      split at h
      · rename_i hla
        intro v Hs' H' s S' rv
        obtain ⟨S2, L2⟩ := S.ofX nd r ho hma hla s S'
        exact w a ars ma v Hs' H' s S2 L2 rv (h Hs' H' s)
      · exact h.elim
  · exact h.elim
variable {mi : List Nat}
theorem de_cxD {F : En → Re (D × En)} (hD : Dn X.prog X.w X.K X.mg X.base k x ps (spX X.K X.mg mi RzD F)) (hr : RoomG k X.A) (hg : Gl X x) (hmi : miOf sh = mi) (nd : (sh.filterMap id).Nodup) (hK : c.K = X.K) (hM : c.mg = X.mg)
    (ha : PA X (e :: es) (tX c E sh fr)) (hdb : (x == ("__debug__" : Str)) = false := by decide) (he : starEach (e :: es) X.env = (false, eval e X.env) :: starEach es X.env := by rfl) (hpl : (backTo pos (starEach es X.env)).any (·.1) = false := by rfl) :
    PE X (.Call (.Name x p) (e :: es) [] pos) (tD c E (eCx sh F fr)) := by
  obtain ⟨f, fd, Fo, hm, hk, hb⟩ := hD.ex
  refine PE.imp (pe_callG Fo hr hg hm hk hb .nil passN ha hdb he hpl) fun σ H Q ⟨Hs, G, δ, S, q⟩ => ⟨Hs, G, δ, S, PoG.seq q fun ds δ1 Hs1 H1 s1 q1 vs S1 r1 => ?_⟩
  show spX X.K X.mg mi RzD F (vs ++ []) H1 Q _
  rw [List.append_nil, ← hK, ← hM]
  exact v_cx (E := E) hmi nd S1 r1 q1 fun a ars ma v Hs' H' s S2 L rv wv => wv v S2 rv
theorem de_cxF {F : En → Re (List D × En)} (hD : Dn X.prog X.w X.K X.mg X.base k x ps (spX X.K X.mg mi RzF F)) (hr : RoomG k X.A) (hg : Gl X x) (hmi : miOf sh = mi) (nd : (sh.filterMap id).Nodup) (hK : c.K = X.K) (hM : c.mg = X.mg)
    (ha : PA X (e :: es) (tX c E sh fr)) (hdb : (x == ("__debug__" : Str)) = false := by decide) (he : starEach (e :: es) X.env = (false, eval e X.env) :: starEach es X.env := by rfl) (hpl : (backTo pos (starEach es X.env)).any (·.1) = false := by rfl) :
    PE X (.Call (.Name x p) (e :: es) [] pos) (tF c E (eCx sh F fr)) := by
  obtain ⟨f, fd, Fo, hm, hk, hb⟩ := hD.ex
  refine PE.imp (pe_callG Fo hr hg hm hk hb .nil passN ha hdb he hpl) fun σ H Q ⟨Hs, G, δ, S, q⟩ => ⟨Hs, G, δ, S, PoG.seq q fun ds δ1 Hs1 H1 s1 q1 vs S1 r1 => ?_⟩
  show spX X.K X.mg mi RzF F (vs ++ []) H1 Q _
  rw [List.append_nil, ← hK, ← hM]
  exact v_cx (E := E) hmi nd S1 r1 q1 fun a ars ma v Hs' H' s S2 L ⟨p2, xs, e1, L1, h1, rx⟩ wv => by
    subst e1
    exact wv p2 xs S2 (L p2 L1) h1 rx
theorem de_cxF2 {F : En → Re (List (List D) × En)} (hD : Dn X.prog X.w X.K X.mg X.base k x ps (spX X.K X.mg mi RzF2 F)) (hr : RoomG k X.A) (hg : Gl X x) (hmi : miOf sh = mi) (nd : (sh.filterMap id).Nodup) (hK : c.K = X.K) (hM : c.mg = X.mg)
    (ha : PA X (e :: es) (tX c E sh fr)) (hdb : (x == ("__debug__" : Str)) = false := by decide) (he : starEach (e :: es) X.env = (false, eval e X.env) :: starEach es X.env := by rfl) (hpl : (backTo pos (starEach es X.env)).any (·.1) = false := by rfl) :
    PE X (.Call (.Name x p) (e :: es) [] pos) (tF2 c E (eCx sh F fr)) := by
  obtain ⟨f, fd, Fo, hm, hk, hb⟩ := hD.ex
  refine PE.imp (pe_callG Fo hr hg hm hk hb .nil passN ha hdb he hpl) fun σ H Q ⟨Hs, G, δ, S, q⟩ => ⟨Hs, G, δ, S, PoG.seq q fun ds δ1 Hs1 H1 s1 q1 vs S1 r1 => ?_⟩
  show spX X.K X.mg mi RzF2 F (vs ++ []) H1 Q _
  rw [List.append_nil, ← hK, ← hM]
  exact v_cx (E := E) hmi nd S1 r1 q1 fun a ars ma v Hs' H' s S2 L ⟨p2, rs, e1, L1⟩ wv => by
    subst e1
    exact wv p2 rs S2 ⟨fun a ha => L a (L1.l a ha), L1.nd, L1.h, L1.r⟩
end
end DL

/-! DL23: a new list of new lists, then as stable data -/
namespace DL
open PySem L2
section
variable {X : Cx} {c : DC} {E : XK} {e : Expr} {Hs Hs' G H H' : Hp} {σ : St} {δ δ' : En} {i : Nat}
theorem Sat.freezeAll : ∀ {as : List Addr} {Hs : Hp}, Sat c Hs G H σ δ → as.Nodup → (∀ a ∈ as, Loose c Hs G H σ δ a ∧ ∃ o, H a = some o) → ∃ Hs', Same Hs Hs' ∧ Sat c Hs' G H σ δ ∧ ∀ a ∈ as, Hs' a = H a
  | [], Hs, S, _, _ => ⟨Hs, Same.refl _, S, fun a h => by cases h⟩
  | a :: as, Hs, S, nd, hl => by
    obtain ⟨L, o, ho⟩ := hl a List.mem_cons_self
    have nd' := List.nodup_cons.mp nd
    obtain ⟨Hs', s, S', e⟩ := Sat.freezeAll (S.freeze L ho) nd'.2 fun b hb => by
      obtain ⟨Lb, ob⟩ := hl b (List.mem_cons_of_mem _ hb)
      refine ⟨⟨?_, Lb.g, Lb.i, Lb.f⟩, ob⟩
      have hne : b ≠ a := fun z => nd'.1 (by rw [← z]; exact hb)
      rw [upd_ne hne]; exact Lb.s
    refine ⟨Hs', (same_new L.s).trans s, S', fun b hb => ?_⟩
    rcases List.mem_cons.mp hb with rfl | hb
    · rw [ho]; exact s b o upd_same
    · exact e b hb
theorem paired_some {K : PySem.W.Frag} : ∀ {rs : List Addr} {dss : List (List D)}, Paired (RowL K Hs H) rs dss → ∀ a ∈ rs, ∃ o, H a = some o
  | _, _, .cons ⟨xs, e, _⟩ h, a, ha => by
    rcases List.mem_cons.mp ha with rfl | ha
    · exact ⟨_, e⟩
    · exact paired_some h a ha
theorem rows_rp {K : PySem.W.Frag} (s : Same Hs Hs') : ∀ {rs : List Addr} {dss : List (List D)}, Paired (RowL K Hs H) rs dss → (∀ a ∈ rs, Hs' a = H a) → RpAll K Hs' (rs.map V.ref) (dss.map .list)
  | _, _, .nil, _ => .nil
  | _, _, .cons ⟨xs, e, r⟩ h, q => .cons (.lst (SqL.of ((q _ List.mem_cons_self).trans e)) (dpa_mono s r)) (rows_rp s h fun a ha => q a (List.mem_cons_of_mem _ ha))
theorem de_fz2 {f : En → Re (List (List D) × En)} (h : PE X e (tF2 c E f)) : PE X e (tD c E (fz2 f)) := PE.imp h fun σ H Q ⟨Hs, G, δ, S, q⟩ => ⟨Hs, G, δ, S, PoG.seq q fun dss δ1 Hs1 H1 s1 q1 p rs S1 L => by
  obtain ⟨Hs2, s2, S2, e2⟩ := Sat.freezeAll S1 L.nd fun a ha => ⟨L.l a ha, by
    rcases List.mem_cons.mp ha with rfl | ha
    · exact ⟨_, L.h⟩
    · exact paired_some L.r a ha⟩
  exact q1 Hs2 H1 s2 (.ref p) S2 (.lst (SqL.of ((e2 p List.mem_cons_self).trans L.h)) (rows_rp s2 L.r fun a ha => e2 a (List.mem_cons_of_mem _ ha)))⟩
def pFz2 (f : En → Re (List (List D))) : En → Re D := fun δ => (f δ).bd fun d => .ok (.list (d.map .list))
theorem fz2_pu (f : En → Re (List (List D))) : fz2 (Pu f) = Pu (pFz2 f) := by
  funext δ; unfold fz2 Pu pFz2; cases f δ <;> rfl
theorem uFz2 {f : En → Re (List (List D))} (h : PE X e (tF2 c E (Pu f))) : PE X e (tD c E (Pu (pFz2 f))) := fz2_pu f ▸ de_fz2 h
/-- a test over lent lists -/
def borT (is : List Nat) (f : En → Re Bool) : En → Re Bool := fun δ => match f (lend is δ) with
  | .ok b => .ok b
  | _ => .bad
theorem de_borT {is : List Nat} {f : En → Re Bool} (h : PT X e (tT c E (Pu f))) : PT X e (tT c E (Pu (borT is f))) := PT.imp h fun σ H Q ⟨Hs, G, δ, S, q⟩ => by
  refine ⟨_, _, _, (S.lent is).1, ?_⟩
  unfold Pu borT at q
  unfold Pu
  cases hz : f (lend is δ) with
  | bad => rw [hz] at q; exact q.elim
  | er e => rw [hz] at q; exact q.elim
  | ok d =>
    simp only [hz] at q
    exact fun Hs' H' s' S' => q _ H' (S.unlend s' S'.toFrm).2 (S.unlend s' S'.toFrm).1
end
end DL

/-! DL24: owned dicts: y = {}, y = {k: v for ..}, y[k] = v, y[k], k in y -/
namespace DL
open PySem L2
def keyOf : D → Option Key
  | .int i => some (.inl i)
  | .str s => some (.inr s)
  | _ => none
def valD (kvs : List (Key × D)) (k : Key) : Option D := (kvs.find? fun kv => decide (kv.1 = k)).map (·.2)
def putD (kvs : List (Key × D)) (k : Key) (v : D) : List (Key × D) :=
  if (kvs.any fun kv => decide (kv.1 = k)) = true then kvs.map (fun kv => if kv.1 = k then (kv.1, v) else kv) else kvs ++ [(k, v)]
def tdk : Option Sl → Re (List (Key × D))
  | some (.dk kvs) => .ok kvs
  | _ => .bad
theorem tdk_ok {s : Option Sl} {kvs : List (Key × D)} (h : tdk s = .ok kvs) : s = some (.dk kvs) := by
  unfold tdk at h
  split at h
  · cases h; rfl
  · cases h
@[simp] theorem tdk_dk (kvs : List (Key × D)) : tdk (some (.dk kvs)) = .ok kvs := (rfl)
theorem tdk_cases (s : Option Sl) : tdk s = .bad ∨ ∃ kvs, s = some (.dk kvs) := by
  unfold tdk
  split
  · exact .inr ⟨_, rfl⟩
  · exact .inl rfl
theorem key_rp {K : PySem.W.Frag} {H : Hp} {v : V} {d : D} {k : Key} (r : Rp K H v d) (h : keyOf d = some k) : v = kV k := by
  cases r <;> first | (cases h; rfl) | cases h
section
variable {K : PySem.W.Frag} {Hs : Hp}
theorem kvd_any {ks : List (Key × V)} {kvs : List (Key × D)} (h : KVd K Hs ks kvs) (k : Key) : (ks.any fun kv => decide (kv.1 = k)) = kvs.any fun kv => decide (kv.1 = k) := by
  induction h with
  | nil => rfl
  | cons h1 h2 ih => rw [List.any_cons, List.any_cons, ih, h1.1]
theorem kvd_map {ks : List (Key × V)} {kvs : List (Key × D)} (h : KVd K Hs ks kvs) {k : Key} {v : V} {d : D} (r : Rp K Hs v d) : KVd K Hs (ks.map fun kv => if kv.1 = k then (kv.1, v) else kv) (kvs.map fun kv => if kv.1 = k then (kv.1, d) else kv) := by
  induction h with
  | nil => exact .nil
  | @cons p q ks kvs h1 h2 ih =>
    refine .cons ?_ ih
    show (if p.1 = k then (p.1, v) else p).1 = (if q.1 = k then (q.1, d) else q).1 ∧ Rp K Hs (if p.1 = k then (p.1, v) else p).2 (if q.1 = k then (q.1, d) else q).2
    rw [← h1.1]
    split
    · exact ⟨rfl, r⟩
    · exact h1
theorem kvd_app {ks : List (Key × V)} {kvs : List (Key × D)} (h : KVd K Hs ks kvs) {k : Key} {v : V} {d : D} (r : Rp K Hs v d) : KVd K Hs (ks ++ [(k, v)]) (kvs ++ [(k, d)]) := by
  induction h with
  | nil => exact .cons ⟨rfl, r⟩ .nil
  | cons h1 h2 ih => exact .cons h1 ih
theorem kvd_put {ks : List (Key × V)} {kvs : List (Key × D)} (h : KVd K Hs ks kvs) {k : Key} {v : V} {d : D} (r : Rp K Hs v d) : KVd K Hs (putK ks k v) (putD kvs k d) := by
  unfold putK putD
  rw [kvd_any h k]
  split
  · exact kvd_map h r
  · exact kvd_app h r
theorem kvd_val {ks : List (Key × V)} {kvs : List (Key × D)} (h : KVd K Hs ks kvs) (k : Key) : (valV ks k = none ∧ valD kvs k = none) ∨ ∃ v d, valV ks k = some v ∧ valD kvs k = some d ∧ Rp K Hs v d := by
  induction h with
  | nil => exact .inl ⟨rfl, rfl⟩
  | @cons p q ks kvs h1 h2 ih =>
    by_cases e : p.1 = k
    · refine .inr ⟨p.2, q.2, valV_pos e, ?_, h1.2⟩
      simp [valD, List.find?_cons, ← h1.1, e]
    · rw [valV_neg e]
      have : valD (q :: kvs) k = valD kvs k := by simp [valD, List.find?_cons, ← h1.1, e]
      rw [this]; exact ih
theorem kvd_mono {Hs' : Hp} (s : Same Hs Hs') {ks : List (Key × V)} {kvs : List (Key × D)} (h : KVd K Hs ks kvs) : KVd K Hs' ks kvs := by
  induction h with
  | nil => exact .nil
  | cons h1 h2 ih => exact .cons ⟨h1.1, dp_mono s h1.2⟩ ih
end
section
variable {X : Cx} {c : DC} {E : XK} {e b a : Expr} {pos : Pos} {Hs Hs' G H H' : Hp} {σ : St} {δ δ' : En} {i k : Nat} {x : Str} {xp : Pos}
theorem Sat.writeDk {l : Addr} {ks : List (Key × V)} {kvs es : List (Key × D)} (S : Sat c Hs G H σ δ) (hi : δ[i]? = some (.dk kvs)) (ha : σ[i]? = some (some (.ref l))) (r : KVd c.K Hs ks es) : Sat c Hs G (upd H l (.dK ks)) σ (δ.set i (.dk es)) := by
  obtain ⟨r', ys, e1, h1, h2, h3⟩ := S.sl i _ hi
  rw [ha] at e1
  cases e1
  refine S.write (s' := .dk es) hi (by rw [ha]; rfl) ⟨l, ks, ha, upd_same, r, h3⟩ (fun b f => .inl ?_)
  rw [ha] at f ⊢
  exact f
/-- y = {} -/
def nwS (i : Nat) : En → Re Fl := fun δ => .ok (.nx (δ.set i (.dk [])))
theorem ds_newD {pos' : Pos} (hm : i ∉ c.mi) (hN : X.N.Nodup) (hi : X.N[i]? = some x) (hx : Loc X.env.scope x) (hs : swapsWith (.Dict [] [] pos') (some (.Name x xp)) pos.line X.env = pure false := by rfl) (hf : X.fn x = true ∨ X.env.scope.names.lookup x = some .local := by first | exact .inl rfl | exact .inr rfl | assumption) :
    PS X (.Assign [.Name x xp] (.Dict [] [] pos') pos) (tS c E (nwS i)) := PS.imp (ps_set hN hi hx pe_dnewK hs hf) fun σ H De ⟨Hs, G, δ, S, q⟩ p hp =>
  q _ Hs _ (Same.refl _) ((S.loose hp).setDk hm (S.loose_of hp) upd_same .nil)
/-- y[k] -/
def pDg (i : Nat) (fi : En → Re D) : En → Re D := fun δ => (tdk δ[i]?).bd fun kvs => (fi δ).bd fun q => opt ((keyOf q).bind (valD kvs))
theorem e_dg {fi : En → Re D} (hr : RoomG k X.A) (hx : PE X (.Name x xp) (tVar i)) (hb : PE X b (tD c E (Pu fi))) (hK : c.K = X.K := by rfl) (hs : NoSl b := by exact fun _ _ => rfl) : PE X (.Subscript (.Name x xp) b pos) (tD c E (Pu (pDg i fi))) :=
  PE.imp (pe_dget (by have := room65 hr; omega) hx hb hs) fun σ H Q ⟨Hs, G, δ, S, q⟩ => by
    unfold Pu pDg at q
    rcases tdk_cases δ[i]? with z | ⟨kvs, hi⟩
    · rw [z] at q; exact q.elim
    · rw [hi] at q
      simp only [tdk_dk, Re.bd_ok] at q
      obtain ⟨l, ks, e1, h1, r1, w1⟩ := S.sl i _ hi
      refine ⟨.ref l, e1, Hs, G, δ, S, ?_⟩
      unfold Pu
      cases hz : fi δ with
      | bad => rw [hz] at q; exact q
      | er e => rw [hz] at q; exact q
      | ok d =>
        rw [hz] at q
        simp only [Re.bd_ok] at q
        refine PoG.of_ok fun Hs1 H1 s1 v S1 rv => ?_
        obtain ⟨l', ys, e2, h2, r2, _⟩ := S1.sl i _ hi
        rw [e1] at e2
        cases e2
        cases hk : keyOf d with
        | none => rw [hk] at q; exact q.elim
        | some z =>
          rw [hk] at q
          rcases kvd_val r2 z with ⟨_, n2⟩ | ⟨w, dv, n1, n2, rw'⟩
          · rw [Option.bind_some, n2] at q; exact q.elim
          · rw [Option.bind_some, n2] at q
            have ek := key_rp rv hk
            subst ek
            refine ⟨l, w, rfl, ?_, q Hs1 H1 s1 w S1 rw'⟩
            rw [← n1]
            exact DGet.k h2
/-- k in y, k not in y -/
def pDin (neg : Bool) (fi : En → Re D) (i : Nat) : En → Re D := fun δ => (tdk δ[i]?).bd fun kvs => (fi δ).bd fun q => (opt (keyOf q)).bd fun z => .ok (.bool (xor neg (valD kvs z).isSome))
theorem v_din {neg : Bool} {fi : En → Re D} {Q : VK} (h : tD c E (Pu (pDin neg fi i)) σ H Q) : tD c E (Pu fi) σ H fun y H1 => tVar i σ H1 fun x H2 => ∃ l o, x = .ref l ∧ DGet H2 l y o ∧ Q (.bl (xor neg o.isSome)) H2 := by
  obtain ⟨Hs, G, δ, S, q⟩ := h
  unfold Pu pDin at q
  rcases tdk_cases δ[i]? with z | ⟨kvs, hi⟩
  · rw [z] at q; exact q.elim
  · rw [hi] at q
    simp only [tdk_dk, Re.bd_ok] at q
    refine ⟨Hs, G, δ, S, ?_⟩
    unfold Pu
    cases hz : fi δ with
    | bad => rw [hz] at q; exact q
    | er e => rw [hz] at q; exact q
    | ok d =>
      rw [hz] at q
      simp only [Re.bd_ok] at q
      refine PoG.of_ok fun Hs1 H1 s1 v S1 rv => ?_
      obtain ⟨l', ys, e2, h2, r2, _⟩ := S1.sl i _ hi
      cases hk : keyOf d with
      | none => rw [hk] at q; exact q.elim
      | some z =>
        rw [hk] at q
        have ek := key_rp rv hk
        subst ek
        refine ⟨.ref l', e2, l', valV ys z, rfl, DGet.k h2, ?_⟩
        have en : (valV ys z).isSome = (valD kvs z).isSome := by
          rcases kvd_val r2 z with ⟨n1, n2⟩ | ⟨w, dv, n1, n2, _⟩ <;> rw [n1, n2] <;> rfl
        rw [en]
        exact q Hs1 H1 s1 _ S1 (.bl _)
theorem e_din {fi : En → Re D} (hr : RoomG k X.A) (ha : PE X a (tD c E (Pu fi))) (hx : PE X (.Name x xp) (tVar i)) (hK : c.K = X.K := by rfl) : PE X (.Compare a [.In] [.Name x xp] pos) (tD c E (Pu (pDin false fi i))) :=
  PE.imp (pe_cmp (pc_din (by have := room65 hr; omega) ha hx)) fun σ H Q h => by
    have q := v_din h
    simp only [Bool.false_xor] at q
    exact q
theorem e_dnin {fi : En → Re D} (hr : RoomG k X.A) (ha : PE X a (tD c E (Pu fi))) (hx : PE X (.Name x xp) (tVar i)) (hK : c.K = X.K := by rfl) : PE X (.Compare a [.NotIn] [.Name x xp] pos) (tD c E (Pu (pDin true fi i))) :=
  PE.imp (pe_cmp (pc_dnotin (by have := room65 hr; omega) ha hx)) fun σ H Q h => by
    have q := v_din h
    simp only [Bool.true_xor] at q
    exact q
theorem t_din {fi : En → Re D} (hr : RoomG k X.A) (ha : PE X a (tD c E (Pu fi))) (hx : PE X (.Name x xp) (tVar i)) (hK : c.K = X.K := by rfl) : PT X (.Compare a [.In] [.Name x xp] pos) (tT c E (eTe (Pu (pDin false fi i)))) :=
  PT.imp (pt_cmp (pc_din (by have := room65 hr; omega) ha hx)) fun σ H Q h => by
    have q := v_din (Q := fun x H' => ∃ k, x = .bl k ∧ Q k H') (v_te h)
    simp only [Bool.false_xor] at q
    exact q
theorem t_dnin {fi : En → Re D} (hr : RoomG k X.A) (ha : PE X a (tD c E (Pu fi))) (hx : PE X (.Name x xp) (tVar i)) (hK : c.K = X.K := by rfl) : PT X (.Compare a [.NotIn] [.Name x xp] pos) (tT c E (eTe (Pu (pDin true fi i)))) :=
  PT.imp (pt_cmp (pc_dnotin (by have := room65 hr; omega) ha hx)) fun σ H Q h => by
    have q := v_din (Q := fun x H' => ∃ k, x = .bl k ∧ Q k H') (v_te h)
    simp only [Bool.true_xor] at q
    exact q
/-- y[k] = v -/
def dpS (j : Nat) (fi fe : En → Re (D × En)) : En → Re Fl := fun δ => (fe δ).bd fun p => (tdk p.2[j]?).bd fun _ => (fi p.2).bd fun q => (tdk q.2[j]?).bd fun kvs => (opt (keyOf q.1)).bd fun z => if kvs.length < 1000000 then .ok (.nx (q.2.set j (.dk (putD kvs z p.1)))) else .bad
theorem kvd_len {K : PySem.W.Frag} {ks : List (Key × V)} {kvs : List (Key × D)} (h : KVd K Hs ks kvs) : ks.length = kvs.length := by
  induction h with
  | nil => rfl
  | cons _ _ ih => simp [ih]
theorem ds_dput {j : Nat} {fi fe : En → Re (D × En)} {ix : Expr} {spos : Pos} (hr : RoomG k X.A) (hx : PE X (.Name x xp) (tVar j)) (hi : PE X ix (tD c E fi)) (he : PE X e (tD c E fe))
    (hs : swapsWith e (some (.Subscript (.Name x xp) ix spos)) pos.line X.env = pure false := by rfl) : PS X (.Assign [.Subscript (.Name x xp) ix spos] e pos) (tS c E (dpS j fi fe)) :=
  PS.imp (ps_dput (by have := room65 hr; omega) hx hi he hs) fun σ H De ⟨Hs, G, δ, S, q⟩ => ⟨Hs, G, δ, S, PoS.seq q fun d δ1 Hs1 H1 s1 q1 v S1 r1 => by
    simp only at q1
    rcases tdk_cases δ1[j]? with z | ⟨kvs0, hk⟩
    · rw [z] at q1; exact q1.elim
    · rw [hk] at q1
      simp only [tdk_dk, Re.bd_ok] at q1
      obtain ⟨l, xs0, e1, h1, _, _⟩ := S1.sl j _ hk
      refine ⟨.ref l, e1, Hs1, G, δ1, S1, PoS.seq q1 fun di δ2 Hs2 H2 s2 q2 iv S2 r2 => ?_⟩
      simp only at q2
      rcases tdk_cases δ2[j]? with z | ⟨kvs, hk2⟩
      · rw [z] at q2; exact q2.elim
      · rw [hk2] at q2
        simp only [tdk_dk, Re.bd_ok] at q2
        obtain ⟨l', ks, e2, h2, r3, _⟩ := S2.sl j _ hk2
        rw [e1] at e2
        cases e2
        cases hz : keyOf di with
        | none => rw [hz] at q2; exact q2.elim
        | some z =>
          rw [hz] at q2
          simp only [opt_some, Re.bd_ok] at q2
          split at q2
          · rename_i hlen
            have ek := key_rp r2 hz
            subst ek
            exact ⟨l, _, rfl, DPut.k h2 (by rw [kvd_len r3]; exact Nat.lt_of_lt_of_le hlen (million (Nat.le_refl _))), q2 σ Hs2 _ (Same.refl _) (S2.writeDk hk2 e1 (kvd_put r3 (dp_mono s2 r1)))⟩
          · exact q2.elim⟩
end
end DL

/-! DL25: y = {k: v for ..} -/
namespace DL
open PySem L2
def ePr (fk fv : En → Re (D × En)) : En → Re (D × En) := fun δ => (fk δ).bd fun p => (fv p.2).bd fun q => .ok (.tuple [p.1, q.1], q.2)
def dictFrom : List (Key × D) → List D → Option (List (Key × D))
  | a, [] => some a
  | a, .tuple [k, v] :: r => (keyOf k).bind fun z => dictFrom (putD a z v) r
  | _, _ => none
def tDk (c : DC) (E : XK) (f : En → Re (List (Key × D) × En)) : TE := fun σ H Q => ∃ Hs G δ, Sat c Hs G H σ δ ∧
  PoG c E Hs G (fun kvs δ' Hs' H' => ∀ p ks, Sat c Hs' G H' σ δ' → Loose c Hs' G H' σ δ' p → H' p = some (.dK ks) → KVd c.K Hs' ks kvs → Q (.ref p) H') (f δ)
def eDk (f : En → Re (List D × En)) : En → Re (List (Key × D) × En) := fun δ => (f δ).bd fun p => (opt (dictFrom [] p.1)).bd fun kvs => .ok (kvs, p.2)
section
variable {c : DC} {E : XK} {fi : En → Re (List D × En)} {vs ts : List Nat} {g : D → En → Option En} {t : En → Re (Bool × En)} {fk fv : En → Re (D × En)}
theorem v_dc (hn : vs.Nodup) (hm : ∀ v ∈ vs, v ∉ c.mi) (ht : ∀ t ∈ ts, t ∈ vs) {σ : St} {H : Hp} {Q : VK} (h : tDk c E (eDk (eLc fi vs g t (ePr fk fv))) σ H Q) : tDc (tI c E fi) (tG c ts g) (tT c E0 t) (tD c E0 fk) (tD c E0 fv) vs σ H Q := by
  obtain ⟨Hs, G, δ, S, q⟩ := h
  unfold eDk at q
  have q0 : PoG c E Hs G (fun kvs δ' Hs' H' => ∀ p ks, Sat c Hs' G H' σ δ' → Loose c Hs' G H' σ δ' p → H' p = some (.dK ks) → KVd c.K Hs' ks kvs → Q (.ref p) H') ((fi δ).bd fun p => (if p.1.length ≤ 1000000 ∧ chk p.2 vs = true then nb (lcL vs g t (ePr fk fv) p.1 (wp p.2 vs)) fun q => .ok (q.1, rs p.2 q.2 vs) else .bad).bd fun p => (opt (dictFrom [] p.1)).bd fun kvs => .ok (kvs, p.2)) := by
    unfold eLc at q
    cases hz : fi δ with
    | bad => rw [hz] at q; exact q
    | er e => rw [hz] at q; exact q
    | ok p => rw [hz] at q; exact q
  refine ⟨Hs, G, δ, S, PoG.seq q0 fun ds δ1 Hs1 H1 s1 q1 J S1 it D hD => ?_⟩
  simp only at q1
  split at q1
  · rename_i hc
    obtain ⟨hlen, hck⟩ := hc
    rcases lcL_ne (vs := vs) (g := g) (t := t) (f := ePr fk fv) ds (wp δ1 vs) with e | ⟨r, hr⟩
    · rw [e] at q1; exact q1.elim
    · rw [hr] at q1
      obtain ⟨R, δF⟩ := r
      simp only [nb_ok, Re.bd_ok] at q1
      cases hro : dictFrom [] R with
      | none => rw [hro] at q1; exact q1.elim
      | some RR =>
      rw [hro] at q1
      simp only [opt_some, Re.bd_ok] at q1
      have hIn : c.Hin D = none := Sat.fresh_in S1.toFrm hD
      have hG : G D = none := Sat.fresh_G S1.toFrm hD
      refine ⟨fun i m H => m = ds.length - i ∧ i ≤ ds.length ∧ ∃ Hs2 δ2 kvs ks r, Same Hs1 Hs2 ∧ Sat c Hs2 (upd G D (.dK ks)) H (wipe σ vs) δ2 ∧ KVd c.K Hs2 ks kvs ∧ ks.length ≤ i ∧ lcL vs g t (ePr fk fv) (ds.drop i) δ2 = .ok (r, δF) ∧ dictFrom kvs r = some RR,
        ⟨ds.length, by simp, Nat.zero_le _, Hs1, wp δ1 vs, [], [], R, Same.refl _, (S1.hide hD).wipe hm, .nil, Nat.le_refl _, by simpa using hr, hro⟩, ?_⟩
      rintro i m H2 ⟨rfl, hi, Hs2, δ2, kvs, ks, r, s2, S2, ra, hxl, hl, hR⟩
      by_cases hlt : i < ds.length
      · right
        obtain ⟨hgo, hstep⟩ := (it Hs2 _ H2 _ δ2 s2 S2).1 i ds[i] (by simp [hlt])
        rw [List.drop_eq_getElem_cons hlt] at hl
        unfold lcL at hl
        refine ⟨hgo, _, fun H' n => ⟨ds.length - (i + 1), by omega, n⟩, fun x H' y => ?_⟩
        obtain ⟨Hs3, s3, S3, r3⟩ := hstep x H' y
        cases hg : g ds[i] δ2 with
        | none => rw [hg] at hl; cases hl
        | some δ3 =>
          rw [hg] at hl
          refine ⟨Hs3, _, δ2, ds[i], δ3, S3, r3, hg, fun σ3 S4 w => ⟨?_, ?_⟩⟩
          · rw [w vs ht, wipe_idem]
          · have w' : wipe σ3 vs = wipe σ vs := by rw [w vs ht, wipe_idem]
            refine ⟨Hs3, _, δ3, S4, ?_⟩
            simp only at hl
            cases htt : t δ3 with
            | bad => rw [htt] at hl; cases hl
            | er e => rw [htt] at hl; cases hl
            | ok p =>
              rw [htt, nb_ok] at hl
              obtain ⟨b, δ5⟩ := p
              refine PoG.of_ok fun Hs5 H5 s5 S5 => ?_
              simp only at hl
              cases b with
              | true =>
                show if true = true then _ else _
                rw [if_pos rfl]
                simp only [ePr] at hl
                refine ⟨Hs5, _, δ5, S5, ?_⟩
                cases hf : fk δ5 with
                | bad => rw [hf] at hl; cases hl
                | er e => rw [hf] at hl; cases hl
                | ok p =>
                  rw [hf] at hl
                  obtain ⟨d6, δ6⟩ := p
                  simp only [Re.bd_ok] at hl
                  refine PoG.of_ok fun Hs6 H6 s6 y S6 r6 => ?_
                  refine ⟨Hs6, _, δ6, S6, ?_⟩
                  cases hv : fv δ6 with
                  | bad => rw [hv] at hl; cases hl
                  | er e => rw [hv] at hl; cases hl
                  | ok p =>
                    rw [hv] at hl
                    obtain ⟨d7, δ7⟩ := p
                    simp only [Re.bd_ok, nb_ok] at hl
                    refine PoG.of_ok fun Hs7 H7 s7 z S7 r7 => ?_
                    rcases lcL_ne (vs := vs) (g := g) (t := t) (f := ePr fk fv) (ds.drop (i + 1)) (wp δ7 vs) with e | ⟨r2, hr2⟩
                    · rw [e] at hl; cases hl
                    · rw [hr2, nb_ok] at hl
                      obtain ⟨r3', δ8⟩ := r2
                      cases hl
                      unfold dictFrom at hR
                      cases hk : keyOf d6 with
                      | none => rw [hk] at hR; cases hR
                      | some zk =>
                        rw [hk, Option.bind_some] at hR
                        refine ⟨ks, zk, key_rp r6 hk, S7.gm _ _ upd_same, Nat.lt_of_le_of_lt hxl (Nat.lt_of_lt_of_le hlt (million hlen)), rfl, hlt, ?_⟩
                        refine ⟨Hs7, wp δ7 vs, putD kvs zk d7, putK ks zk z, r3', (((s2.trans s3).trans s5).trans s6).trans s7, ?_, kvd_put (kvd_mono (((s3.trans s5).trans s6).trans s7) ra) r7, Nat.le_trans (length_putK _ _ _) (Nat.succ_le_succ hxl), hr2, hR⟩
                        rw [← w']
                        have S8 := (S7.regrow (o' := .dK (putK ks zk z)) upd_same hIn).wipe hm
                        rw [upd_upd] at S8
                        exact S8
              | false =>
                show if false = true then _ else _
                rw [if_neg Bool.false_ne_true]
                simp only at hl
                refine ⟨rfl, hlt, Hs5, wp δ5 vs, kvs, ks, r, (s2.trans s3).trans s5, ?_, kvd_mono (s3.trans s5) ra, Nat.le_succ_of_le hxl, hl, hR⟩
                rw [← w']
                exact S5.wipe hm
      · left
        have e : i = ds.length := by omega
        subst e
        refine ⟨(it Hs2 _ H2 _ δ2 s2 S2).2 _ (Nat.le_refl _), ?_⟩
        rw [List.drop_length] at hl
        cases hl
        cases hR
        have S3 := Sat.unwipe S1 s2 hn hck hm S2
        have sg : Same G (upd G D (.dK ks)) := same_new hG
        refine q1 Hs2 H2 s2 D ks (S3.weakG sg) ⟨?_, hG, hIn, fun j s hj fo => ?_⟩ (S3.gm _ _ upd_same) ra
        · cases z : Hs2 D with
          | none => rfl
          | some u =>
            obtain ⟨o, ho⟩ := S3.gs D _ u upd_same z
            rw [hIn] at ho; cases ho
        · have := (foot_own (S3.sl j s hj) fo).1.2.1
          rw [upd_same] at this
          cases this
  · exact q1.elim
variable {X : Cx}
theorem ps_setDc {i : Nat} {y : Str} {py : Pos} {kx vx tg iter : Expr} {ifs : List Expr} {scope : Scope} {own : List (Str × Nat)} {pos spos : Pos} {wi : TI} {g : TG} {tt : TT} {tk tv : TE} (hc : X.calm = true) (hN : X.N.Nodup) (hy : X.N[i]? = some y) (hyl : X.env.scope.names.lookup y = some .local)
    (hsw : swapsWith (.DictComp kx vx [⟨tg, iter, ifs, 0⟩] scope pos) (some (.Name y py)) spos.line X.env = pure true) (hi : PI X tg iter wi) (ok : BlkOk X.N X.env.scope scope own)
    (hg : ∀ (s : Shared) (H : Hp) (C : Addr) (cl : List (Str × Addr)) (fp : List Addr), PG (X.blk s H scope (compEnvC scope cl C X.env) fp) tg g) (ht : ∀ (s : Shared) (H : Hp) (C : Addr) (cl : List (Str × Addr)) (fp : List Addr), PTs (X.blk s H scope (compEnvC scope cl C X.env) fp) ifs tt)
    (hk : ∀ (s : Shared) (H : Hp) (C : Addr) (cl : List (Str × Addr)) (fp : List Addr), PE (X.blk s H scope (compEnvC scope cl C X.env) fp) kx tk)
    (he : ∀ (s : Shared) (H : Hp) (C : Addr) (cl : List (Str × Addr)) (fp : List Addr), PE (X.blk s H scope (compEnvC scope cl C X.env) fp) vx tv) (hs : ∀ x, foldedSetIterable iter X.env x = pure x := by intro _; rfl) :
    PS X (.Assign [.Name y py] (.DictComp kx vx [⟨tg, iter, ifs, 0⟩] scope pos) spos) (tAsg (tDc wi g tt tk tv (own.map (·.2))) (gName i)) := by
  refine ⟨fun pins s σ H D I h => ?_⟩
  rw [exec_Assign_Name_used _ _ _ _ hsw]
  refine wpAny_bind (wpAny_standAt (wpAny_bind ?_))
  show wpAny _ X.A (do let _ ← comprehension (.DictComp kx vx [⟨tg, iter, ifs, 0⟩] scope pos) scope X.env (firstIterPos [⟨tg, iter, ifs, 0⟩] pos) newDict false (eval iter X.env) (some (assign (.Name y py) X.env))) _ _ s
  have h : tDc wi g tt tk tv (own.map (·.2)) σ H (fun x H1 => gName i x σ H1 D.nx) := h
  refine wpAny_bind (thn (dc_core (Qf := fun _ s' => SP X pins D .next s') hc hN I hi ok hg ht hk he hs h fun L C s' m H' I' q hn f => ?_) fun _ s' hq => wpAny_pure (wpAny_pure hq))
  show wpAny _ _ (assign (.Name y py) X.env (.ref L)) _ _ _
  refine wpAny_assign_Name (store_ok2 (v := V.ref L) I' hN hy (.inl hyl) rfl (fun s2 I2 ⟨a, sb, ha⟩ => ?_) (.inr hyl))
  obtain ⟨f0, f1, f2, f3, f4, f5⟩ := f
  have haC : C ≠ a := by
    rcases ha with z | z
    · rw [z]; exact f1
    · exact fun e => f4 y a z e.symm
  refine ⟨m, hn.sameBut sb haC, fun h3 sb3 => ?_⟩
  exact ⟨_, H', I2.turned (t' := s2.toks) (fun b o hb e => (sb3.2 b hb).trans e) f0 f1 f3 f4 f5, q⟩
theorem sw_trueD {kx vx : Expr} {gs : List Comprehension} {scope : Scope} {pos py : Pos} {y : Str} {l : Nat} {env : Env} (hk : env.scope.kind = .function) (hy : env.scope.names.lookup y = some .local) (hl : (py.line == pos.line) = true)
    (ha : (scope.names.any fun (n, k) => n == y && (k == .local || k == .cell)) = false) : swapsWith (.DictComp kx vx gs scope pos) (some (.Name y py)) l env = pure true := by
  have ky : env.kindOf y = some .local := hy
  have hb : env.blockKind = .function := by unfold Env.blockKind; rw [hk]; rfl
  unfold swapsWith
  simp only [hb, ky, ha, Expr.pos, hl]
  rfl
def dcS (i : Nat) (f : En → Re (List (Key × D) × En)) : En → Re Fl := fun δ => (f δ).bd fun p => .ok (.nx (p.2.set i (.dk p.1)))
theorem ds_setDc {i : Nat} {y : Str} {py : Pos} {kx vx tg iter : Expr} {ifs : List Expr} {scope : Scope} {own : List (Str × Nat)} {pos spos : Pos} (hmi : i ∉ c.mi) (hc : X.calm = true) (hN : X.N.Nodup) (hy : X.N[i]? = some y) (hyl : X.env.scope.names.lookup y = some .local)
    (hsw : swapsWith (.DictComp kx vx [⟨tg, iter, ifs, 0⟩] scope pos) (some (.Name y py)) spos.line X.env = pure true) (hn : (own.map (·.2)).Nodup) (hm : ∀ v ∈ own.map (·.2), v ∉ c.mi) (hts : ∀ t ∈ ts, t ∈ own.map (·.2)) (hi : PI X tg iter (tI c E fi)) (ok : BlkOk X.N X.env.scope scope own)
    (hg : ∀ (s : Shared) (H : Hp) (C : Addr) (cl : List (Str × Addr)) (fp : List Addr), PG (X.blk s H scope (compEnvC scope cl C X.env) fp) tg (tG c ts g)) (ht : ∀ (s : Shared) (H : Hp) (C : Addr) (cl : List (Str × Addr)) (fp : List Addr), PTs (X.blk s H scope (compEnvC scope cl C X.env) fp) ifs (tT c E0 t))
    (hk : ∀ (s : Shared) (H : Hp) (C : Addr) (cl : List (Str × Addr)) (fp : List Addr), PE (X.blk s H scope (compEnvC scope cl C X.env) fp) kx (tD c E0 fk))
    (he : ∀ (s : Shared) (H : Hp) (C : Addr) (cl : List (Str × Addr)) (fp : List Addr), PE (X.blk s H scope (compEnvC scope cl C X.env) fp) vx (tD c E0 fv)) (hs : ∀ x, foldedSetIterable iter X.env x = pure x := by intro _; rfl) :
    PS X (.Assign [.Name y py] (.DictComp kx vx [⟨tg, iter, ifs, 0⟩] scope pos) spos) (tS c E (dcS i (eDk (eLc fi (own.map (·.2)) g t (ePr fk fv))))) := PS.imp (ps_setDc hc hN hy hyl hsw hi ok hg ht hk he hs) fun σ H De h =>
  v_dc hn hm hts (Q := fun x H1 => gName i x σ H1 De.nx) (by
    obtain ⟨Hs, G, δ, S, q⟩ := h
    exact ⟨Hs, G, δ, S, PoS.seq q fun kvs δ1 Hs1 H1 s1 q1 p ks S1 L h1 r1 => q1 _ Hs1 H1 (Same.refl _) (S1.setDk hmi L h1 r1)⟩)
end
def pPr (fk fv : En → Re D) : En → Re D := fun δ => (fk δ).bd fun p => (fv δ).bd fun q => .ok (.tuple [p, q])
theorem ePr_pu (fk fv : En → Re D) : ePr (Pu fk) (Pu fv) = Pu (pPr fk fv) := by
  funext δ
  unfold ePr Pu pPr
  cases fk δ with
  | ok d =>
    simp only [Re.bd_ok]
    cases fv δ <;> rfl
  | _ => rfl
end DL

/-! DL26: l.index(x); x[i], x[j] = a, b -/
namespace DL
open PySem L2
def ixD (d : D) : List D → Option Nat
  | [] => none
  | z :: r => if PyData.eqv z d = true then some 0 else (ixD d r).map (· + 1)
theorem ixD_spec {d : D} : ∀ {ds : List D} {j : Nat}, ixD d ds = some j → ∃ z, ds[j]? = some z ∧ PyData.eqv z d = true ∧ ∀ (m : Nat) (z' : D), m < j → ds[m]? = some z' → PyData.eqv z' d = false
  | [], j, h => by cases h
  | z :: r, j, h => by
    unfold ixD at h
    split at h
    · rename_i e
      cases h
      exact ⟨z, rfl, e, fun m z' hm => absurd hm (Nat.not_lt_zero m)⟩
    · rename_i e
      obtain ⟨k, hk, rfl⟩ := Option.map_eq_some_iff.mp h
      obtain ⟨w, h1, h2, h3⟩ := ixD_spec hk
      refine ⟨w, h1, h2, fun m z' hm hz => ?_⟩
      cases m with
      | zero =>
        simp at hz
        subst hz
        exact Bool.eq_false_iff.mpr e
      | succ m => exact h3 m z' (by omega) hz
def gIdx (ds : List D) (d : D) : Option D := if (SeqAt.shaped (.list ds) && SeqAt.shaped d) = true then (ixD d ds).map fun j => .int (j : Nat) else none
def lstO : D → Option (List D)
  | .list ds => some ds
  | _ => none
def eIdx (fo fe : En → Re (D × En)) : En → Re (D × En) := fun δ => (fo δ).bd fun p => (opt (lstO p.1)).bd fun ds => (fe p.2).bd fun q => (opt (gIdx ds q.1)).bd fun d => .ok (d, q.2)
def pIdx (fo fe : En → Re D) : En → Re D := fun δ => (fo δ).bd fun p => (opt (lstO p)).bd fun ds => (fe δ).bd fun q => opt (gIdx ds q)
theorem eIdx_pu (fo fe : En → Re D) : eIdx (Pu fo) (Pu fe) = Pu (pIdx fo fe) := by
  funext δ
  unfold eIdx Pu pIdx
  cases fo δ with
  | ok d =>
    simp only [Re.bd_ok]
    cases lstO d with
    | none => rfl
    | some ds =>
      simp only [opt_some, Re.bd_ok]
      cases fe δ with
      | ok y =>
        simp only [Re.bd_ok]
      | bad => rfl
      | er e => rfl
  | bad => rfl
  | er e => rfl
def pairOf : D → Option (D × D)
  | .tuple [a, b] => some (a, b)
  | _ => none
theorem pairOf_some {d : D} {p : D × D} (h : pairOf d = some p) : d = .tuple [p.1, p.2] := by
  unfold pairOf at h
  split at h
  · cases h; rfl
  · cases h
def tow : Option Sl → Re (List D)
  | some (.ow ds) => .ok ds
  | _ => .bad
@[simp] theorem tow_ow (ds : List D) : tow (some (.ow ds)) = .ok ds := (rfl)
theorem tow_cases (s : Option Sl) : tow s = .bad ∨ ∃ ds, s = some (.ow ds) := by
  unfold tow
  split
  · exact .inr ⟨_, rfl⟩
  · exact .inl rfl
def ixI (n : Nat) : D → Option Nat
  | .int i => ixN n i
  | _ => none
theorem ixI_some {n j : Nat} {d : D} (h : ixI n d = some j) : ∃ i, d = .int i ∧ ixN n i = some j := by
  unfold ixI at h
  split at h
  · exact ⟨_, rfl, h⟩
  · cases h
section
variable {X : Cx} {c : DC} {E : XK} {e o : Expr} {pos tpos p1 p2 : Pos} {Hs Hs' G H H' : Hp} {σ : St} {δ δ' : En} {i k : Nat} {x : Str} {xp xp' : Pos} {fo fe : En → Re (D × En)}
theorem e_index {apos : Pos} (hr : RoomG k X.A) (ho : PE X o (tD c E fo)) (he : PE X e (tD c E fe)) (hK : c.K = X.K := by rfl)
    (hbase : attributeBase o "index" X.env (eval o X.env) = eval o X.env := by rfl)
    (hfew : ((backTo pos (starEach [e] X.env)).all (fun x => !x.1) && (backToKw pos (keywordEach [] X.env)).all (fun x => x.1.isSome)
      && decide ([e].length + ([] : List Keyword).length + (if ([] : List Keyword).isEmpty then 0 else 1) < 30)) = true := by rfl)
    (hline : (apos.endLine == pos.line) = true := by rfl) (hs : starEach [e] X.env = (false, eval e X.env) :: starEach [] X.env := by rfl) (hplain : (backTo pos (starEach [] X.env)).any (·.1) = false := by rfl) :
    PE X (.Call (.Attribute o "index" apos) [e] [] pos) (tD c E (eIdx fo fe)) :=
  PE.imp (pe_bm PySem.F.plainAttrs_list PySem.F.slot_list_index PySem.F.type_list_index (mt_indexD (by have := room65 hr; omega)) ho (da_cons (c := c) (E := E) he da_nil hs) hbase hfew hline hs hplain) fun σ H Q ⟨Hs, G, δ, S, q⟩ => ⟨Hs, G, δ, S, PoG.seq q fun d δ1 Hs1 H1 s1 q1 v S1 r1 => by
    cases r1 with
    | @lst a xs ds h1 r1 =>
      refine ⟨.inl ⟨rfl, xs, by rw [← hK]; exact same_l S1.sh h1⟩, Hs1, G, δ1, S1, ?_⟩
      unfold eCons
      simp only [lstO, opt_some, Re.bd_ok] at q1
      cases hz : fe δ1 with
      | bad => rw [hz] at q1; exact q1.elim
      | er e => rw [hz] at q1; exact q1
      | ok p =>
        rw [hz] at q1
        obtain ⟨dy, δ2⟩ := p
        obtain ⟨d, hd, q3⟩ := PoG.last (k := fun d => (d, δ2)) q1
        show PoG c E Hs1 G _ (.ok ([dy], δ2))
        refine PoG.of_ok fun Hs2 H2 s2 vs S2 r2 => ?_
        cases r2 with
        | cons ry rn =>
          cases rn
          unfold gIdx at hd
          split at hd
          · rename_i hsh
            rw [Bool.and_eq_true] at hsh
            obtain ⟨j, hj, rfl⟩ := Option.map_eq_some_iff.mp hd
            obtain ⟨z, z1, z2, z3⟩ := ixD_spec hj
            refine ⟨a, _, dy, ds, j, z, rfl, rfl, ?_, ?_, hsh.1, hsh.2, z1, z2, z3, ?_⟩
            · rw [← hK]; exact (dp_mono (s2.trans S2.sh) (Rp.lst h1 r1)).dp (shp_nd hsh.1)
            · rw [← hK]; exact (dp_mono S2.sh ry).dp (shp_nd hsh.2)
            · exact q3 Hs2 H2 s2 _ S2 (.int _)
          · cases hd
    | _ => exact False.elim q1⟩
theorem uIdx {fo fe : En → Re D} (h : PE X e (tD c E (eIdx (Pu fo) (Pu fe)))) : PE X e (tD c E (Pu (pIdx fo fe))) := eIdx_pu fo fe ▸ h
/-- x[i], x[j] = e -/
def swS (k : Nat) (f1 f2 : En → Re D) (fe : En → Re (D × En)) : En → Re Fl := fun δ => (fe δ).bd fun p => (opt (pairOf p.1)).bd fun d => (tow p.2[k]?).bd fun ds => (f1 p.2).bd fun x1 => (opt (ixI ds.length x1)).bd fun j =>
  (f2 (p.2.set k (.ow (ds.set j d.1)))).bd fun x2 => (opt (ixI ds.length x2)).bd fun j2 => .ok (.nx (p.2.set k (.ow ((ds.set j d.1).set j2 d.2))))
theorem ds_swap {k n : Nat} {f1 f2 : En → Re D} {i1 i2 : Expr} (hc : X.calm = true) (hx : PE X (.Name x xp) (tVar k)) (hx' : PE X (.Name x xp') (tVar k)) (h1 : PE X i1 (tD c E (Pu f1))) (h2 : PE X i2 (tD c E (Pu f2))) (he : PE X e (tD c E fe)) (hK : c.K = X.K := by rfl)
    (hs : swapsWithSole [.Tuple [.Subscript (.Name x xp) i1 p1, .Subscript (.Name x xp') i2 p2] n tpos] e pos.line X.env = pure false := by rfl) (hw : swappedStores [.Tuple [.Subscript (.Name x xp) i1 p1, .Subscript (.Name x xp') i2 p2] n tpos] e X.env = pure none := by rfl)
    (h0 : (assignEach [.Tuple [.Subscript (.Name x xp) i1 p1, .Subscript (.Name x xp') i2 p2] n tpos] X.env).map (·.2) = [assign (.Tuple [.Subscript (.Name x xp) i1 p1, .Subscript (.Name x xp') i2 p2] n tpos) X.env] := by rfl)
    (ha1 : ∀ v, assign (.Subscript (.Name x xp) i1 p1) X.env v = (do
      let ov ← holding [v] (eval (.Name x xp) X.env)
      let iv ← holding [v, ov] (eval i1 X.env)
      standAt p1
      holding [v, ov, iv] (setItem ov iv v)
      release [v, ov, iv] []) := by intro _; rfl)
    (ha2 : ∀ v, assign (.Subscript (.Name x xp') i2 p2) X.env v = (do
      let ov ← holding [v] (eval (.Name x xp') X.env)
      let iv ← holding [v, ov] (eval i2 X.env)
      standAt p2
      holding [v, ov, iv] (setItem ov iv v)
      release [v, ov, iv] []) := by intro _; rfl)
    (hn : (assignEach [.Subscript (.Name x xp) i1 p1, .Subscript (.Name x xp') i2 p2] X.env).length = 2 := by rfl) (hst : (assignEach [.Subscript (.Name x xp) i1 p1, .Subscript (.Name x xp') i2 p2] X.env).findIdx? (·.1) = none := by rfl)
    (hc1 : (assignEach [.Subscript (.Name x xp) i1 p1, .Subscript (.Name x xp') i2 p2] X.env).map (·.2) = assign (.Subscript (.Name x xp) i1 p1) X.env :: (assignEach [.Subscript (.Name x xp') i2 p2] X.env).map (·.2) := by rfl)
    (hc2 : (assignEach [.Subscript (.Name x xp') i2 p2] X.env).map (·.2) = assign (.Subscript (.Name x xp') i2 p2) X.env :: (assignEach [] X.env).map (·.2) := by rfl) :
    PS X (.Assign [.Tuple [.Subscript (.Name x xp) i1 p1, .Subscript (.Name x xp') i2 p2] n tpos] e pos) (tS c E (swS k f1 f2 fe)) :=
  PS.imp (ps_asg he (pg_tup hc (pgs_cons (pg_sub hx h1 set_list ha1) (pgs_cons (pg_sub hx' h2 set_list ha2) pgs_nil hc2) hc1) hn hst) hs hw h0) fun σ H De ⟨Hs, G, δ, S, q⟩ => ⟨Hs, G, δ, S, PoS.seq q fun d δ1 Hs1 H1 s1 q1 v S1 r1 => by
    simp only at q1
    cases hp : pairOf d with
    | none => rw [hp] at q1; exact q1.elim
    | some dd =>
      rw [hp] at q1
      simp only [opt_some, Re.bd_ok] at q1
      have ed := pairOf_some hp
      subst ed
      obtain ⟨d1, d2⟩ := dd
      cases r1 with
      | @tup a xs _ ht rt =>
        cases rt with
        | @cons v1 _ _ _ rv1 rt =>
          cases rt with
          | @cons v2 _ _ _ rv2 rt =>
            cases rt
            rcases tow_cases δ1[k]? with z | ⟨ds, hk⟩
            · rw [z] at q1; exact q1.elim
            · rw [hk] at q1
              simp only [tow_ow, Re.bd_ok] at q1
              obtain ⟨l, ys, e1, hl, ry, w⟩ := S1.sl k _ hk
              refine ⟨a, _, rfl, by rw [← hK]; exact same_t S1.sh ht, rfl, v1, _, rfl, .ref l, e1, Hs1, G, δ1, S1, ?_⟩
              unfold Pu
              cases hz : f1 δ1 with
              | bad => rw [hz] at q1; exact q1.elim
              | er e => rw [hz] at q1; exact q1
              | ok x1 =>
                rw [hz] at q1
                simp only [Re.bd_ok] at q1 ⊢
                refine PoG.of_ok fun Hs2 H2 s2 iv S2 r2 => ?_
                cases hj : ixI ds.length x1 with
                | none => rw [hj] at q1; exact q1.elim
                | some j =>
                  rw [hj] at q1
                  simp only [opt_some, Re.bd_ok] at q1
                  obtain ⟨i1v, rfl, hij⟩ := ixI_some hj
                  cases r2
                  obtain ⟨l', ys2, e2, hl2, ry2, _⟩ := S2.sl k _ hk
                  rw [e1] at e2
                  cases e2
                  refine ⟨l, ys2, i1v, j, rfl, rfl, hl2, by rw [dpa_len ry2]; exact hij, v2, _, rfl, .ref l, e1, Hs2, G, _, S2.writeOw hk e1 (dpa_set ry2 (dp_mono s2 rv1)), ?_⟩
                  show PoG c E Hs2 G _ ((f2 (δ1.set k (.ow (ds.set j d1)))).bd fun a => .ok (a, δ1.set k (.ow (ds.set j d1))))
                  have q2 := PoS.mono s2 q1
                  cases hz2 : f2 (δ1.set k (.ow (ds.set j d1))) with
                  | bad => rw [hz2] at q2; exact q2.elim
                  | er e => rw [hz2] at q2; exact q2
                  | ok x2 =>
                    rw [hz2] at q2
                    simp only [Re.bd_ok] at q2 ⊢
                    refine PoG.of_ok fun Hs3 H3 s3 iv2 S3 r3 => ?_
                    cases hj2 : ixI ds.length x2 with
                    | none => rw [hj2] at q2; exact q2.elim
                    | some j2 =>
                      rw [hj2] at q2
                      simp only [opt_some, Re.bd_ok] at q2
                      obtain ⟨i2v, rfl, hij2⟩ := ixI_some hj2
                      cases r3
                      have hk3 : (δ1.set k (.ow (ds.set j d1)))[k]? = some (.ow (ds.set j d1)) := List.getElem?_set_self (List.getElem?_eq_some_iff.mp hk).1
                      obtain ⟨l', ys3, e3, hl3, ry3, _⟩ := S3.sl k _ hk3
                      rw [e1] at e3
                      cases e3
                      have S4 := S3.writeOw hk3 e1 (dpa_set (i := j2) ry3 (dp_mono (s2.trans s3) rv2))
                      rw [List.set_set] at S4
                      exact ⟨l, ys3, i2v, j2, rfl, rfl, hl3, by rw [dpa_len ry3, List.length_set]; exact hij2, rfl, q2 σ Hs3 _ s3 S4⟩⟩
end
end DL

/-! DL27: min(xs), max(xs) of a list of numbers; xs.append(a new list), xs an owned list of lists -/
namespace DL
open PySem L2
def gMinL : List D → Option D
  | [.list xs] => (intsOf xs).bind fun ns => ns.min?.map .int
  | _ => none
def gMaxL : List D → Option D
  | [.list xs] => (intsOf xs).bind fun ns => ns.max?.map .int
  | _ => none
theorem vMinL {c : DC} : VCall c (rMin c.K) gMinL := VCall.of fun Hs H vs ds d s r e => by
  unfold gMinL at e
  split at e
  · obtain ⟨bs, e1, e2⟩ := Option.bind_eq_some_iff.mp e
    obtain ⟨m, e3, e4⟩ := Option.map_eq_some_iff.mp e2
    subst e4
    obtain ⟨v, rfl, rv⟩ := rpa1 r
    cases rv with
    | @lst a ys _ h1 r1 =>
      have z := rpa_intsOf r1 e1
      subst z
      obtain ⟨m1, m2⟩ := List.min?_eq_some_iff.mp e3
      refine ⟨_, .int m, fun Q q => ⟨a, bs, rfl, same_l s h1, List.length_pos_of_mem m1, fun m' h2 h3 => ?_⟩⟩
      have : m' = m := Int.le_antisymm (h3 m m1) (m2 m' h2)
      rw [this]; exact q
  · cases e
theorem vMaxL {c : DC} : VCall c (rMax c.K) gMaxL := VCall.of fun Hs H vs ds d s r e => by
  unfold gMaxL at e
  split at e
  · obtain ⟨bs, e1, e2⟩ := Option.bind_eq_some_iff.mp e
    obtain ⟨m, e3, e4⟩ := Option.map_eq_some_iff.mp e2
    subst e4
    obtain ⟨v, rfl, rv⟩ := rpa1 r
    cases rv with
    | @lst a ys _ h1 r1 =>
      have z := rpa_intsOf r1 e1
      subst z
      obtain ⟨m1, m2⟩ := List.max?_eq_some_iff.mp e3
      refine ⟨_, .int m, fun Q q => ⟨a, bs, rfl, same_l s h1, List.length_pos_of_mem m1, fun m' h2 h3 => ?_⟩⟩
      have : m' = m := Int.le_antisymm (m2 m' h2) (h3 m m1)
      rw [this]; exact q
  · cases e
section
variable {X : Cx} {c : DC} {E : XK} {e : Expr} {pos p : Pos} {Hs Hs' G H H' : Hp} {σ : St} {δ δ' : En} {i j k : Nat} {x y : Str} {xp yp : Pos} {fr : En → Re (List D × En)}
theorem e_minL (hm : X.mg "min" = none) (ha : PA X [e] (tA c E fr)) (hc : X.calm = true := by rfl) (hK : c.K = X.K := by rfl) (hg : Gl X "min" := by rfl) (he : starEach [e] X.env = (false, eval e X.env) :: starEach [] X.env := by rfl) : PE X (.Call (.Name "min" p) [e] [] pos) (tD c E (eCa gMinL fr)) := de_callB (cr_min hc) (hK ▸ vMinL) hg hm (by decide +kernel) ha (he := he)
theorem e_maxL (hm : X.mg "max" = none) (ha : PA X [e] (tA c E fr)) (hc : X.calm = true := by rfl) (hK : c.K = X.K := by rfl) (hg : Gl X "max" := by rfl) (he : starEach [e] X.env = (false, eval e X.env) :: starEach [] X.env := by rfl) : PE X (.Call (.Name "max" p) [e] [] pos) (tD c E (eCa gMaxL fr)) := de_callB (cr_max hc) (hK ▸ vMaxL) hg hm (by decide +kernel) ha (he := he)
/-- [] as a new list of new lists -/
theorem de_nil2 {pos : Pos} : PE X (.List [] pos) (tF2 c E (Pu fun _ => .ok [])) := PE.imp (pe_lst pa_nil) fun σ H Q ⟨Hs, G, δ, S, q⟩ => ⟨by exact Nat.zero_le _, fun p hp =>
  q Hs _ (Same.refl _) p [] (S.loose hp) ⟨fun a ha => by
    rw [List.mem_singleton] at ha; subst ha; exact S.loose_of hp, by simp, upd_same, .nil⟩⟩
/-- one more row -/
theorem Sat.addRow {a r : Addr} {dss : List (List D)} {rs : List Addr} {xs : List V} {ds : List D} (S : Sat c Hs G H σ δ) (hi : δ[i]? = some (.ow2 dss)) (ha : σ[i]? = some (some (.ref r))) (hr : H r = some (.lst (rs.map V.ref))) (L : Loose c Hs G H σ δ a) (hx : H a = some (.lst xs)) (rx : RpAll c.K Hs xs ds) :
    Sat c Hs G (upd H r (.lst (rs.map V.ref ++ [.ref a]))) σ (δ.set i (.ow2 (dss ++ [ds]))) := by
  obtain ⟨r', rs', e1, h1, h2, h3, h4⟩ := S.sl i _ hi
  rw [ha] at e1
  cases e1
  rw [hr] at h1
  injection h1 with h1
  injection h1 with h1
  have ers : rs = rs' := by
    have := congrArg (List.map fun v => match v with | V.ref a => a | _ => 0) h1
    simpa [List.map_map, Function.comp_def] using this
  subst ers
  have fr : Foot H σ[i]? (.ow2 dss) r := by rw [ha]; exact .inl rfl
  have ar : a ≠ r := fun z => L.f i _ hi (z ▸ fr)
  have fm : ∀ b ∈ rs, Foot H σ[i]? (.ow2 dss) b := fun b hb => by rw [ha]; exact .inr ⟨_, hr, List.mem_map.mpr ⟨b, hb, rfl⟩⟩
  have an : a ∉ rs := fun z => L.f i _ hi (fm a z)
  have nr : r ∉ rs := (List.nodup_cons.mp h3).1
  have e2 : rs.map V.ref ++ [V.ref a] = (rs ++ [a]).map V.ref := by simp
  refine S.write (s' := .ow2 (dss ++ [ds])) hi fr ⟨r, rs ++ [a], ha, by rw [← e2]; exact upd_same, h2, ?_, ?_⟩ fun b f => ?_
  · have nd := (List.nodup_cons.mp h3).2
    refine List.nodup_cons.mpr ⟨fun z => ?_, List.nodup_append.mpr ⟨nd, by simp, fun x hxr z hz => ?_⟩⟩
    · rcases List.mem_append.mp z with z | z
      · exact nr z
      · rw [List.mem_singleton] at z; exact ar z.symm
    · rw [List.mem_singleton] at hz; subst hz
      exact fun e => an (e ▸ hxr)
  · have keep : ∀ (o : HO) {rs : List Addr} {dss : List (List D)}, r ∉ rs → Paired (Row c Hs G H) rs dss → Paired (Row c Hs G (upd H r o)) rs dss := by
      intro o rs dss hn hp
      induction hp with
      | nil => exact .nil
      | @cons b es rs' dss' h5 h6 ih =>
        obtain ⟨ys, q1, q2, q3⟩ := h5
        refine .cons ⟨ys, ?_, q2, q3⟩ (ih fun z => hn (List.mem_cons_of_mem _ z))
        rw [upd_ne (fun z => hn (by rw [← z]; exact List.mem_cons_self))]
        exact q1
    exact paired_snoc (keep _ nr h4) ⟨xs, by rw [upd_ne ar]; exact hx, rx, L.s, L.g, L.i⟩
  · rw [ha] at f
    rcases (show b = r ∨ ∃ zs, upd H r (.lst (rs.map V.ref ++ [.ref a])) r = some (.lst zs) ∧ V.ref b ∈ zs from f) with rfl | ⟨zs, q1, q2⟩
    · exact .inl fr
    · rw [upd_same] at q1
      cases q1
      rcases List.mem_append.mp q2 with z | z
      · obtain ⟨b', hb', e⟩ := List.mem_map.mp z
        cases e
        exact .inl (fm b hb')
      · rw [List.mem_singleton] at z
        cases z
        exact .inr L
def eAp2 (i : Nat) (fr : En → Re (List D × En)) : En → Re (D × En) := fun δ => (tw2 δ[i]?).bd fun _ => (fr δ).bd fun p => (tw2 p.2[i]?).bd fun dss => if dss.length < 1000000 then .ok (.none, p.2.set i (.ow2 (dss ++ [p.1]))) else .bad
theorem tw2_cases (s : Option Sl) : tw2 s = .bad ∨ ∃ ds, s = some (.ow2 ds) := by
  unfold tw2
  split
  · exact .inr ⟨_, rfl⟩
  · exact .inl rfl
theorem tw2_ok2 (ds : List (List D)) : tw2 (some (.ow2 ds)) = .ok ds := (rfl)
variable {apos cpos : Pos}
theorem de_ap2 (ho : PE X (.Name x xp) (tVar i)) (he : PE X e (tF c E fr))
    (hbase : attributeBase (.Name x xp) "append" X.env (eval (.Name x xp) X.env) = eval (.Name x xp) X.env := by rfl)
    (hfew : ((backTo cpos (starEach [e] X.env)).all (fun x => !x.1) && (backToKw cpos (keywordEach [] X.env)).all (fun x => x.1.isSome)
      && decide ([e].length + ([] : List Keyword).length + (if ([] : List Keyword).isEmpty then 0 else 1) < 30)) = true := by rfl)
    (hline : (apos.endLine == cpos.line) = true := by rfl) (hs : starEach [e] X.env = (false, eval e X.env) :: starEach [] X.env := by rfl) (hplain : (backTo cpos (starEach [] X.env)).any (·.1) = false := by rfl) :
    PE X (.Call (.Attribute (.Name x xp) "append" apos) [e] [] cpos) (tD c E (eAp2 i fr)) := PE.imp (pe_bm PySem.F.plainAttrs_list PySem.F.slot_list_append PySem.F.type_list_append mt_append ho (pa_cons he pa_nil hs) hbase hfew hline hs hplain) fun σ H Q ⟨Hs, G, δ, S, q⟩ => by
  unfold eAp2 at q
  rcases tw2_cases δ[i]? with z | ⟨dss0, hi⟩
  · rw [z] at q; exact q.elim
  · rw [hi] at q
    simp only [tw2_ok2, Re.bd_ok] at q
    obtain ⟨l, rs0, e1, h1, _⟩ := S.sl i _ hi
    refine ⟨.ref l, e1, .inl ⟨rfl, _, SqL.of h1⟩, Hs, G, δ, S, PoG.seq q fun es δ1 Hs1 H1 s1 q1 p xs S1 L hp r1 => ?_⟩
    simp only at q1
    rcases tw2_cases δ1[i]? with z | ⟨dss, hi1⟩
    · rw [z] at q1; exact q1.elim
    · rw [hi1] at q1
      simp only [tw2_ok2, Re.bd_ok] at q1
      split at q1
      · rename_i hl
        obtain ⟨l', rs, e2, h2, w2, nd, pr⟩ := S1.sl i _ hi1
        rw [e1] at e2
        cases e2
        refine ⟨l, _, _, rfl, rfl, h2, ?_, q1 Hs1 _ (Same.refl _) .non (S1.addRow hi1 e1 h2 L hp r1) .non⟩
        rw [List.length_map, paired_len pr]
        exact Nat.lt_of_lt_of_le hl (by decide)
      · exact q1.elim
/-- xs.append(ys), ys an owned list, whose name is not used again -/
def eMv2 (i j : Nat) : En → Re (D × En) := fun δ => (tw2 δ[i]?).bd fun dss => (tow δ[j]?).bd fun ds => if dss.length < 1000000 then .ok (.none, (δ.set j .no).set i (.ow2 (dss ++ [ds]))) else .bad
theorem de_mv2 (hij : i ≠ j) (ho : PE X (.Name x xp) (tVar i)) (he : PE X (.Name y yp) (tVar j))
    (hbase : attributeBase (.Name x xp) "append" X.env (eval (.Name x xp) X.env) = eval (.Name x xp) X.env := by rfl)
    (hfew : ((backTo cpos (starEach [.Name y yp] X.env)).all (fun x => !x.1) && (backToKw cpos (keywordEach [] X.env)).all (fun x => x.1.isSome)
      && decide ([(.Name y yp : Expr)].length + ([] : List Keyword).length + (if ([] : List Keyword).isEmpty then 0 else 1) < 30)) = true := by rfl)
    (hline : (apos.endLine == cpos.line) = true := by rfl) (hs : starEach [.Name y yp] X.env = (false, eval (.Name y yp) X.env) :: starEach [] X.env := by rfl) (hplain : (backTo cpos (starEach [] X.env)).any (·.1) = false := by rfl) :
    PE X (.Call (.Attribute (.Name x xp) "append" apos) [.Name y yp] [] cpos) (tD c E (eMv2 i j)) := PE.imp (pe_bm PySem.F.plainAttrs_list PySem.F.slot_list_append PySem.F.type_list_append mt_append ho (pa_cons he pa_nil hs) hbase hfew hline hs hplain) fun σ H Q ⟨Hs, G, δ, S, q⟩ => by
  unfold eMv2 at q
  rcases tw2_cases δ[i]? with z | ⟨dss, hi⟩
  · rw [z] at q; exact q.elim
  · rw [hi] at q
    simp only [tw2_ok2, Re.bd_ok] at q
    rcases tow_cases δ[j]? with z | ⟨ds, hj⟩
    · rw [z] at q; exact q.elim
    · rw [hj] at q
      simp only [tow_ow, Re.bd_ok] at q
      split at q
      · rename_i hl
        obtain ⟨l, rs, e1, h1, w1, nd, pr⟩ := S.sl i _ hi
        obtain ⟨a, xs, e2, h2, r2, w2⟩ := S.sl j _ hj
        refine ⟨.ref l, e1, .inl ⟨rfl, _, SqL.of h1⟩, .ref a, e2, l, _, _, rfl, rfl, h1, ?_, ?_⟩
        · rw [List.length_map, paired_len pr]
          exact Nat.lt_of_lt_of_le hl (by decide)
        · have S1 := S.dropSl j
          have hi1 : (δ.set j .no)[i]? = some (.ow2 dss) := by rw [List.getElem?_set_ne (Ne.symm hij)]; exact hi
          have L : Loose c Hs G H σ (δ.set j .no) a := by
            have fa : Foot H σ[j]? (.ow ds) a := by rw [e2]; rfl
            refine ⟨w2.1, w2.2.1, w2.2.2.1, fun m t hm f => ?_⟩
            rcases drop_at hm with ⟨_, rfl⟩ | ⟨ne, h⟩
            · exact foot_no f
            · exact S.sp m j t _ a ne h hj f fa
          exact q Hs _ (Same.refl _) .non (S1.addRow hi1 e1 h1 L h2 r2) .non
      · exact q.elim
end
end DL

/-! DL28: [new lists ..][i]; x, y = two new lists of new lists; keywords at such defs -/
namespace DL
open PySem L2
noncomputable def ovl (G H : Hp) (as : List Addr) : Hp := fun b => open Classical in if b ∈ as then H b else G b
section
variable {X : Cx} {c : DC} {E : XK} {e a b o : Expr} {es : List Expr} {pos p : Pos} {Hs Hs' G G' H H' : Hp} {σ : St} {δ δ' : En} {i j k : Nat} {x y : Str} {xp yp : Pos}
theorem Sat.hideAs : ∀ {as : List Addr} {G : Hp}, Sat c Hs G H σ δ → as.Nodup → (∀ a ∈ as, Loose c Hs G H σ δ a ∧ ∃ o, H a = some o) → Sat c Hs (ovl G H as) H σ δ
  | [], G, S, _, _ => by
    have : ovl G H [] = G := by funext b; unfold ovl; simp
    rw [this]; exact S
  | a :: as, G, S, nd, hl => by
    obtain ⟨L, o, ho⟩ := hl a List.mem_cons_self
    have nd' := List.nodup_cons.mp nd
    have S1 := Sat.hideAs (S.hideL L ho) nd'.2 fun b hb => by
      obtain ⟨Lb, ob⟩ := hl b (List.mem_cons_of_mem _ hb)
      have ne : b ≠ a := fun z => nd'.1 (by rw [← z]; exact hb)
      exact ⟨⟨Lb.s, by rw [upd_ne ne]; exact Lb.g, Lb.i, Lb.f⟩, ob⟩
    have : ovl (upd G a o) H as = ovl G H (a :: as) := by
      funext b
      unfold ovl
      by_cases hb : b ∈ as
      · rw [if_pos hb, if_pos (List.mem_cons_of_mem _ hb)]
      · rw [if_neg hb]
        by_cases e : b = a
        · subst e; rw [upd_same, if_pos List.mem_cons_self, ho]
        · rw [upd_ne e, if_neg (fun z => (List.mem_cons.mp z).elim e hb)]
    rw [this] at S1; exact S1
theorem ovl_in {as : List Addr} {a : Addr} (h : a ∈ as) : ovl G H as a = H a := by unfold ovl; rw [if_pos h]
theorem ovl_same {as : List Addr} (h : ∀ a ∈ as, G a = none) : Same G (ovl G H as) := fun b u e => by
  unfold ovl
  split
  · rename_i hb; rw [h b hb] at e; cases e
  · exact e
/-- .. and come back -/
theorem Sat.backAs {as : List Addr} (S : Sat c Hs' (ovl G H as) H' σ δ) (hl : ∀ a ∈ as, (G a = none ∧ c.Hin a = none) ∧ ∃ o, H a = some o) : Sat c Hs' G H' σ δ ∧ (∀ a ∈ as, Loose c Hs' G H' σ δ a) ∧ ∀ a ∈ as, H' a = H a := by
  have sg : Same G (ovl G H as) := ovl_same fun a ha => (hl a ha).1.1
  refine ⟨S.weakG sg, fun a ha => ?_, fun a ha => ?_⟩
  · obtain ⟨⟨h1, h2⟩, o, h3⟩ := hl a ha
    have hg : ovl G H as a = some o := by rw [ovl_in ha]; exact h3
    refine ⟨?_, h1, h2, fun j s hj f => ?_⟩
    · cases z : Hs' a with
      | none => rfl
      | some u =>
        obtain ⟨w, hw⟩ := S.gs a o u hg z
        rw [h2] at hw; cases hw
    · have := (foot_own (S.sl j s hj) f).1.2.1
      rw [hg] at this; cases this
  · obtain ⟨_, o, h3⟩ := hl a ha
    rw [h3]
    exact S.gm a o (by rw [ovl_in ha]; exact h3)
/-! several new lists -/
def tFl (c : DC) (E : XK) (f : En → Re (List (List D) × En)) : TA := fun σ H Q => ∃ Hs G δ, Sat c Hs G H σ δ ∧
  PoG c E Hs G (fun dss δ' Hs' H' => ∀ rs, Sat c Hs' G H' σ δ' → (∀ a ∈ rs, Loose c Hs' G H' σ δ' a) → rs.Nodup → Paired (RowL c.K Hs' H') rs dss → Q (rs.map V.ref) H') (f δ)
def eFl (fa : En → Re (List D × En)) (fr : En → Re (List (List D) × En)) : En → Re (List (List D) × En) := fun δ => (fa δ).bd fun p => (fr p.2).bd fun q => .ok (p.1 :: q.1, q.2)
theorem dfl_nil : PA X [] (tFl c E (Pu fun _ => .ok [])) := PA.imp pa_nil fun σ H Q ⟨Hs, G, δ, S, q⟩ => q Hs H (Same.refl _) [] S (fun a h => by cases h) .nil .nil
theorem dfl_cons {fa : En → Re (List D × En)} {fr : En → Re (List (List D) × En)} (h : PE X e (tF c E fa)) (h2 : PA X es (tFl c E fr)) (hs : starEach (e :: es) X.env = (false, eval e X.env) :: starEach es X.env := by rfl) : PA X (e :: es) (tFl c E (eFl fa fr)) := PA.imp (pa_cons h h2 hs) fun σ H Q ⟨Hs, G, δ, S, q⟩ =>
  ⟨Hs, G, δ, S, PoG.seq q fun ds δ1 Hs1 H1 s1 q1 p xs S1 L1 h1 r1 => by
    have gg : Same G (upd G p (.lst xs)) := same_new L1.g
    refine ⟨Hs1, upd G p (.lst xs), δ1, S1.hideL L1 h1, PoG.seqG gg q1 fun dss δ2 Hs2 H2 s2 q2 rs S2 L2 nd pr => ?_⟩
    obtain ⟨S3, L3, hp⟩ := S2.unhide L1.g L1.i
    have ne : ∀ a ∈ rs, a ≠ p := fun a ha e => by
      have := (L2 a ha).g
      rw [e, upd_same] at this; cases this
    refine q2 Hs2 H2 (Same.refl _) (p :: rs) S3 (fun a ha => ?_) (List.nodup_cons.mpr ⟨fun z => ne p z rfl, nd⟩) (.cons ⟨xs, hp, dpa_mono s2 r1⟩ pr)
    rcases List.mem_cons.mp ha with rfl | ha
    · exact L3
    · have L := L2 a ha
      exact ⟨L.s, by have := L.g; rw [upd_ne (ne a ha)] at this; exact this, L.i, L.f⟩⟩
def eL2 (fl : En → Re (List (List D) × En)) : En → Re (List (List D) × En) := fun δ => (fl δ).bd fun p => if p.1.length ≤ 1000000 then .ok (p.1, p.2) else .bad
theorem paired_len2 {α β : Type} {F : α → β → Prop} : ∀ {xs : List α} {ys : List β}, Paired F xs ys → xs.length = ys.length
  | _, _, .nil => rfl
  | _, _, .cons _ h => congrArg (· + 1) (paired_len2 h)
theorem paired_new {K : PySem.W.Frag} {q : Addr} {o : HO} (hq : H q = none) {rs : List Addr} {dss : List (List D)} (h : Paired (RowL K Hs H) rs dss) : Paired (RowL K Hs (upd H q o)) rs dss := by
  induction h with
  | nil => exact .nil
  | cons h1 h2 ih =>
    obtain ⟨xs, e1, e2⟩ := h1
    exact .cons ⟨xs, same_new hq _ _ e1, e2⟩ ih
theorem Loose.keepNew {p q : Addr} {o : HO} (S : Sat c Hs G H σ δ) (L : Loose c Hs G H σ δ p) (hq : H q = none) : Loose c Hs G (upd H q o) σ δ p := ⟨L.s, L.g, L.i, fun j s hj f => by
  have f' : Foot H σ[j]? s p := by
    have nq : ∀ b, Foot H σ[j]? s b → b ≠ q := fun b fb e => by
      obtain ⟨_, u, hu⟩ := foot_own (S.sl j s hj) fb
      rw [e, hq] at hu; cases hu
    cases s with
    | ow2 dss =>
      obtain ⟨r, rs, e1, h1, _⟩ := S.sl j _ hj
      rw [e1] at f ⊢
      rcases (show p = r ∨ ∃ xs, upd H q o r = some (.lst xs) ∧ V.ref p ∈ xs from f) with z | ⟨xs, h2, h3⟩
      · exact .inl z
      · refine .inr ⟨xs, ?_, h3⟩
        rw [upd_ne (fun z => by rw [z, hq] at h1; cases h1)] at h2
        exact h2
    | no => exact (foot_no f).elim
    | sh d => exact (foot_sh f).elim
    | ow ds =>
      obtain ⟨r, xs, e1, _⟩ := S.sl j _ hj
      rw [e1] at f ⊢; exact f
    | dk ds =>
      obtain ⟨r, xs, e1, _⟩ := S.sl j _ hj
      rw [e1] at f ⊢; exact f
    | dt ds =>
      obtain ⟨r, xs, e1, _⟩ := S.sl j _ hj
      rw [e1] at f ⊢; exact f
  exact L.f j s hj f'⟩
theorem de_fl2 {fl : En → Re (List (List D) × En)} (h : PA X es (tFl c E fl)) : PE X (.List es pos) (tF2 c E (eL2 fl)) := PE.imp (pe_lst h) fun σ H Q ⟨Hs, G, δ, S, q⟩ => ⟨Hs, G, δ, S, PoG.seq q fun dss δ1 Hs1 H1 s1 q1 rs S1 L nd pr => by
  simp only at q1
  split at q1
  · rename_i hl
    refine ⟨by rw [List.length_map, paired_len2 pr]; exact million hl, fun p hp => ?_⟩
    have np : p ∉ rs := fun z => by
      obtain ⟨o, ho⟩ := paired_some pr p z
      rw [hp] at ho; cases ho
    exact q1 Hs1 _ (Same.refl _) p rs (S1.loose hp) ⟨fun a ha => by
      rcases List.mem_cons.mp ha with rfl | ha
      · exact S1.loose_of hp
      · exact (L a ha).keepNew S1 hp, List.nodup_cons.mpr ⟨np, nd⟩, upd_same, paired_new hp pr⟩
  · exact q1.elim⟩
theorem paired_at {K : PySem.W.Frag} : ∀ {rs : List Addr} {dss : List (List D)} {j : Nat} {ds : List D}, Paired (RowL K Hs H) rs dss → dss[j]? = some ds → ∃ a xs, rs[j]? = some a ∧ H a = some (.lst xs) ∧ RpAll K Hs xs ds
  | _, _, 0, ds, .cons ⟨xs, e, r⟩ _, h => by
    simp at h; subst h
    exact ⟨_, xs, rfl, e, r⟩
  | _, _, j + 1, ds, .cons _ h2, h => by
    obtain ⟨a, xs, h3, h4, h5⟩ := paired_at (j := j) h2 (by simpa using h)
    exact ⟨a, xs, by simpa using h3, h4, h5⟩
  | _, _, _, _, .nil, h => by simp at h
def eIx2 (f2 : En → Re (List (List D) × En)) (fi : En → Re (D × En)) : En → Re (List D × En) := fun δ => (f2 δ).bd fun p => (fi p.2).bd fun q => (opt (ixI p.1.length q.1)).bd fun j => (opt (p.1[j]?)).bd fun ds => .ok (ds, q.2)
theorem ixN_atI {α : Type} {xs : List α} {i : Int} {j : Nat} {v : α} (h : ixN xs.length i = some j) (e : xs[j]? = some v) : atI xs i = some v := by
  unfold atI; rw [h]; exact e
theorem de_ix2 {f2 : En → Re (List (List D) × En)} {fi : En → Re (D × En)} (ho : PE X o (tF2 c E f2)) (hb : PE X b (tD c E fi)) (hK : c.K = X.K := by rfl) (hs : PlainIx b := by exact fun _ _ => rfl) : PE X (.Subscript o b pos) (tF c E (eIx2 f2 fi)) := PE.imp (pe_ix ix_list ho hb hs) fun σ H Q ⟨Hs, G, δ, S, q⟩ => ⟨Hs, G, δ, S, PoG.seq q fun dss δ1 Hs1 H1 s1 q1 p rs S1 L => by
  have some_ : ∀ a ∈ p :: rs, ∃ o, H1 a = some o := fun a ha => by
    rcases List.mem_cons.mp ha with rfl | ha
    · exact ⟨_, L.h⟩
    · exact paired_some L.r a ha
  have gg : Same G (ovl G H1 (p :: rs)) := ovl_same fun a ha => (L.l a ha).g
  refine ⟨Hs1, ovl G H1 (p :: rs), δ1, S1.hideAs L.nd fun a ha => ⟨L.l a ha, some_ a ha⟩, PoG.seqG gg q1 fun d δ2 Hs2 H2 s2 q2 v S2 rv => ?_⟩
  obtain ⟨S3, L3, H3⟩ := S2.backAs fun a ha => ⟨⟨(L.l a ha).g, (L.l a ha).i⟩, some_ a ha⟩
  simp only at q2
  cases hj : ixI dss.length d with
  | none => rw [hj] at q2; exact q2.elim
  | some j =>
    rw [hj] at q2
    simp only [opt_some, Re.bd_ok] at q2
    obtain ⟨iv, rfl, hij⟩ := ixI_some hj
    cases rv
    cases hd : dss[j]? with
    | none => rw [hd] at q2; exact q2.elim
    | some ds =>
      rw [hd] at q2
      simp only [opt_some, Re.bd_ok] at q2
      obtain ⟨a, xs, h1, h2, h3⟩ := paired_at L.r hd
      have am : a ∈ p :: rs := List.mem_cons_of_mem _ (List.mem_of_getElem? h1)
      refine ⟨p, rs.map V.ref, iv, .ref a, rfl, rfl, SqL.of ((H3 p List.mem_cons_self).trans L.h), ixN_atI (j := j) (by rw [List.length_map, paired_len2 L.r]; exact hij) (by rw [List.getElem?_map, h1]; rfl), ?_⟩
      exact q2 Hs2 H2 (Same.refl _) a xs S3 (L3 a am) ((H3 a am).trans h2) (dpa_mono s2 h3)⟩
/-! x, y = two of them (local names) -/
def paF2F2 (i j : Nat) (ga gb : En → Re (List (List D) × En)) : En → Re Fl := fun δ => (ga δ).bd fun p => (gb p.2).bd fun q => .ok (.nx ((q.2.set i (.ow2 p.1)).set j (.ow2 q.1)))
theorem Loose.set2 {i : Nat} {s : Sl} {p q : Addr} (L : Loose c Hs G H σ δ p) (hl : σ.length = δ.length) (nf : ¬ Foot H (some (some (.ref q))) s p) : Loose c Hs G H (σ.set i (some (.ref q))) (δ.set i s) p := ⟨L.s, L.g, L.i, fun j t hj f => by
  by_cases e : i = j
  · subst e
    have hlt : i < δ.length := by
      have := (List.getElem?_eq_some_iff.mp hj).1
      simpa using this
    rw [List.getElem?_set_self hlt] at hj
    cases hj
    rw [List.getElem?_set_self (by rw [hl]; exact hlt)] at f
    exact nf f
  · rw [List.getElem?_set_ne e] at hj f
    exact L.f j t hj f⟩
theorem ds_parF2F2 {i j : Nat} {x y : Str} {px py pt : Pos} {kt k2 : Nat} {pt2 : Pos} {ga gb : En → Re (List (List D) × En)} (hm : i ∉ c.mi) (hm2 : j ∉ c.mi) (hc : X.calm = true) (hN : X.N.Nodup) (hi : X.N[i]? = some x) (hj : X.N[j]? = some y) (hij : i ≠ j)
    (hx : X.env.scope.names.lookup x = some .local) (hy : X.env.scope.names.lookup y = some .local) (ha : PE X a (tF2 c E ga)) (hb : PE X b (tF2 c E gb))
    (hw : swappedStores [.Tuple [.Name x px, .Name y py] kt pt] (.Tuple [a, b] k2 pt2) X.env = pure (some [x, y]))
    (hs1 : starEach [a, b] X.env = (false, eval a X.env) :: starEach [b] X.env := by rfl) (hs2 : starEach [b] X.env = (false, eval b X.env) :: starEach [] X.env := by rfl)
    (hs : swapsWithSole [.Tuple [.Name x px, .Name y py] kt pt] (.Tuple [a, b] k2 pt2) pos.line X.env = pure false := by rfl) :
    PS X (.Assign [.Tuple [.Name x px, .Name y py] kt pt] (.Tuple [a, b] k2 pt2) pos) (tS c E (paF2F2 i j ga gb)) := PS.imp (ps_par hc hN hi hj hij hx hy (pa_cons ha (pa_cons hb pa_nil hs2) hs1) hw hs) fun σ H De ⟨Hs, G, δ, S, q⟩ =>
  ⟨Hs, G, δ, S, PoS.seq q fun dss δ1 Hs1 H1 s1 q1 p rs S1 L => by
    have some_ : ∀ a ∈ p :: rs, ∃ o, H1 a = some o := fun a ha => by
      rcases List.mem_cons.mp ha with rfl | ha
      · exact ⟨_, L.h⟩
      · exact paired_some L.r a ha
    have gg : Same G (ovl G H1 (p :: rs)) := ovl_same fun a ha => (L.l a ha).g
    refine ⟨Hs1, ovl G H1 (p :: rs), δ1, S1.hideAs L.nd fun a ha => ⟨L.l a ha, some_ a ha⟩, PoS.seqG gg q1 fun ess δ2 Hs2 H2 s2 q2 p2 ps S2 L2 => ?_⟩
    obtain ⟨S3, L3, H3⟩ := S2.backAs fun a ha => ⟨⟨(L.l a ha).g, (L.l a ha).i⟩, some_ a ha⟩
    have ne : ∀ a ∈ p2 :: ps, a ∉ p :: rs := fun a ha z => by
      obtain ⟨o, ho⟩ := some_ a z
      have := (L2.l a ha).g
      rw [ovl_in z, ho] at this; cases this
    have hp : H2 p = some (.lst (rs.map V.ref)) := (H3 p List.mem_cons_self).trans L.h
    have pr : Paired (RowL c.K Hs2 H2) rs dss := by
      have hh : ∀ a ∈ rs, H2 a = H1 a := fun a ha => H3 a (List.mem_cons_of_mem _ ha)
      have := L.r
      clear L L2 q1 q2 L3 H3 hp ne gg some_ S1 S2 S3
      induction this with
      | nil => exact .nil
      | @cons a ds rs' dss' h1 h2 ih =>
        obtain ⟨xs, e1, e2⟩ := h1
        exact .cons ⟨xs, (hh _ List.mem_cons_self).trans e1, dpa_mono s2 e2⟩ (ih fun a ha => hh a (List.mem_cons_of_mem _ ha))
    have LA : Loose2 c Hs2 G H2 σ δ2 p rs dss := ⟨L3, L.nd, hp, pr⟩
    have nf : ∀ a ∈ p2 :: ps, ¬ Foot H2 (some (some (.ref p))) (.ow2 dss) a := fun a ha f => by
      rcases (show a = p ∨ ∃ xs, H2 p = some (.lst xs) ∧ V.ref a ∈ xs from f) with rfl | ⟨xs, h1, h2⟩
      · exact ne a ha List.mem_cons_self
      · rw [hp] at h1
        cases h1
        obtain ⟨z, hz, e⟩ := List.mem_map.mp h2
        cases e
        exact ne a ha (List.mem_cons_of_mem _ hz)
    have gn : ∀ a ∈ p2 :: ps, G a = none := fun a ha => by
      cases z : G a with
      | none => rfl
      | some u => have := gg a u z; rw [(L2.l a ha).g] at this; cases this
    have LB : Loose2 c Hs2 G H2 (σ.set i (some (.ref p))) (δ2.set i (.ow2 dss)) p2 ps ess := ⟨fun a ha => Loose.set2 ⟨(L2.l a ha).s, gn a ha, (L2.l a ha).i, (L2.l a ha).f⟩ S3.ln.symm (nf a ha), L2.nd, L2.h, L2.r⟩
    exact ⟨.ref p, .ref p2, rfl, q2 _ Hs2 H2 (Same.refl _) ((S3.setOw2 hm LA).setOw2 hm2 LB)⟩⟩
end
end DL

/-! DL29: keywords at defs that hand back a new list of new lists -/
namespace DL
open PySem L2
section
variable {X : Cx} {c : DC} {E : XK} {e : Expr} {es : List Expr} {pos p : Pos} {H : Hp} {σ : St} {kws : List Keyword} {f1 f2 : En → Re (List D × En)} {k m n : Nat} {x : Str} {ps ks : List Str} {ix : List Nat}
theorem v_ckF2 {F : List D → Re (List (List D))} {t : TA} (ht : ∀ σ H Q, tA c E f1 σ H Q → t σ H Q) {Q : VK} (h : tF2 c E (eCk m n ix F f1 f2) σ H Q) : tCallK (spPF2 c.K c.mg F) (gK m n ix) E t (tA c E f2) σ H Q := by
  obtain ⟨Hs, G, δ, S, q⟩ := h
  refine ht σ H _ ⟨Hs, G, δ, S, PoG.seq q fun ds δ1 Hs1 H1 s1 q1 vs S1 r1 => ⟨Hs1, G, δ1, S1, PoG.seq q1 fun es δ2 Hs2 H2 s2 q2 ws S2 r2 => ?_⟩⟩
  simp only at q2
  split at q2
  · rename_i z
    have e : gK m n ix vs ws = pick ix (vs ++ ws) := if_pos ⟨(dpa_len r1).trans z.1, (dpa_len r2).trans z.2⟩
    rw [e]
    exact v_crF2 (F := F) S2 (rpa_pick (dpa_append (dpa_mono s2 r1) r2) ix) q2
  · exact q2.elim
theorem de_ckF2 {F : List D → Re (List (List D))} (hD : DnK X.prog X.w X.K X.mg X.base k x ps ks m n ix (spPF2 X.K X.mg F)) (hr : RoomG k X.A) (hg : Gl X x) (hx : Passes (L2.CX X.prog X.w) X E) (hK : c.K = X.K) (hM : c.mg = X.mg)
    (ha : PA X (e :: es) (tA c E f1)) (hkw : PK X kws (tA c E f2)) (hall : (backToKw pos (keywordEach kws X.env)).all (·.1.isSome) = true := by rfl) (hks : (backToKw pos (keywordEach kws X.env)).filterMap (·.1) = ks := by rfl)
    (hdb : (x == ("__debug__" : Str)) = false := by decide) (he : starEach (e :: es) X.env = (false, eval e X.env) :: starEach es X.env := by rfl)
    (hpl : ((backTo pos (starEach (e :: es) X.env)).any (·.1) || (backToKw pos (keywordEach kws X.env)).any (·.1.isNone)) = false := by rfl) :
    PE X (.Call (.Name x p) (e :: es) kws pos) (tF2 c E (eCk m n ix F f1 f2)) := by
  obtain ⟨f, fd, Fo, hm, hk, hb⟩ := hD.ex
  refine PE.imp (pe_callKG Fo hr hg hm hk hb hx ha hkw hall hks hdb he hpl) fun σ H Q h => ?_
  rw [← hK, ← hM]
  exact v_ckF2 (fun _ _ _ z => z) h
theorem de_ck0F2 {F : List D → Re (List (List D))} (hD : DnK X.prog X.w X.K X.mg X.base k x ps ks 0 n ix (spPF2 X.K X.mg F)) (hr : RoomG k X.A) (hg : Gl X x) (hx : Passes (L2.CX X.prog X.w) X E) (hK : c.K = X.K) (hM : c.mg = X.mg)
    (hkw : PK X kws (tA c E f2)) (hall : (backToKw pos (keywordEach kws X.env)).all (·.1.isSome) = true := by rfl) (hks : (backToKw pos (keywordEach kws X.env)).filterMap (·.1) = ks := by rfl)
    (hdb : (x == ("__debug__" : Str)) = false := by decide) (hpl : ((backTo pos (starEach [] X.env)).any (·.1) || (backToKw pos (keywordEach kws X.env)).any (·.1.isNone)) = false := by rfl) :
    PE X (.Call (.Name x p) [] kws pos) (tF2 c E (eCk 0 n ix F (Pu pNil) f2)) := by
  obtain ⟨f, fd, Fo, hm, hk, hb⟩ := hD.ex
  refine PE.imp (pe_ck0G Fo hr hg hm hk hb hx hkw hall hks hdb hpl) fun σ H Q h => ?_
  rw [← hK, ← hM]
  exact v_ckF2 (t := tNil) (fun σ H Q ⟨Hs, G, δ, S, q⟩ => q Hs H (Same.refl _) [] S .nil) h
theorem uCkF2 {F : List D → Re (List (List D))} {m n : Nat} {ix : List Nat} {f1 f2 : En → Re (List D)} (h : PE X e (tF2 c E (eCk m n ix F (Pu f1) (Pu f2)))) : PE X e (tF2 c E (Pu (pCk m n ix F f1 f2))) := eCk_pu F f1 f2 ▸ h
end
end DL

/-! DL30: a dict comprehension as a value, for a name that inner blocks read -/
namespace DL
open PySem L2
section
variable {X : Cx} {c : DC} {E : XK} {e : Expr} {pos : Pos} {i : Nat} {x : Str} {fi : En → Re (List D × En)} {ts : List Nat} {g : D → En → Option En} {t : En → Re (Bool × En)} {fk fv : En → Re (D × En)}
theorem de_dc {kx vx tg iter : Expr} {ifs : List Expr} {scope : Scope} {own : List (Str × Nat)} (hc : X.calm = true) (hN : X.N.Nodup) (hn : (own.map (·.2)).Nodup) (hm : ∀ v ∈ own.map (·.2), v ∉ c.mi) (hts : ∀ t ∈ ts, t ∈ own.map (·.2)) (hi : PI X tg iter (tI c E fi)) (ok : BlkOk X.N X.env.scope scope own)
    (hg : ∀ (s : Shared) (H : Hp) (C : Addr) (cl : List (Str × Addr)) (fp : List Addr), PG (X.blk s H scope (compEnvC scope cl C X.env) fp) tg (tG c ts g)) (ht : ∀ (s : Shared) (H : Hp) (C : Addr) (cl : List (Str × Addr)) (fp : List Addr), PTs (X.blk s H scope (compEnvC scope cl C X.env) fp) ifs (tT c E0 t))
    (hk : ∀ (s : Shared) (H : Hp) (C : Addr) (cl : List (Str × Addr)) (fp : List Addr), PE (X.blk s H scope (compEnvC scope cl C X.env) fp) kx (tD c E0 fk))
    (he : ∀ (s : Shared) (H : Hp) (C : Addr) (cl : List (Str × Addr)) (fp : List Addr), PE (X.blk s H scope (compEnvC scope cl C X.env) fp) vx (tD c E0 fv)) (hs : ∀ x, foldedSetIterable iter X.env x = pure x := by intro _; rfl) :
    PE X (.DictComp kx vx [⟨tg, iter, ifs, 0⟩] scope pos) (tDk c E (eDk (eLc fi (own.map (·.2)) g t (ePr fk fv)))) := PE.imp (pe_dc hc hN hi ok hg ht hk he hs) fun _ _ _ h => v_dc hn hm hts h
theorem ds_ownD {f : En → Re (List (Key × D) × En)} {pos' : Pos} (hm : i ∉ c.mi) (hN : X.N.Nodup) (hi : X.N[i]? = some x) (hx : Loc X.env.scope x) (he : PE X e (tDk c E f)) (hs : swapsWith e (some (.Name x pos')) pos.line X.env = pure false := by rfl) (hf : X.fn x = true ∨ X.env.scope.names.lookup x = some .local := by first | exact .inl rfl | exact .inr rfl | assumption) :
    PS X (.Assign [.Name x pos'] e pos) (tS c E (dcS i f)) := PS.imp (ps_set hN hi hx he hs hf) fun σ H De ⟨Hs, G, δ, S, q⟩ =>
  ⟨Hs, G, δ, S, PoS.seq q fun kvs δ1 Hs1 H1 s1 q1 p ks S1 L h1 r1 => q1 _ Hs1 H1 (Same.refl _) (S1.setDk hm L h1 r1)⟩
end
end DL

/-! DL31: a + b of two lists as a new list -/
namespace DL
open PySem L2
section
variable {X : Cx} {c : DC} {E : XK} {a b : Expr} {pos : Pos} {fa fb : En → Re (D × En)}
theorem e_addF (ha : PE X a (tD c E fa)) (hb : PE X b (tD c E fb)) (hK : c.K = X.K := by rfl) : PE X (.BinOp a .Add b pos) (tF c E (eOp gCat fa fb)) := de_binF op_catS (hK ▸ vCat) ha hb
end
end DL

/-! DL32: for r in x: r.m(), x an owned list of lists -/
namespace DL
open PySem L2
def rowAll (m : List D → List D → Option (List D × D)) : List (List D) → Option (List (List D))
  | [] => some []
  | ds :: r => (m ds []).bind fun z => (rowAll m r).map (z.1 :: ·)
theorem rowAll_spec {m : List D → List D → Option (List D × D)} : ∀ {dss ess : List (List D)}, rowAll m dss = some ess → ess.length = dss.length ∧ ∀ (j : Nat) (ds : List D), dss[j]? = some ds → ∃ z, m ds [] = some z ∧ ess[j]? = some z.1
  | [], ess, h => by
    cases h
    exact ⟨rfl, fun j ds h => by simp at h⟩
  | d :: r, ess, h => by
    unfold rowAll at h
    obtain ⟨z, h1, h2⟩ := Option.bind_eq_some_iff.mp h
    obtain ⟨es, h3, rfl⟩ := Option.map_eq_some_iff.mp h2
    obtain ⟨l, q⟩ := rowAll_spec h3
    refine ⟨by simp [l], fun j ds hj => ?_⟩
    cases j with
    | zero => simp at hj; subst hj; exact ⟨z, h1, rfl⟩
    | succ j =>
      obtain ⟨w, w1, w2⟩ := q j ds (by simpa using hj)
      exact ⟨w, w1, by simpa using w2⟩
def rwS (i r : Nat) (m : List D → List D → Option (List D × D)) : En → Re Fl := fun δ => (tw2 δ[i]?).bd fun dss => (opt (rowAll m dss)).bd fun ess => if r < δ.length then .ok (.nx ((δ.set r .no).set i (.ow2 ess))) else .bad
section
variable {X : Cx} {c : DC} {E : XK} {Hs Hs' G H H' : Hp} {σ : St} {δ δ' : En} {i r : Nat} {x y : Str} {xp yp yp' pos apos cpos epos : Pos} {name : Str} {id : String} {rr : V → List V → Hp → VK → Prop} {m : List D → List D → Option (List D × D)}
theorem Sat.forget {v : Option V} (S : Sat c Hs G H σ δ) (hr : r ∉ c.mi) : Sat c Hs G H (σ.set r v) (δ.set r .no) :=
  S.setAny hr (by trivial) fun j t b _ f _ => foot_no f
theorem ds_rowEach (slot : Slot "list" name id) (hty : typeOf (.builtin id) = pure (.type "method_descriptor")) (hm : MtR X id rr) (hv : VMu rr m) (hir : i ≠ r) (hmr : r ∉ c.mi) (hN : X.N.Nodup) (hi : X.N[r]? = some y) (hy : Loc X.env.scope y)
    (hx : PE X (.Name x xp) (tVar i)) (hyv : PE X (.Name y yp') (tVar r)) (hp : PassesOwn (model X.prog X.w) X.A X.env X.xe) (hc : X.calm = true) (hf : X.fn y = true ∨ X.env.scope.names.lookup y = some .local := by first | exact .inl rfl | exact .inr rfl | assumption)
    (hbase : attributeBase (.Name y yp') name X.env (eval (.Name y yp') X.env) = eval (.Name y yp') X.env := by rfl) (hline : (apos.endLine == cpos.line) = true := by rfl)
    (hsw : swapsWith (.Call (.Attribute (.Name y yp') name apos) [] [] cpos) none epos.line X.env = pure false := by rfl)
    (hs : ∀ z, foldedSetIterable (.Name x xp) X.env z = pure z := by intro _; rfl) :
    PS X (.For (.Name y yp) (.Name x xp) [.Expr (.Call (.Attribute (.Name y yp') name apos) [] [] cpos) epos] [] pos) (tS c E (rwS i r m)) :=
  PS.imp (ps_for hp hc (pi_list hx) (pg_name hN hi hy hf) (pss_one (ps_expr (pe_bm0 PySem.F.plainAttrs_list slot hty hm hyv hbase hline) hsw)) hs) fun σ H De ⟨Hs, G, δ, S, q⟩ => by
    unfold rwS at q
    rcases tw2_cases δ[i]? with z | ⟨dss, hd⟩
    · rw [z] at q; exact q.elim
    · rw [hd] at q
      simp only [tw2_ok2, Re.bd_ok] at q
      cases hess : rowAll m dss with
      | none => rw [hess] at q; exact q.elim
      | some ess =>
        rw [hess] at q
        simp only [opt_some, Re.bd_ok] at q
        by_cases hrl : r < δ.length
        case neg => rw [if_neg hrl] at q; exact q.elim
        rw [if_pos hrl] at q
        obtain ⟨le, sp⟩ := rowAll_spec hess
        obtain ⟨l, rs, e1, h1, _, _, pr⟩ := S.sl i _ hd
        have lr : rs.length = dss.length := paired_len pr
        have hilt : i < δ.length := (List.getElem?_eq_some_iff.mp hd).1
        refine ⟨.ref l, e1, l, rfl, ⟨_, SqL.of h1⟩, ?_⟩
        refine ⟨fun k n σ' H' => n = rs.length - k ∧ k ≤ rs.length ∧ ∃ Es, Sat c Hs G H' σ' ((δ.set r .no).set i (.ow2 Es)) ∧ Es.length = rs.length ∧ σ'[i]? = some (some (.ref l)) ∧ H' l = some (.lst (rs.map V.ref)) ∧ ∀ j, Es[j]? = if j < k then ess[j]? else dss[j]?, ⟨rs.length, by omega, Nat.zero_le _, dss, ?_, lr.symm, e1, h1, fun j => by simp⟩, ?_⟩
        · have S0 := S.dropSl r
          have hd0 : (δ.set r .no)[i]? = some (.ow2 dss) := by rw [List.getElem?_set_ne (Ne.symm hir)]; exact hd
          have : (δ.set r .no).set i (.ow2 dss) = δ.set r .no := by
            apply List.ext_getElem?
            intro j
            by_cases e : i = j
            · subst e; rw [List.getElem?_set_self (by rw [List.length_set]; exact hilt), hd0]
            · rw [List.getElem?_set_ne e]
          rw [this]; exact S0
        · rintro k n σ' H' ⟨rfl, hk, Es, S', lE, es', h1', hE⟩
          have hat : ((δ.set r .no).set i (.ow2 Es))[i]? = some (.ow2 Es) := List.getElem?_set_self (by rw [List.length_set]; exact hilt)
          by_cases hlt : k < rs.length
          · right
            have hka : rs[k]? = some rs[k] := List.getElem?_eq_getElem hlt
            obtain ⟨a, ha⟩ : ∃ a, a = rs[k] := ⟨_, rfl⟩
            rw [← ha] at hka
            refine ⟨⟨rs.map V.ref, .ref a, SqL.of h1', by rw [List.getElem?_map, hka]; rfl⟩, _, fun σ2 H2 n => ⟨rs.length - (k + 1), by omega, n⟩, fun v H2 hy2 => ?_⟩
            obtain ⟨rfl, hv2⟩ := hy2
            have ev := hv2 _ (SqL.of h1')
            rw [List.getElem?_map, hka] at ev
            cases ev
            have S2 := S'.forget (v := some (.ref a)) hmr
            have eδ : ((δ.set r .no).set i (.ow2 Es)).set r .no = (δ.set r .no).set i (.ow2 Es) := by
              rw [List.set_comm _ _ (Ne.symm hir), List.set_set]
            rw [eδ] at S2
            have ei : (σ'.set r (some (V.ref a)))[i]? = some (some (.ref l)) := by rw [List.getElem?_set_ne (Ne.symm hir)]; exact es'
            have er : (σ'.set r (some (V.ref a)))[r]? = some (some (.ref a)) := by
              refine List.getElem?_set_self ?_
              have := S'.ln
              rw [List.length_set, List.length_set] at this
              omega
            obtain ⟨l', rs1, e2, h5, h6, h7, h8⟩ := S2.sl i _ hat
            rw [ei] at e2
            cases e2
            have ers : rs = rs1 := by
              rw [h1'] at h5
              injection h5 with h5
              injection h5 with h5
              have := congrArg (List.map fun v => match v with | V.ref a => a | _ => 0) h5
              simpa [List.map_map, Function.comp_def] using this
            subst ers
            have hdk : dss[k]? = some (dss[k]'(by omega)) := List.getElem?_eq_getElem (by omega)
            generalize dss[k]'(by omega) = ds at hdk
            have hEk : Es[k]? = some ds := by rw [hE k, if_neg (Nat.lt_irrefl k)]; exact hdk
            obtain ⟨a', haj, ys, p1, p2, p3⟩ := paired_get h8 hEk
            rw [hka] at haj
            cases haj
            obtain ⟨z, hz, hz2⟩ := sp k ds hdk
            have la : l ≠ a := fun e => (List.nodup_cons.mp h7).1 (e ▸ List.mem_of_getElem? hka)
            refine ⟨.ref a, er, .inl ⟨rfl, ys, SqL.of p1⟩, hv c.K Hs _ a ys [] ds [] z.1 z.2 p1 S2.sh p3.1 p2 .nil hz _ fun xs' v rx rv => ⟨rfl, hlt, Es.set k z.1, ?_, by rw [List.length_set]; exact lE, ei, by rw [upd_ne la]; exact h1', fun j => ?_⟩⟩
            · have S3 := S2.writeRow hat ei h1' hka rx
              rw [List.set_set] at S3
              exact S3
            · by_cases ej : k = j
              · subst ej
                rw [List.getElem?_set_self (by omega), if_pos (Nat.lt_succ_self k), hz2]
              · rw [List.getElem?_set_ne ej, hE j]
                by_cases hj : j < k
                · rw [if_pos hj, if_pos (by omega)]
                · rw [if_neg hj, if_neg (by omega)]
          · left
            have e : k = rs.length := by omega
            subst e
            refine ⟨⟨_, SqL.of h1', by simp⟩, ?_⟩
            have eE : Es = ess := by
              apply List.ext_getElem?
              intro j
              rw [hE j]
              by_cases hj : j < rs.length
              · rw [if_pos hj]
              · rw [if_neg hj, List.getElem?_eq_none (by omega), List.getElem?_eq_none (by omega)]
            rw [eE] at S'
            exact q σ' Hs H' (Same.refl _) S'
end
end DL

/-! DL33: [new list for ..] without effects (to be lent) -/
namespace DL
open PySem L2
def pRw (f : En → Re (List D)) : En → Re (List (List D)) := fun δ => (f δ).bd fun p => opt (rowsOf p)
theorem eRw_pu (f : En → Re (List D)) : eRw (Pu f) = Pu (pRw f) := by
  funext δ
  unfold eRw Pu pRw
  cases f δ with
  | ok d =>
    simp only [Re.bd_ok]
  | _ => rfl
theorem fz_pure (f : En → Re (List D)) : fz (Pu f) = Pu (pFz f) := by
  funext δ
  unfold fz Pu pFz
  cases f δ <;> rfl
section
variable {X : Cx} {c : DC} {E : XK} {e : Expr}
theorem uLcR {fi : En → Re (List D)} {vs : List Nat} {g : D → En → Option En} {t : En → Re Bool} {f : En → Re (List D)} (gok : GOk vs g) (h : PE X e (tF2 c E (eRw (eLc (Pu fi) vs g (Pu t) (fz (Pu f)))))) : PE X e (tF2 c E (Pu (pRw (pLc fi vs g t (pFz f))))) := by
  rw [fz_pure, eLc_pu gok, eRw_pu] at h
  exact h
end
end DL

/-! DL34: x op= e, y[i] op= e; y.update({..}); dicts that are read as data -/
namespace DL
open PySem L2
section
variable {X : Cx}
def ipAddX : TIp := fun x y H Q => ipI (fun i j => i + j) x y H Q ∨ ∃ i j, x = .str i ∧ y = .str j ∧ i.length + j.length ≤ sizeLine ∧ Q (.str (i ++ j)) H
theorem ip_addX : PIp X .Add ipAddX := fun pins s σ H x y v u Q I r1 r2 h => by
  rcases h with h | h
  · exact ip_add pins s σ H x y v u Q I r1 r2 h
  · exact iop_add_str pins s σ H x y v u Q I r1 r2 h
theorem ip_mulX : PIp X .Mult (rI CMulX fun i j => .int (i * j)) := by
  intro pins s σ H x y v u Q I r1 r2 h
  obtain ⟨i, j, rfl, rfl, hc, q⟩ := h
  obtain ⟨t, rfl⟩ := r1
  obtain ⟨t', rfl⟩ := r2
  exact PySem.P.imul_int (hm := hc.ok) ⟨.int _, H, I.tok _, ⟨_, rfl⟩, q⟩
def VIp (r : TIp) (g : D → D → Option D) : Prop := ∀ (K : PySem.W.Frag) (Hs H : Hp) (x y : V) (dx dy d : D), Rp K Hs x dx → Rp K Hs y dy → g dx dy = some d → ∃ v, Rp K Hs v d ∧ ∀ Q : VK, Q v H → r x y H Q
def gIAdd : D → D → Option D
  | .int i, .int j => some (.int (i + j))
  | .str a, .str b => if a.length + b.length ≤ 1000000 then some (.str (a ++ b)) else none
  | _, _ => none
def gISub : D → D → Option D
  | .int i, .int j => some (.int (i - j))
  | _, _ => none
theorem vIAdd : VIp ipAddX gIAdd := fun K Hs H x y dx dy d rx ry e => by
  unfold gIAdd at e
  split at e
  · cases e; cases rx; cases ry
    exact ⟨_, .int _, fun Q q => .inl ⟨_, _, rfl, rfl, q⟩⟩
  · split at e
    · rename_i hl
      cases e; cases rx; cases ry
      exact ⟨_, .str _, fun Q q => .inr ⟨_, _, rfl, rfl, million hl, q⟩⟩
    · cases e
  · cases e
theorem vISub : VIp (ipI fun i j => i - j) gISub := fun K Hs H x y dx dy d rx ry e => by
  unfold gISub at e
  split at e
  · cases e; cases rx; cases ry
    exact ⟨_, .int _, fun Q q => ⟨_, _, rfl, rfl, q⟩⟩
  · cases e
theorem vIMul : VIp (rI CMulX fun i j => .int (i * j)) gMul := fun K Hs H x y dx dy d rx ry e => by
  unfold gMul at e
  split at e
  · split at e
    · rename_i hl
      cases e; cases rx; cases ry
      exact ⟨_, .int _, fun Q q => ⟨_, _, rfl, rfl, mulx_of hl, q⟩⟩
    · cases e
  · cases e
/-- x op= e -/
def auS (i : Nat) (g : D → D → Option D) (fe : En → Re (D × En)) : En → Re Fl := fun δ => (pV i δ).bd fun x => (fe δ).bd fun p => (opt (g x p.1)).bd fun d => .ok (.nx (p.2.set i (.sh d)))
theorem pV_ok {i : Nat} {δ : En} : pV i δ = .bad ∨ ∃ d, δ[i]? = some (.sh d) ∧ pV i δ = .ok d := by
  unfold pV
  cases δ[i]? with
  | none => exact .inl rfl
  | some s => cases s with
    | sh d => exact .inr ⟨d, rfl, rfl⟩
    | _ => exact .inl rfl
variable {c : DC} {E : XK} {e b a : Expr} {pos : Pos} {x : Str} {xp : Pos} {op : Operator} {r : TIp} {g : D → D → Option D} {fe fi : En → Re (D × En)} {k : Nat}
theorem ds_aug {i : Nat} (hm : i ∉ c.mi) (hN : X.N.Nodup) (hi : X.N[i]? = some x) (hx : Loc X.env.scope x) (he : PE X e (tD c E fe)) (ho : PIp X op r) (hr : VIp r g) (hf : X.fn x = true ∨ X.env.scope.names.lookup x = some .local := by first | exact .inl rfl | exact .inr rfl | assumption) :
    PS X (.AugAssign (.Name x xp) op e pos) (tS c E (auS i g fe)) := PS.imp (ps_aug hN hi hx he ho hf) fun σ H De ⟨Hs, G, δ, S, q⟩ => by
  unfold auS at q
  rcases pV_ok (i := i) (δ := δ) with z | ⟨d0, hd, z⟩
  · rw [z] at q; exact q.elim
  · rw [z] at q
    simp only [Re.bd_ok] at q
    obtain ⟨v0, e1, r0⟩ := S.sl i _ hd
    refine ⟨v0, e1, Hs, G, δ, S, PoS.seq q fun d1 δ1 Hs1 H1 s1 q1 v S1 r1 => ?_⟩
    simp only at q1
    cases hg : g d0 d1 with
    | none => rw [hg] at q1; exact q1.elim
    | some d =>
      rw [hg] at q1
      obtain ⟨w, rw', hq⟩ := hr c.K Hs1 H1 v0 v d0 d1 d (dp_mono s1 r0) r1 hg
      exact hq _ (q1 _ Hs1 H1 (Same.refl _) (S1.setSh hm rw'))
theorem pget_list : PGet X (rIxL X.K) := by
  intro pins s σ H x y v u Q I rx ry h
  obtain ⟨p, xs, i, z, rfl, rfl, hq, he, q⟩ := h
  cases rx
  obtain ⟨t, rfl⟩ := ry
  obtain ⟨its, r, pl, hz⟩ := I.list hq
  obtain ⟨j, h1, h2, h3, h4, h5⟩ := atI_get he
  obtain ⟨w, ew, rw'⟩ := r.get h2
  have hl := r.length
  have hn := line63
  have fin : EP X pins σ Q w s := ⟨z, H, I, rw', q⟩
  by_cases h0 : 0 ≤ i
  · have hj : i.toNat = j := by
      rw [seqIndex_of h0 h5] at h1
      exact Option.some.inj h1
    exact wpAny_getItem_list pl.isList h0 (by omega) (by rw [hj]; simpa using ew) fin
  · have hj : (i + (its.toArray.size : Int)).toNat = j := by
      rw [seqIndex_neg (by omega) h4] at h1
      rw [List.size_toArray, ← hl]
      exact Option.some.inj h1
    exact wpAny_getItem_list_neg pl.isList (by omega) (by rw [List.size_toArray] <;> omega) (by omega) (by rw [hj]; simpa using ew) fin
/-- y[i] op= e -/
def auB (k : Nat) (g : D → D → Option D) (fi fe : En → Re (D × En)) : En → Re Fl := fun δ => (tow δ[k]?).bd fun _ => (fi δ).bd fun q => match q.1 with
  | .int i => (tow q.2[k]?).bd fun ds => (opt (atI ds i)).bd fun x => (fe q.2).bd fun p => (opt (g x p.1)).bd fun d => (tow p.2[k]?).bd fun ds' => (opt (ixN ds'.length i)).bd fun j => .ok (.nx (p.2.set k (.ow (ds'.set j d))))
  | _ => .bad
theorem rpa_at {K : PySem.W.Frag} {H : Hp} {xs : List V} {ds : List D} {i : Int} {d : D} (h : RpAll K H xs ds) (e : atI ds i = some d) : ∃ v, atI xs i = some v ∧ Rp K H v d := by
  unfold atI at e ⊢
  rw [dpa_len h]
  cases hj : ixN ds.length i with
  | none => rw [hj] at e; cases e
  | some j =>
    rw [hj] at e
    exact dpa_get h e
theorem tow_or (s : Option Sl) : tow s = .bad ∨ ∃ ds, s = some (.ow ds) ∧ tow s = .ok ds := by
  rcases tow_cases s with z | ⟨ds, z⟩
  · exact .inl z
  · exact .inr ⟨ds, z, by rw [z]; rfl⟩
theorem ds_augB {ix : Expr} {spos : Pos} (hx : PE X (.Name x xp) (tVar k)) (hi : PE X ix (tD c E fi)) (he : PE X e (tD c E fe)) (ho : PIp X op r) (hr : VIp r g) (hK : c.K = X.K := by rfl)
    (ha : ∀ ov iv new, augStore ix ov iv new = (do holding [new, ov, iv] (setItem ov iv new); release [new, ov, iv] []; pure .next) := by intros; rfl) :
    PS X (.AugAssign (.Subscript (.Name x xp) ix spos) op e pos) (tS c E (auB k g fi fe)) := PS.imp (ps_augS hx hi pget_list he ho set_list ha) fun σ H De ⟨Hs, G, δ, S, q⟩ => by
  unfold auB at q
  rcases tow_or δ[k]? with z | ⟨ds0, hk, z⟩
  · rw [z] at q; exact q.elim
  · rw [z] at q
    simp only [Re.bd_ok] at q
    obtain ⟨l, xs0, e1, h1, _, _⟩ := S.sl k _ hk
    refine ⟨.ref l, e1, Hs, G, δ, S, PoS.seq q fun di δ1 Hs1 H1 s1 q1 iv S1 r1 => ?_⟩
    simp only at q1
    cases r1 with
    | int i =>
      simp only at q1
      rcases tow_or δ1[k]? with z | ⟨ds, hk1, z⟩
      · rw [z] at q1; exact q1.elim
      · rw [z] at q1
        simp only [Re.bd_ok] at q1
        obtain ⟨l', xs, e2, h2, r2, _⟩ := S1.sl k _ hk1
        rw [e1] at e2
        cases e2
        cases hx : atI ds i with
        | none => rw [hx] at q1; exact q1.elim
        | some d0 =>
          rw [hx] at q1
          simp only [Re.bd_ok, opt] at q1
          obtain ⟨v0, a0, rv0⟩ := rpa_at r2 hx
          refine ⟨l, xs, i, v0, rfl, rfl, SqL.of h2, a0, Hs1, G, δ1, S1, PoS.seq q1 fun d1 δ2 Hs2 H2 s2 q2 v S2 rv => ?_⟩
          simp only at q2
          cases hg : g d0 d1 with
          | none => rw [hg] at q2; exact q2.elim
          | some d =>
            rw [hg] at q2
            simp only [Re.bd_ok] at q2
            obtain ⟨w, rw', hq⟩ := hr c.K Hs2 H2 v0 v d0 d1 d (dp_mono s2 rv0) rv hg
            refine hq _ ?_
            rcases tow_or δ2[k]? with z | ⟨ds', hk2, z⟩
            · rw [z] at q2; exact q2.elim
            · rw [z] at q2
              simp only [Re.bd_ok] at q2
              obtain ⟨l2, xs2, e3, h3, r3, _⟩ := S2.sl k _ hk2
              rw [e1] at e3
              cases e3
              cases hj : ixN ds'.length i with
              | none => rw [hj] at q2; exact q2.elim
              | some j =>
                rw [hj] at q2
                exact ⟨l, xs2, i, j, rfl, rfl, h3, by rw [dpa_len r3]; exact hj, q2 σ Hs2 _ (Same.refl _) (S2.writeOw hk2 e1 (dpa_set r3 rw'))⟩
    | _ => exact q1.elim
/-! ### y.update({..}) -/
def rDUpd : V → List V → Hp → VK → Prop := fun x vs H Q => ∃ (a b : Addr) (kvs mvs : List (Key × V)), x = .ref a ∧ vs = [.ref b] ∧ a ≠ b ∧ H a = some (.dK kvs) ∧ Rd H b (.dK mvs) ∧ kvs.length + mvs.length ≤ sizeLine ∧ Q .non (upd H a (.dK (mergeK kvs mvs)))
theorem mtd_update : MtR X "dict.update" rDUpd := by
  intro pins s σ H x vs v us Q I rx rv h
  obtain ⟨a, b, kvs, mvs, rfl, rfl, ne, e, eb, hz, q⟩ := h
  obtain rfl : v = Value.ref a := rx
  obtain ⟨u, rfl, ru⟩ := vals1 rv
  cases ru
  obtain ⟨z, hd, ws, rel, dd⟩ := dk_of I.hok e
  obtain ⟨z2, hd2, ws2, rel2, dd2⟩ := dk_rd I.hok eb
  refine call_meetsIn PySem.F.slot_dict_update dd.typeIs PySem.F.entry_dict_update (PySem.F.args_dict_update_2 _ _) (meets_dict_update (mixKind X.prog X.w) a b ne hd2) ⟨ws, ws2, dd, dd2, by rw [← rel.length, ← rel2.length]; exact hz, fun h' dd' _ hs => ?_⟩
  have he : ∃ q, h'.get? a = some q := let ⟨q, _, _, hq, _⟩ := dd'; ⟨q, hq⟩
  exact ⟨.non, _, d_write (t' := s.toks) I (by rw [e]; exact True.intro) hs he (dk_new (Nat.le_trans (length_mergeK _ _) hz) hd (KV.merge rel2 rel) dd'), rfl, q⟩
def mergeD (kvs mvs : List (Key × D)) : List (Key × D) := mvs.foldl (fun acc kv => putD acc kv.1 kv.2) kvs
theorem kvd_merge {K : PySem.W.Frag} {H : Hp} : ∀ {mk : List (Key × V)} {mvs : List (Key × D)} {ks : List (Key × V)} {kvs : List (Key × D)}, KVd K H mk mvs → KVd K H ks kvs → KVd K H (mergeK ks mk) (mergeD kvs mvs)
  | _, _, _, _, .nil, h => h
  | _, _, ks, kvs, .cons (a := p) (b := q) h1 h2, h => by
    show KVd K H (mergeK (putK ks p.1 p.2) _) (mergeD (putD kvs q.1 q.2) _)
    rw [← h1.1]
    exact kvd_merge h2 (kvd_put h h1.2)
def eUpd (i : Nat) (f : En → Re (List (Key × D) × En)) : En → Re (D × En) := fun δ => (tdk δ[i]?).bd fun _ => (f δ).bd fun p => (tdk p.2[i]?).bd fun kvs => if kvs.length + p.1.length ≤ 1000000 then .ok (.none, p.2.set i (.dk (mergeD kvs p.1))) else .bad
theorem e_upd {i : Nat} {f : En → Re (List (Key × D) × En)} {apos cpos : Pos} (ho : PE X (.Name x xp) (tVar i)) (ha : PE X e (tDk c E f))
    (hbase : attributeBase (.Name x xp) "update" X.env (eval (.Name x xp) X.env) = eval (.Name x xp) X.env := by rfl)
    (hfew : ((backTo cpos (starEach [e] X.env)).all (fun x => !x.1) && (backToKw cpos (keywordEach [] X.env)).all (fun x => x.1.isSome)
      && decide ([e].length + ([] : List Keyword).length + (if ([] : List Keyword).isEmpty then 0 else 1) < 30)) = true := by rfl)
    (hline : (apos.endLine == cpos.line) = true := by rfl) (hs : starEach [e] X.env = (false, eval e X.env) :: starEach [] X.env := by rfl) (hplain : (backTo cpos (starEach [] X.env)).any (·.1) = false := by rfl) :
    PE X (.Call (.Attribute (.Name x xp) "update" apos) [e] [] cpos) (tD c E (eUpd i f)) :=
  PE.imp (pe_bm PySem.F.plainAttrs_dict PySem.F.slot_dict_update PySem.F.type_dict_update mtd_update ho (pa_cons ha pa_nil hs) hbase hfew hline hs hplain) fun σ H Q ⟨Hs, G, δ, S, q⟩ => by
    unfold eUpd at q
    rcases tdk_cases δ[i]? with z | ⟨kvs0, hi⟩
    · rw [z] at q; exact q.elim
    · rw [hi] at q
      simp only [tdk_dk, Re.bd_ok] at q
      obtain ⟨l, xs, e1, h1, _, _⟩ := S.sl i _ hi
      refine ⟨.ref l, e1, .inr (.inr (.inl ⟨rfl, .inl ⟨_, h1⟩⟩)), Hs, G, δ, S, PoG.seq q fun ms δ1 Hs1 H1 s1 q1 p ks S1 L hp rp => ?_⟩
      simp only at q1
      rcases tdk_cases δ1[i]? with z | ⟨kvs, hi1⟩
      · rw [z] at q1; exact q1.elim
      · rw [hi1] at q1
        simp only [tdk_dk, Re.bd_ok] at q1
        split at q1
        · rename_i hl
          obtain ⟨l', ys, e2, h2, r2, w2⟩ := S1.sl i _ hi1
          rw [e1] at e2
          cases e2
          have ne : l ≠ p := fun z => by
            subst z
            exact L.f i _ hi1 (by rw [e1]; rfl)
          exact ⟨l, p, ys, ks, rfl, rfl, ne, h2, .inl hp, by rw [kvd_len r2, kvd_len rp]; exact million hl, q1 Hs1 _ (Same.refl _) _ (S1.writeDk hi1 e1 (kvd_merge rp r2)) .non⟩
        · exact q1.elim
/-! ### dicts that are read -/
/-- y[k], y a dict that is no longer changed -/
def dicGet : D → D → Option D
  | .dict ps, k => (ps.find? fun p => match keyOf k, keyOf p.1 with | some a, some b => decide (b = a) | _, _ => false).map (·.2)
  | _, _ => none
theorem keyD_of (k : Key) : keyOf (keyD k) = some k := by cases k <;> rfl
theorem dicGet_dk (kvs : List (Key × D)) (k : D) : dicGet (dkD kvs) k = (keyOf k).bind (valD kvs) := by
  unfold dicGet dkD
  simp only
  cases hk : keyOf k with
  | none =>
    simp only [Option.bind_none, Option.map_eq_none_iff, List.find?_eq_none]
    intro p hp; simp
  | some z =>
    rw [Option.bind_some]
    unfold valD
    rw [List.find?_map]
    simp only [Function.comp_def, keyD_of, Option.map_map]
theorem rp_dk {K : PySem.W.Frag} {H : Hp} {v : V} {d : D} (r : Rp K H v d) (h : ∃ ps, d = .dict ps) : ∃ a ks kvs, v = .ref a ∧ Rd H a (.dK ks) ∧ KVd K H ks kvs ∧ d = dkD kvs := by
  obtain ⟨ps, rfl⟩ := h
  generalize hd : PyData.dict ps = d at r
  cases r with
  | @dic a ns xs ds h1 h2 h3 =>
    refine ⟨a, ns.zip xs, ns.zip ds, rfl, h1, ?_, ?_⟩
    · clear h1 hd
      induction ns generalizing xs ds with
      | nil => exact .nil
      | cons n ns ih =>
        cases h3 with
        | nil => simp at h2
        | cons q1 q2 => exact .cons ⟨rfl, q1⟩ (ih (by simpa using h2) q2)
    · unfold dkD dicD; rfl
  | _ => cases hd
variable {fa fb : En → Re (D × En)}
theorem dicGet_some {d k r : D} (h : dicGet d k = some r) : ∃ ps, d = .dict ps := by
  unfold dicGet at h
  split at h
  · exact ⟨_, rfl⟩
  · cases h
theorem e_dx (hr : RoomG k X.A) (ha : PE X a (tD c E fa)) (hb : PE X b (tD c E fb)) (hs : NoSl b := by exact fun _ _ => rfl) : PE X (.Subscript a b pos) (tD c E (eOp dicGet fa fb)) :=
  PE.imp (pe_dget (by have := room65 hr; omega) ha hb hs) fun σ H Q ⟨Hs, G, δ, S, q⟩ => ⟨Hs, G, δ, S, by
    unfold eOp at q
    refine PoG.seq q fun d δ1 Hs1 H1 s1 q1 v S1 r1 => ⟨Hs1, G, δ1, S1, PoG.seq q1 fun d2 δ2 Hs2 H2 s2 q2 v2 S2 r2 => ?_⟩
    simp only at q2
    cases hz : dicGet d d2 with
    | none => rw [hz] at q2; exact q2.elim
    | some r =>
      rw [hz] at q2
      obtain ⟨p, ks, kvs, rfl, h1, h2, rfl⟩ := rp_dk (dp_mono s2 r1) (dicGet_some hz)
      rw [dicGet_dk] at hz
      cases hk : keyOf d2 with
      | none => rw [hk] at hz; cases hz
      | some z =>
        rw [hk, Option.bind_some] at hz
        rcases kvd_val h2 z with ⟨_, n2⟩ | ⟨w, dv, n1, n2, rw'⟩
        · rw [n2] at hz; cases hz
        · rw [n2] at hz
          cases hz
          have ek := key_rp r2 hk
          subst ek
          refine ⟨p, w, rfl, .inl ⟨ks, z, same_rd S2.sh h1, rfl, n1.symm⟩, q2 Hs2 H2 (Same.refl _) w S2 rw'⟩⟩
/-- k in y, k not in y -/
def dicIn (neg : Bool) : D → D → Option D
  | k, .dict ps => (keyOf k).map fun z => .bool (xor neg (ps.any fun p => decide (keyOf p.1 = some z)))
  | _, _ => none
end
end DL

/-! DL35: {k: v, ..}, y.get(k, v), int(x), str(n), divmod, xs.remove(n), list(zip(a, b)) -/
namespace DL
open PySem L2
section
variable {X : Cx} {c : DC} {E : XK} {e a b o : Expr} {pos p : Pos} {x : Str} {xp : Pos} {i k : Nat} {fr : En → Re (List D × En)}
/-! ### displays of dicts -/
def eP0 : En → Re (List (D × D) × En) := fun δ => .ok ([], δ)
def ePc (fk fv : En → Re (D × En)) (fr : En → Re (List (D × D) × En)) : En → Re (List (D × D) × En) := fun δ => (fk δ).bd fun p => (fv p.2).bd fun q => (fr q.2).bd fun r => .ok ((p.1, q.1) :: r.1, r.2)
def keysOf : List (D × D) → Option (List (Key × D))
  | [] => some []
  | (a, v) :: r => (keyOf a).bind fun z => (keysOf r).map fun l => (z, v) :: l
def RpP (K : PySem.W.Frag) (H : Hp) : List (V × V) → List (D × D) → Prop := Paired fun p q => Rp K H p.1 q.1 ∧ Rp K H p.2 q.2
theorem rpp_mono {K : PySem.W.Frag} {H H' : Hp} (s : Same H H') {vs : List (V × V)} {ps : List (D × D)} (h : RpP K H vs ps) : RpP K H' vs ps := paired_mono (fun _ _ q => ⟨dp_mono s q.1, dp_mono s q.2⟩) h
def DPs (c : DC) (E : XK) (trs : List (TE × TE)) (fr : En → Re (List (D × D) × En)) : Prop := ∀ (σ : St) (H Hs G : Hp) (δ : En) (Q : List (V × V) → Hp → Prop), Sat c Hs G H σ δ →
  PoG c E Hs G (fun ps δ' Hs' H' => ∀ vs, Sat c Hs' G H' σ δ' → RpP c.K Hs' vs ps → Q vs H') (fr δ) → tPairs trs σ H Q
theorem dp_p0 : DPs c E [] eP0 := fun σ H Hs G δ Q S q => q Hs H (Same.refl _) [] S .nil
theorem dp_pc {fk fv : En → Re (D × En)} {fr : En → Re (List (D × D) × En)} {trs : List (TE × TE)} (h : DPs c E trs fr) : DPs c E ((tD c E fk, tD c E fv) :: trs) (ePc fk fv fr) := fun σ H Hs G δ Q S q => by
  unfold ePc at q
  refine ⟨Hs, G, δ, S, PoG.seq q fun d1 δ1 Hs1 H1 s1 q1 v1 S1 r1 => ⟨Hs1, G, δ1, S1, PoG.seq q1 fun d2 δ2 Hs2 H2 s2 q2 v2 S2 r2 => ?_⟩⟩
  refine h σ H2 Hs2 G δ2 _ S2 (PoG.seq q2 fun ps δ3 Hs3 H3 s3 q3 vs S3 r3 => ?_)
  exact q3 Hs3 H3 (Same.refl _) _ S3 (.cons ⟨dp_mono (s2.trans s3) r1, dp_mono s3 r2⟩ r3)
def eDsp (fr : En → Re (List (D × D) × En)) : En → Re (List (Key × D) × En) := fun δ => (fr δ).bd fun p => (opt (keysOf p.1)).bd fun kvs => if kvs.length ≤ 15 then .ok (mergeD [] kvs, p.2) else .bad
theorem keys_rp {K : PySem.W.Frag} {H : Hp} : ∀ {vs : List (V × V)} {ps : List (D × D)} {kvs : List (Key × D)}, RpP K H vs ps → keysOf ps = some kvs → ∃ ks, vs = ks.map (fun kv => (kV kv.1, kv.2)) ∧ KVd K H ks kvs
  | _, _, _, .nil, h => by
    cases h; exact ⟨[], rfl, .nil⟩
  | _, _, _, .cons (a := v) (b := d) h1 h2, h => by
    obtain ⟨d1, d2⟩ := d
    unfold keysOf at h
    obtain ⟨z, e1, e2⟩ := Option.bind_eq_some_iff.mp h
    obtain ⟨l, e3, e4⟩ := Option.map_eq_some_iff.mp e2
    subst e4
    obtain ⟨ks, q1, q2⟩ := keys_rp h2 e3
    have ek := key_rp h1.1 e1
    refine ⟨(z, v.2) :: ks, ?_, .cons ⟨rfl, h1.2⟩ q2⟩
    rw [List.map_cons, ← q1]
    show v :: _ = (kV z, v.2) :: _
    rw [← ek]
theorem e_dsp {keys : List (Option Expr)} {values : List Expr} {trs : List (TE × TE)} {fr : En → Re (List (D × D) × En)} (h : PPs X pos keys values trs) (hd : DPs c E trs fr) (hall : keys.all (·.isSome) = true := by rfl) (hl : keys.length = values.length := by rfl) (h0 : keys ≠ [] := by exact fun z => nomatch z)
    (h15 : keys.length ≤ 15 := by decide) : PE X (.Dict keys values pos) (tDk c E (eDsp fr)) := PE.imp (pe_disp h hall hl h0 h15) fun σ H Q ⟨Hs, G, δ, S, q⟩ p hp => by
  unfold eDsp at q
  have hIn : c.Hin p = none := Sat.fresh_in S.toFrm hp
  have hG : G p = none := Sat.fresh_G S.toFrm hp
  have sg : Same G (upd G p (.dK [])) := same_new hG
  refine hd σ _ Hs (upd G p (.dK [])) δ _ (S.hide hp) (PoG.seqG sg q fun ps δ1 Hs1 H1 s1 q1 vs S1 r1 => ?_)
  simp only at q1
  have hp1 : H1 p = some (.dK []) := S1.gm _ _ upd_same
  cases hk : keysOf ps with
  | none => rw [hk] at q1; exact q1.elim
  | some kvs =>
    rw [hk] at q1
    simp only [opt, Re.bd_ok] at q1
    split at q1
    · rename_i hl
      obtain ⟨ks, e1, kd⟩ := keys_rp r1 hk
      have kl : ks.length ≤ 15 := by rw [kvd_len kd]; exact hl
      refine ⟨hp1, ks, e1, kl, ?_⟩
      have S2 := S1.regrow (o' := .dK (mergeK [] ks)) upd_same hIn
      rw [upd_upd] at S2
      have sg2 : Same G (upd G p (.dK (mergeK [] ks))) := same_new hG
      refine q1 Hs1 _ (Same.refl _) p (mergeK [] ks) (S2.weakG sg2) ⟨?_, hG, hIn, fun j s hj fo => ?_⟩ upd_same (kvd_merge kd .nil)
      · cases z : Hs1 p with
        | none => rfl
        | some u =>
          obtain ⟨o, ho⟩ := S2.gs p _ u upd_same z
          rw [hIn] at ho; cases ho
      · have := (foot_own (S2.sl j s hj) fo).1.2.1
        rw [upd_same] at this
        cases this
    · exact q1.elim
/-- a new dict as stable data -/
def fzK (f : En → Re (List (Key × D) × En)) : En → Re (D × En) := fun δ => (f δ).bd fun p => .ok (dkD p.1, p.2)
theorem de_fzK {f : En → Re (List (Key × D) × En)} (h : PE X e (tDk c E f)) : PE X e (tD c E (fzK f)) := PE.imp h fun σ H Q ⟨Hs, G, δ, S, q⟩ => ⟨Hs, G, δ, S, by
  unfold fzK at q
  exact PoG.seq q fun kvs δ1 Hs1 H1 s1 q1 p ks S1 L hp rp => by
    have sn : Same Hs1 (upd Hs1 p (.dK ks)) := same_new L.s
    refine q1 _ H1 sn (.ref p) (S1.freeze L hp) ?_
    obtain ⟨a1, a2⟩ := kvd_all rp
    rw [dkD_dic]
    refine .dic (xs := ks.map (·.2)) (.inl ?_) (by rw [← a1]; simp) (dpa_mono sn a2)
    rw [upd_same, ← a1, List.zip_map', show (ks.map fun x => (x.1, x.2)) = ks from List.map_id' ks]⟩
/-- y.get(k, v), y a dict that is no longer changed -/
def dicGetOr (d k v : D) : Option D := match d with
  | .dict _ => (keyOf k).map fun _ => (dicGet d k).getD v
  | _ => none
def eGet3 (fo fa fb : En → Re (D × En)) : En → Re (D × En) := fun δ => (fo δ).bd fun p => match p.1 with
  | .dict _ => (fa p.2).bd fun q => (fb q.2).bd fun r => (opt (dicGetOr p.1 q.1 r.1)).bd fun d => .ok (d, r.2)
  | _ => .bad
def pGet3 (fo fa fb : En → Re D) : En → Re D := fun δ => (fo δ).bd fun p => match p with
  | .dict _ => (fa δ).bd fun q => (fb δ).bd fun r => opt (dicGetOr p q r)
  | _ => .bad
theorem eGet3_pu (fo fa fb : En → Re D) : eGet3 (Pu fo) (Pu fa) (Pu fb) = Pu (pGet3 fo fa fb) := by
  funext δ; unfold eGet3 Pu pGet3
  cases fo δ with
  | ok d =>
    simp only [Re.bd_ok]
    cases d <;> try rfl
    cases fa δ with
    | ok q =>
      simp only [Re.bd_ok]
      cases fb δ <;> rfl
    | _ => rfl
  | _ => rfl
theorem e_get3 {fo fa fb : En → Re (D × En)} {apos cpos : Pos} (hr : RoomG k X.A) (ho : PE X o (tD c E fo)) (ha : PE X a (tD c E fa)) (hb : PE X b (tD c E fb))
    (m : M2 X o "get" apos a b cpos := by exact ⟨by rfl, by rfl, by rfl, by rfl⟩) : PE X (.Call (.Attribute o "get" apos) [a, b] [] cpos) (tD c E (eGet3 fo fa fb)) :=
  PE.imp (pe_dget2 (by have := room65 hr; omega) ho ha hb m) fun σ H Q ⟨Hs, G, δ, S, q⟩ => ⟨Hs, G, δ, S, by
    unfold eGet3 at q
    refine PoG.seq q fun d δ1 Hs1 H1 s1 q1 v S1 r1 => ?_
    cases d with
    | dict ps =>
      simp only at q1
      obtain ⟨p, ks, kvs, rfl, h1, h2, hd⟩ := rp_dk r1 ⟨_, rfl⟩
      refine ⟨p, rfl, .inl ⟨ks, same_rd S1.sh h1⟩, Hs1, G, δ1, S1, PoG.seq q1 fun d2 δ2 Hs2 H2 s2 q2 v2 S2 r2 => ⟨Hs2, G, δ2, S2, PoG.seq q2 fun d3 δ3 Hs3 H3 s3 q3 v3 S3 r3 => ?_⟩⟩
      simp only at q3
      rw [hd] at q3
      unfold dicGetOr at q3
      rw [show dkD kvs = PyData.dict (kvs.map fun p => (keyD p.1, p.2)) from rfl] at q3
      simp only at q3
      rw [show PyData.dict (kvs.map fun p => (keyD p.1, p.2)) = dkD kvs from rfl, dicGet_dk] at q3
      cases hk : keyOf d2 with
      | none => rw [hk] at q3; exact q3.elim
      | some z =>
        rw [hk] at q3
        simp only [Option.map_some, Option.bind_some, opt, Re.bd_ok] at q3
        have h2' := kvd_mono (s2.trans s3) h2
        have ek := key_rp (dp_mono s3 r2) hk
        subst ek
        refine ⟨valV ks z, .inl ⟨ks, z, same_rd S3.sh (same_rd (s2.trans s3) h1), rfl, rfl⟩, ?_⟩
        rcases kvd_val h2' z with ⟨n1, n2⟩ | ⟨w, dv, n1, n2, rw'⟩
        · rw [n1]
          rw [n2] at q3
          exact q3 Hs3 H3 (Same.refl _) _ S3 r3
        · rw [n1]
          rw [n2] at q3
          exact q3 Hs3 H3 (Same.refl _) _ S3 rw'
    | _ => exact q1.elim⟩
theorem uGet3 {fo fa fb : En → Re D} (h : PE X e (tD c E (eGet3 (Pu fo) (Pu fa) (Pu fb)))) : PE X e (tD c E (Pu (pGet3 fo fa fb))) := eGet3_pu fo fa fb ▸ h
/-! ### int(n), int(True), int(text) -/
def gInt : List D → Option D
  | [.int i] => some (.int i)
  | [.bool b] => some (.int (if b then 1 else 0))
  | [.str a] => if a.length ≤ 640 then (PySem.intText? a).map .int else none
  | _ => none
theorem vInt : VCall c (fun xs H Q => ((∃ i, xs = [.int i] ∧ Q (.int i) H) ∨ ∃ k, xs = [.bl k] ∧ Q (.int (if k then 1 else 0)) H) ∨ ∃ a n, xs = [.str a] ∧ PySem.intText? a = some n ∧ a.length ≤ 640 ∧ Q (.int n) H) gInt := VCall.of fun Hs H vs ds d s r e => by
  unfold gInt at e
  split at e
  · cases e
    obtain ⟨v, rfl, rv⟩ := rpa1 r
    cases rv
    exact ⟨_, .int _, fun Q q => .inl (.inl ⟨_, rfl, q⟩)⟩
  · cases e
    obtain ⟨v, rfl, rv⟩ := rpa1 r
    cases rv
    exact ⟨_, .int _, fun Q q => .inl (.inr ⟨_, rfl, q⟩)⟩
  · split at e
    · rename_i hl
      obtain ⟨n, e1, e2⟩ := Option.map_eq_some_iff.mp e
      subst e2
      obtain ⟨v, rfl, rv⟩ := rpa1 r
      cases rv
      exact ⟨_, .int _, fun Q q => .inr ⟨_, _, rfl, e1, hl, q⟩⟩
    · cases e
  · cases e
theorem e_int (hm : X.mg "int" = none) (ha : PA X [e] (tA c E fr)) (hg : Gl X "int" := by rfl) (he : starEach [e] X.env = (false, eval e X.env) :: starEach [] X.env := by rfl) : PE X (.Call (.Name "int" p) [e] [] pos) (tD c E (eCa gInt fr)) := de_callT (CallR.or call_int1 call_int_str) vInt hg hm (by decide +kernel) ha (he := he)
/-! ### str(n), str(text) -/
def gStr : List D → Option D
  | [.int i] => if i.natAbs.log2 < 1920 then some (.str (toString i)) else none
  | [.str a] => some (.str a)
  | _ => none
theorem vStr : VCall c (fun xs H Q => (∃ i, xs = [.int i] ∧ i.natAbs.log2 < 1920 ∧ Q (.str (toString i)) H) ∨ ∃ a, xs = [.str a] ∧ Q (.str a) H) gStr := VCall.of fun Hs H vs ds d s r e => by
  unfold gStr at e
  split at e
  · split at e
    · rename_i hl
      cases e
      obtain ⟨v, rfl, rv⟩ := rpa1 r
      cases rv
      exact ⟨_, .str _, fun Q q => .inl ⟨_, rfl, hl, q⟩⟩
    · cases e
  · cases e
    obtain ⟨v, rfl, rv⟩ := rpa1 r
    cases rv
    exact ⟨_, .str _, fun Q q => .inr ⟨_, rfl, q⟩⟩
  · cases e
theorem e_str (hm : X.mg "str" = none) (ha : PA X [e] (tA c E fr)) (hg : Gl X "str" := by rfl) (he : starEach [e] X.env = (false, eval e X.env) :: starEach [] X.env := by rfl) : PE X (.Call (.Name "str" p) [e] [] pos) (tD c E (eCa gStr fr)) := de_callT (CallR.or call_str_int SkE.call_str_str) vStr hg hm (by decide +kernel) ha (he := he)
/-! ### divmod -/
theorem call_divmodX : CallR X (.builtin "divmod") (fun xs H Q => ∃ i j, xs = [.int i, .int j] ∧ CDivW i j ∧ ∀ p, H p = none → Q (.ref p) (upd H p (.tup [.int (i / j), .int (i % j)]))) := by
  intro pins s σ H xs us Q I r h
  obtain ⟨i, j, e1, hc, q⟩ := h
  exact call_divmodW pins s σ H xs us Q I r ⟨i, j, e1, ⟨hc.1, PyProof.noPylong_of_log2 hc.2⟩, q⟩
def gDivmod : List D → Option D
  | [.int i, .int j] => if 0 < j ∧ j.natAbs.log2 < 9000 then some (.tuple [.int (i / j), .int (i % j)]) else none
  | _ => none
theorem vDivmod : VCall c (fun xs H Q => ∃ i j, xs = [.int i, .int j] ∧ CDivW i j ∧ ∀ p, H p = none → Q (.ref p) (upd H p (.tup [.int (i / j), .int (i % j)]))) gDivmod := fun Hs G H σ δ vs ds d S r e Q q => by
  unfold gDivmod at e
  split at e
  · split at e
    · rename_i hl
      cases e
      obtain ⟨v, w, rfl, rv, rw'⟩ := rpa2 r
      cases rv; cases rw'
      exact ⟨_, _, rfl, hl, fun p hp => q _ (upd Hs p (.tup [.int _, .int _])) _ (same_new (Sat.fresh_s S.toFrm hp)) (S.new hp) (.tup (SqT.of upd_same) (.cons (.int _) (.cons (.int _) .nil)))⟩
    · cases e
  · cases e
theorem e_divmod (hm : X.mg "divmod" = none) (ha : PA X [a, b] (tA c E fr)) (hg : Gl X "divmod" := by rfl) (he : starEach [a, b] X.env = (false, eval a X.env) :: starEach [b] X.env := by rfl) (hpl : (backTo pos (starEach [b] X.env)).any (·.1) = false := by rfl) : PE X (.Call (.Name "divmod" p) [a, b] [] pos) (tD c E (eCa gDivmod fr)) := de_callB call_divmodX vDivmod hg hm (by decide +kernel) ha (he := he) (hpl := hpl)
end
end DL

/-! DL36: xs.remove(n) of a list of numbers -/
namespace DL
open PySem L2
def mRem : List D → List D → Option (List D × D)
  | ds, [.int k] => (intsOf ds).bind fun ns => if ns.idxOf k < ns.length then some (ds.eraseIdx (ns.idxOf k), .none) else none
  | _, _ => none
theorem not_before {k : Int} : ∀ {ns : List Int} {m : Nat}, m < ns.idxOf k → ns[m]? ≠ some k
  | [], m, h => by simp at h
  | a :: r, m, h => by
    rw [List.idxOf_cons] at h
    by_cases e : a = k
    · subst e; simp at h
    · have eb : (a == k) = false := by simpa using e
      rw [eb] at h
      cases m with
      | zero => simpa using e
      | succ m =>
        have h' : m < r.idxOf k := by
          have : m + 1 < r.idxOf k + 1 := h
          omega
        simpa using not_before h'
theorem map_eraseV (f : Int → V) : ∀ (l : List Int) (j : Nat), (l.map f).eraseIdx j = (l.eraseIdx j).map f
  | [], j => by simp
  | a :: r, 0 => by simp
  | a :: r, j + 1 => by simp [map_eraseV f r j]
theorem vRem : VMu rRemI mRem := fun K Hs H l xs as ds es ds' d hH s hn rx ra e Q q => by
  unfold mRem at e
  split at e
  · obtain ⟨ns, e1, e2⟩ := Option.bind_eq_some_iff.mp e
    split at e2
    · rename_i hl
      cases e2
      obtain ⟨v, rfl, rv⟩ := rpa1 ra
      cases rv with
      | int k =>
        have z := rpa_intsOf rx e1
        subst z
        refine ⟨l, ns, _, ns.idxOf _, rfl, rfl, hH, ?_, fun m hm => not_before hm, ?_⟩
        · rw [List.getElem?_eq_getElem hl, List.getElem_idxOf]
        · exact q _ _ (by rw [← map_eraseV]; exact dpa_erase rx) .non
    · cases e2
  · cases e
end DL

/-! DL37: a def that changes its first argument, called with a new list -/
namespace DL
open PySem L2
section
variable {X : Cx} {c : DC} {E : XK} {x : Str} {p pos : Pos} {e : Expr} {es : List Expr} {k : Nat} {ps : List Str} {Hs Hs' G G' H H' : Hp} {σ : St} {δ : En} {f0 fr : En → Re (List D × En)}
theorem Sat.afterL {q : Addr} (S : Sat c Hs G H σ δ) (L : Loose c Hs G H σ δ q) (s : Same Hs Hs') (sh : Same Hs' H') (sm : ∀ b o, b ≠ q → H b = some o → H' b = some o) (nw : Nw H Hs Hs') : Sat c Hs' G H' σ δ := by
  have ne : ∀ (j : Nat) (t : Sl) (b : Addr), δ[j]? = some t → Foot H σ[j]? t b → b ≠ q := fun j t b hj f => by
    rintro rfl
    exact L.f j t hj f
  refine S.keep ⟨S.bs.trans s, sh, fun b o e => sm b o (by rintro rfl; rw [L.g] at e; cases e) (S.gm b o e), fun b o e => ?_, fun b o e => ?_, fun b o o' e e' => ?_⟩ s (fun j t b o hj f e => sm b o (ne j t b hj f) e) (fun j t b hj f => S.nw_own nw hj f) fun j t b hj f => (foot_own (S.sl j t hj) f).1.2.1
  · rcases nw b o e with z | z
    · exact S.nw b o z
    · exact .inr (Sat.fresh_in S.toFrm z)
  · by_cases hb : b = q
    · subst hb; rw [L.i] at e; cases e
    · obtain ⟨o', e'⟩ := S.hin b o e
      exact ⟨o', sm b o' hb e'⟩
  · rcases nw b o' e' with z | z
    · exact S.gs b o o' e z
    · rw [S.gm b o e] at z; cases z
def eCmT (F : List D → List D → Re (D × List D)) (f0 fr : En → Re (List D × En)) : En → Re (D × En) := fun δ => (f0 δ).bd fun p => (fr p.2).bd fun q => nb (F p.1 q.1) fun z => .ok (z.1, q.2)
theorem v_cmT {F : List D → List D → Re (D × List D)} {Q : VK} (h : tD c E (eCmT F f0 fr) σ H Q) : tCall (spM c.K c.mg F) [] E (tCons (tF c E f0) (tA c E fr)) σ H Q := by
  obtain ⟨Hs, G, δ, S, q⟩ := h
  refine ⟨Hs, G, δ, S, PoG.seq q fun ds δ1 Hs1 H1 s1 q1 a xs S1 L1 h1 r1 => ?_⟩
  have gg : Same G (upd G a (.lst xs)) := same_new L1.g
  refine ⟨Hs1, upd G a (.lst xs), δ1, S1.hideL L1 h1, PoG.seqG gg q1 fun es δ2 Hs2 H2 s2 q2 as S2 r2 => ?_⟩
  obtain ⟨S3, L3, hp⟩ := S2.unhide L1.g L1.i
  show spM c.K c.mg F ((V.ref a :: as) ++ []) H2 Q E
  rw [List.append_nil]
  refine ⟨Hs2, a, xs, ds, as, es, rfl, S3.sh, L3.s, hp, dpa_mono s2 r1, r2, ?_⟩
  simp only at q2
  cases hz : F ds es with
  | bad => rw [hz] at q2; exact q2
  | er e => rw [hz] at q2; exact q2
  | ok z =>
    rw [hz] at q2
    obtain ⟨d, src'⟩ := z
    exact fun v zs Hs' H' s sh sm nw hs h' rz rv => q2 Hs' H' s v (S3.afterL L3 s sh sm nw) rv
theorem de_cmT {F : List D → List D → Re (D × List D)} (hD : Dn X.prog X.w X.K X.mg X.base k x ps (spM X.K X.mg F)) (hr : RoomG k X.A) (hg : Gl X x) (hx : Passes (L2.CX X.prog X.w) X E) (hK : c.K = X.K) (hM : c.mg = X.mg) (ho : PE X e (tF c E f0))
    (ha : PA X es (tA c E fr)) (hdb : (x == ("__debug__" : Str)) = false := by decide) (he : starEach (e :: es) X.env = (false, eval e X.env) :: starEach es X.env := by rfl) (hpl : (backTo pos (starEach es X.env)).any (·.1) = false := by rfl) :
    PE X (.Call (.Name x p) (e :: es) [] pos) (tD c E (eCmT F f0 fr)) := by
  obtain ⟨f, fd, Fo, hm, hk, hb⟩ := hD.ex
  refine PE.imp (pe_callG Fo hr hg hm hk hb .nil hx (pa_cons ho ha he) hdb he hpl) fun σ H Q h => ?_
  rw [← hK, ← hM]
  exact v_cmT h
end
end DL

/-! DL38: dicts whose keys are tuples: y = {}, y[tuple(x)] = v, len(y) -/
namespace DL
open PySem L2
def putT (kvs : List (List Key × D)) (k : List Key) (v : D) : List (List Key × D) :=
  if (kvs.any fun kv => decide (kv.1 = k)) = true then kvs.map (fun kv => if kv.1 = k then (kv.1, v) else kv) else kvs ++ [(k, v)]
def keysT : List D → Option (List Key)
  | [] => some []
  | d :: ds => (keyOf d).bind fun k => (keysT ds).map (k :: ·)
def tdT : Option Sl → Re (List (List Key × D))
  | some (.dt kvs) => .ok kvs
  | _ => .bad
theorem tdT_cases (s : Option Sl) : tdT s = .bad ∨ ∃ kvs, s = some (.dt kvs) := by
  cases s with
  | none => exact .inl rfl
  | some s => cases s <;> first | exact .inl rfl | exact .inr ⟨_, rfl⟩
@[simp] theorem tdT_dt (kvs : List (List Key × D)) : tdT (some (.dt kvs)) = .ok kvs := rfl
theorem keysT_rp {K : PySem.W.Frag} {H : Hp} : ∀ {vs : List V} {ds : List D} {ks : List Key}, RpAll K H vs ds → keysT ds = some ks → vs = ks.map kV
  | _, _, _, .nil, h => by cases h; rfl
  | _, _, ks, .cons (d := d) (ds := ds) r1 r2, h => by
    unfold keysT at h
    cases hk : keyOf d with
    | none => rw [hk] at h; cases h
    | some k =>
      rw [hk] at h
      cases hq : keysT ds with
      | none => rw [hq] at h; cases h
      | some qs =>
        rw [hq] at h
        cases h
        rw [List.map_cons, key_rp r1 hk, keysT_rp r2 hq]
section
variable {K : PySem.W.Frag} {Hs : Hp}
theorem kvt_any {ks : List (List Key × V)} {kvs : List (List Key × D)} (h : KVt K Hs ks kvs) (k : List Key) : (ks.any fun kv => decide (kv.1 = k)) = kvs.any fun kv => decide (kv.1 = k) := by
  induction h with
  | nil => rfl
  | cons h1 h2 ih => rw [List.any_cons, List.any_cons, ih, h1.1]
theorem kvt_map {ks : List (List Key × V)} {kvs : List (List Key × D)} (h : KVt K Hs ks kvs) {k : List Key} {v : V} {d : D} (r : Rp K Hs v d) : KVt K Hs (ks.map fun kv => if kv.1 = k then (kv.1, v) else kv) (kvs.map fun kv => if kv.1 = k then (kv.1, d) else kv) := by
  induction h with
  | nil => exact .nil
  | @cons p q ks kvs h1 h2 ih =>
    rw [List.map_cons, List.map_cons]
    refine .cons ?_ ih
    by_cases e : p.1 = k
    · rw [if_pos e, if_pos (h1.1 ▸ e)]; exact ⟨h1.1, r⟩
    · rw [if_neg e, if_neg (h1.1 ▸ e)]; exact h1
theorem kvt_app {ks : List (List Key × V)} {kvs : List (List Key × D)} (h : KVt K Hs ks kvs) {k : List Key} {v : V} {d : D} (r : Rp K Hs v d) : KVt K Hs (ks ++ [(k, v)]) (kvs ++ [(k, d)]) := by
  induction h with
  | nil => exact .cons ⟨rfl, r⟩ .nil
  | cons h1 h2 ih => exact .cons h1 ih
theorem kvt_put {ks : List (List Key × V)} {kvs : List (List Key × D)} (h : KVt K Hs ks kvs) {k : List Key} {v : V} {d : D} (r : Rp K Hs v d) : KVt K Hs (putK ks k v) (putT kvs k d) := by
  unfold putK putT
  rw [kvt_any h]
  split
  · exact kvt_map h r
  · exact kvt_app h r
theorem kvt_len {ks : List (List Key × V)} {kvs : List (List Key × D)} (h : KVt K Hs ks kvs) : ks.length = kvs.length := by
  induction h with
  | nil => rfl
  | cons _ _ ih => simp [ih]
end
section
variable {X : Cx} {c : DC} {E : XK} {e b a : Expr} {p pos : Pos} {Hs Hs' G H H' : Hp} {σ : St} {δ δ' : En} {i k : Nat} {x : Str} {xp : Pos} {fr : En → Re (List D × En)}
theorem Sat.writeDt {l : Addr} {ks : List (List Key × V)} {kvs es : List (List Key × D)} (S : Sat c Hs G H σ δ) (hi : δ[i]? = some (.dt kvs)) (ha : σ[i]? = some (some (.ref l))) (r : KVt c.K Hs ks es) : Sat c Hs G (upd H l (.dT ks)) σ (δ.set i (.dt es)) := by
  obtain ⟨r', ys, e1, h1, h2, h3⟩ := S.sl i _ hi
  rw [ha] at e1
  cases e1
  refine S.write (s' := .dt es) hi (by rw [ha]; rfl) ⟨l, ks, ha, upd_same, r, h3⟩ (fun b f => .inl ?_)
  rw [ha] at f ⊢
  exact f
/-- y = {} -/
def nwT (i : Nat) : En → Re Fl := fun δ => .ok (.nx (δ.set i (.dt [])))
theorem ds_newT {pos' : Pos} (hm : i ∉ c.mi) (hN : X.N.Nodup) (hi : X.N[i]? = some x) (hx : Loc X.env.scope x) (hs : swapsWith (.Dict [] [] pos') (some (.Name x xp)) pos.line X.env = pure false := by rfl) (hf : X.fn x = true ∨ X.env.scope.names.lookup x = some .local := by first | exact .inl rfl | exact .inr rfl | assumption) :
    PS X (.Assign [.Name x xp] (.Dict [] [] pos') pos) (tS c E (nwT i)) := PS.imp (ps_set hN hi hx pe_dnewT hs hf) fun σ H De ⟨Hs, G, δ, S, q⟩ p hp =>
  q _ Hs _ (Same.refl _) ((S.loose hp).setDt hm (S.loose_of hp) upd_same .nil)
/-- tuple(..) of a list: a new tuple -/
def tK (c : DC) (E : XK) (f : En → Re (List D × En)) : TE := fun σ H Q => ∃ Hs G δ, Sat c Hs G H σ δ ∧
  PoG c E Hs G (fun ds δ' Hs' H' => ∀ b vs, Sat c Hs' G H' σ δ' → H' b = some (.tup vs) → RpAll c.K Hs' vs ds → Q (.ref b) H') (f δ)
def lst1 : List D → Option (List D)
  | [.list ds] => some ds
  | _ => none
def eTk (fr : En → Re (List D × En)) : En → Re (List D × En) := fun δ => (fr δ).bd fun p => (opt (lst1 p.1)).bd fun ds => .ok (ds, p.2)
theorem k_tuple (hm : X.mg "tuple" = none) (ha : PA X [e] (tA c E fr)) (hK : c.K = X.K := by rfl) (hg : Gl X "tuple" := by rfl) (he : starEach [e] X.env = (false, eval e X.env) :: starEach [] X.env := by rfl) : PE X (.Call (.Name "tuple" p) [e] [] pos) (tK c E (eTk fr)) :=
  PE.imp (pe_callTy call_tuple_of hg hm (by decide +kernel) ha (he := he)) fun σ H Q ⟨Hs, G, δ, S, q⟩ => ⟨Hs, G, δ, S, PoG.seq q fun as δ1 Hs1 H1 s1 q1 vs S1 r1 => by
    simp only at q1
    cases hz : lst1 as with
    | none => rw [hz] at q1; exact q1.elim
    | some ds =>
      rw [hz] at q1
      have e1 : as = [.list ds] := by
        unfold lst1 at hz
        split at hz
        · cases hz; rfl
        · cases hz
      subst e1
      obtain ⟨v, rfl, rv⟩ := rpa1 r1
      cases rv with
      | @lst l ys _ h1 r2 =>
        refine ⟨l, ys, rfl, .inl ⟨hK ▸ same_l S1.sh h1, fun b hb => ?_⟩⟩
        exact q1 (upd Hs1 b (.tup ys)) _ (same_new (Sat.fresh_s S1.toFrm hb)) b ys (S1.new hb) upd_same (dpa_mono (same_new (Sat.fresh_s S1.toFrm hb)) r2)⟩
/-- y[tuple(..)] = v -/
def tpS (j : Nat) (fk : En → Re (List D × En)) (fe : En → Re (D × En)) : En → Re Fl := fun δ => (fe δ).bd fun p => (tdT p.2[j]?).bd fun _ => (fk p.2).bd fun q => (tdT q.2[j]?).bd fun kvs => (opt (keysT q.1)).bd fun z => if kvs.length < 1000000 then .ok (.nx (q.2.set j (.dt (putT kvs z p.1)))) else .bad
theorem ds_tput {j : Nat} {fk : En → Re (List D × En)} {fe : En → Re (D × En)} {ix : Expr} {spos : Pos} (hr : RoomG k X.A) (hx : PE X (.Name x xp) (tVar j)) (hi : PE X ix (tK c E fk)) (he : PE X e (tD c E fe))
    (hs : swapsWith e (some (.Subscript (.Name x xp) ix spos)) pos.line X.env = pure false := by rfl) : PS X (.Assign [.Subscript (.Name x xp) ix spos] e pos) (tS c E (tpS j fk fe)) :=
  PS.imp (ps_dput (by have := room65 hr; omega) hx hi he hs) fun σ H De ⟨Hs, G, δ, S, q⟩ => ⟨Hs, G, δ, S, PoS.seq q fun d δ1 Hs1 H1 s1 q1 v S1 r1 => by
    simp only at q1
    rcases tdT_cases δ1[j]? with z | ⟨kvs0, hk⟩
    · rw [z] at q1; exact q1.elim
    · rw [hk] at q1
      simp only [tdT_dt, Re.bd_ok] at q1
      obtain ⟨l, xs0, e1, h1, _, _⟩ := S1.sl j _ hk
      refine ⟨.ref l, e1, Hs1, G, δ1, S1, PoS.seq q1 fun di δ2 Hs2 H2 s2 q2 b vs S2 hb r2 => ?_⟩
      simp only at q2
      rcases tdT_cases δ2[j]? with z | ⟨kvs, hk2⟩
      · rw [z] at q2; exact q2.elim
      · rw [hk2] at q2
        simp only [tdT_dt, Re.bd_ok] at q2
        obtain ⟨l', ks, e2, h2, r3, _⟩ := S2.sl j _ hk2
        rw [e1] at e2
        cases e2
        cases hz : keysT di with
        | none => rw [hz] at q2; exact q2.elim
        | some z =>
          rw [hz] at q2
          simp only [opt_some, Re.bd_ok] at q2
          split at q2
          · rename_i hlen
            have ek := keysT_rp r2 hz
            subst ek
            exact ⟨l, _, rfl, DPut.t h2 hb (by rw [kvt_len r3]; exact Nat.lt_of_lt_of_le hlen (million (Nat.le_refl _))), q2 σ Hs2 _ (Same.refl _) (S2.writeDt hk2 e1 (kvt_put r3 (dp_mono s2 r1)))⟩
          · exact q2.elim⟩
/-- len(y) -/
def pLenT (i : Nat) : En → Re D := fun δ => (tdT δ[i]?).bd fun kvs => .ok (.int kvs.length)
theorem e_lenT (hm : X.mg "len" = none) (hx : PE X (.Name x xp) (tVar i)) (hg : Gl X "len" := by rfl) (he : starEach [.Name x xp] X.env = (false, eval (.Name x xp) X.env) :: starEach [] X.env := by rfl) : PE X (.Call (.Name "len" p) [.Name x xp] [] pos) (tD c E (Pu (pLenT i))) :=
  PE.imp (pe_callB call_len_dT hg hm PySem.boot_len (pa_cons hx pa_nil he) (he := he)) fun σ H Q ⟨Hs, G, δ, S, q⟩ => by
    unfold Pu pLenT at q
    rcases tdT_cases δ[i]? with z | ⟨kvs, hi⟩
    · rw [z] at q; exact q.elim
    · rw [hi] at q
      obtain ⟨l, ks, e1, h1, r1, w1⟩ := S.sl i _ hi
      exact ⟨.ref l, e1, l, ks, rfl, h1, by rw [kvt_len r1]; exact q Hs H (Same.refl _) _ S (.int _)⟩
/-- a << b -/
def gShl : D → D → Option D
  | .int i, .int j => if 0 ≤ j ∧ (Builtin.Int.intBits i : Int) + j ≤ 2 ^ 27 then some (.int (i * 2 ^ j.toNat)) else none
  | _, _ => none
theorem vShl : VOp2 c (rI CShl fun i j => .int (i * 2 ^ j.toNat)) gShl := VOp2.of fun Hs H x y dx dy d s rx ry e => by
  cases rx with
  | int i => cases ry with
    | int j =>
      simp only [gShl] at e
      split at e
      · rename_i h; cases e; exact ⟨_, .int _, fun Q q => ⟨i, j, rfl, rfl, h, q⟩⟩
      · cases e
    | _ => cases e
  | _ => cases e
theorem e_shl {fa fb : En → Re (D × En)} (ha : PE X a (tD c E fa)) (hb : PE X b (tD c E fb)) : PE X (.BinOp a .LShift b pos) (tD c E (eOp gShl fa fb)) := de_bin op_shlW vShl ha hb
end
end DL

/-! DL39: min(xs), max(xs) of a list of alike data -/
namespace DL
section
open PySem PySem.W PySem.Calls PyProof.Rows
variable {prog : Program} {w : World} {A : Around} {E : Value → Shared → Prop} {s : Shared}
theorem min_dataAt {l : Addr} {ws : Array Value} {d : PyData} {ds : List PyData} {bs : List Addr} {Q : Value → Shared → Prop} (hd : A.handled = none) (hl : s.heap.IsList l ws) (rd : ReadsAll s.heap ws.toList (d :: ds) bs) (al : AlikeAll (d :: ds)) (un : A.units + 1 + PyData.depthAll (d :: ds) < cLine)
    (fin : ∀ (i : Nat) (u : Value) (hp : Heap) (tk : Shared → Shared), ws[i]? = some u → (d :: ds).getD i .none = minD d ds → (∀ b o, s.heap.get? b = some o → hp.get? b = some o) → (∀ z : Shared, z.heap = hp → (tk z).heap = hp) → ∀ s' : Shared, s'.heap = hp → s'.gens = s.gens → s'.drawn = s.drawn → s'.os = s.os → Q u s') :
    wpAny (model prog w) A (call (.builtin "min") [.ref l]) Q E s := by
  have sz : ws.size = ds.length + 1 := readsAll_len rd
  refine call_min_walkH (iter_listW (A := A.in1) hd hl fun s2 e2 W st fp nw kp => ?_)
  refine ⟨_, _, _, _, _, _, _, s.heap, _, rfl, W, st, fp, by omega, nw, kp, cmpIn_lt (A := A.in1) rd al (by show A.units + 1 + _ < _; exact un), fun u s3 hP mv => ?_⟩
  obtain ⟨hp, tk, rfl, kp2⟩ := moved_old e2 rfl mv
  have best := (argBest_fold dataLt PyData.none d ds ds.length (Nat.le_refl _)).2
  rw [List.take_length] at best
  rw [show ws.size - 1 = ds.length by omega] at hP
  exact fin _ u hp id hP (by unfold minD; exact best) kp2 (fun z h => h) _ rfl rfl rfl rfl
theorem max_dataAt {l : Addr} {ws : Array Value} {d : PyData} {ds : List PyData} {bs : List Addr} {Q : Value → Shared → Prop} (hd : A.handled = none) (hl : s.heap.IsList l ws) (rd : ReadsAll s.heap ws.toList (d :: ds) bs) (al : AlikeAll (d :: ds)) (un : A.units + 1 + PyData.depthAll (d :: ds) < cLine)
    (fin : ∀ (i : Nat) (u : Value) (hp : Heap) (tk : Shared → Shared), ws[i]? = some u → (d :: ds).getD i .none = maxD d ds → (∀ b o, s.heap.get? b = some o → hp.get? b = some o) → (∀ z : Shared, z.heap = hp → (tk z).heap = hp) → ∀ s' : Shared, s'.heap = hp → s'.gens = s.gens → s'.drawn = s.drawn → s'.os = s.os → Q u s') :
    wpAny (model prog w) A (call (.builtin "max") [.ref l]) Q E s := by
  have sz : ws.size = ds.length + 1 := readsAll_len rd
  refine call_max_walkH (iter_listW (A := A.in1) hd hl fun s2 e2 W st fp nw kp => ?_)
  refine ⟨_, _, _, _, _, _, _, s.heap, _, rfl, W, st, fp, by omega, nw, kp, cmpIn_gt (A := A.in1) rd al (by show A.units + 1 + _ < _; exact un), fun u s3 hP mv => ?_⟩
  obtain ⟨hp, tk, rfl, kp2⟩ := moved_old e2 rfl mv
  have best := (argBest_fold (fun a b => dataLt b a) PyData.none d ds ds.length (Nat.le_refl _)).2
  rw [List.take_length] at best
  rw [show ws.size - 1 = ds.length by omega] at hP
  exact fin _ u hp id hP (by unfold maxD; exact best) kp2 (fun z h => h) _ rfl rfl rfl rfl
end
open PySem L2
/-- data that min and max can compare -/
def mmOk (ds : List D) : Bool := alk ds && (ds.all fun d => match d with | .none => false | _ => true) && ds.all fun d => decide (d.depth ≤ 64)
def gMinD : List D → Option D
  | [.list (d :: ds)] => if mmOk (d :: ds) then some (PySem.W.minD d ds) else none
  | _ => none
def gMaxD : List D → Option D
  | [.list (d :: ds)] => if mmOk (d :: ds) then some (PySem.W.maxD d ds) else none
  | _ => none
theorem mmOk_spec {ds : List D} (h : mmOk ds = true) : PySem.W.AlikeAll ds ∧ (∀ d ∈ ds, d.depth ≤ 64) := by
  unfold mmOk at h
  simp only [Bool.and_eq_true, List.all_eq_true, decide_eq_true_eq] at h
  obtain ⟨⟨h1, h2⟩, h3⟩ := h
  refine ⟨⟨fun x hx y hy => ?_, fun x hx z => ?_⟩, h3⟩
  · unfold alk at h1
    simp only [List.all_eq_true] at h1
    exact h1 x hx y hy
  · subst z
    have := h2 _ hx
    cases this
theorem mmDep {k : Nat} : ∀ {ds : List D}, (∀ d ∈ ds, d.depth ≤ k) → PyData.depthAll ds ≤ k
  | [], _ => by simp only [PyData.depthAll]; exact Nat.zero_le _
  | d :: ds, h => by
    simp only [PyData.depthAll]
    exact Nat.max_le.mpr ⟨h d List.mem_cons_self, mmDep fun e he => h e (List.mem_cons_of_mem _ he)⟩
theorem alks_nd : ∀ {ds : List D}, (∀ d ∈ ds, PySem.W.alike d d = true) → PyData.hasDictAll ds = false
  | [], _ => by simp only [PyData.hasDictAll]
  | d :: ds, h => by simp only [PyData.hasDictAll, alk_nd (h d List.mem_cons_self), alks_nd fun e he => h e (List.mem_cons_of_mem _ he), Bool.or_self]
section
variable {X : Cx} {c : DC}
def rMinD (g : D → List D → D) (K : PySem.W.Frag) : List V → Hp → VK → Prop := fun vs H Q => ∃ (a : Addr) (xs : List V) (d : D) (ds : List D), vs = [.ref a] ∧ SqL K H a xs ∧ RpAll K H xs (d :: ds) ∧ mmOk (d :: ds) = true ∧ ∀ (i : Nat) (x : V), xs[i]? = some x → (d :: ds).getD i .none = g d ds → Q x H
theorem cr_minD (hc : X.calm = true) (hu : X.A.units + 66 < cLine) : CallR X (.builtin "min") (rMinD PySem.W.minD X.K) := by
  intro pins s σ H vs us Q I rv h
  obtain ⟨a, xs, d, ds, rfl, hs, ra, ok, q⟩ := h
  obtain ⟨o1, o2⟩ := mmOk_spec ok
  obtain ⟨its, hv, hl, _⟩ := I.list hs
  obtain ⟨as, rd⟩ := Dp.readsAll I (d :: ds) xs its (RpAll.dpa ra (alks_nd fun e he => o1.1 e he e he)) hv
  rw [Vals.ref1 rv]
  refine min_dataAt (ws := its.toArray) (I.ok.hd hc) hl.isList (by simpa using rd) o1 (by have := mmDep o2; omega) fun i u hp tk hi best kp _ s' e1 e2 e3 e4 => ?_
  have hi' : its[i]? = some u := by simpa using hi
  obtain ⟨x, hx, rx⟩ : ∃ x, xs[i]? = some x ∧ RelV x u := by
    have hlt : i < xs.length := by rw [hv.length]; exact (List.getElem?_eq_some_iff.mp hi').1
    obtain ⟨u', h1, h2⟩ := hv.get (List.getElem?_eq_getElem hlt)
    rw [hi'] at h1; cases h1
    exact ⟨_, List.getElem?_eq_getElem hlt, h2⟩
  obtain ⟨hp', g', d', t', os'⟩ := s'
  subst e1
  subst e2
  subst e3
  subst e4
  exact ⟨x, H, I.kept kp, rx, q i x hx best⟩
theorem cr_maxD (hc : X.calm = true) (hu : X.A.units + 66 < cLine) : CallR X (.builtin "max") (rMinD PySem.W.maxD X.K) := by
  intro pins s σ H vs us Q I rv h
  obtain ⟨a, xs, d, ds, rfl, hs, ra, ok, q⟩ := h
  obtain ⟨o1, o2⟩ := mmOk_spec ok
  obtain ⟨its, hv, hl, _⟩ := I.list hs
  obtain ⟨as, rd⟩ := Dp.readsAll I (d :: ds) xs its (RpAll.dpa ra (alks_nd fun e he => o1.1 e he e he)) hv
  rw [Vals.ref1 rv]
  refine max_dataAt (ws := its.toArray) (I.ok.hd hc) hl.isList (by simpa using rd) o1 (by have := mmDep o2; omega) fun i u hp tk hi best kp _ s' e1 e2 e3 e4 => ?_
  have hi' : its[i]? = some u := by simpa using hi
  obtain ⟨x, hx, rx⟩ : ∃ x, xs[i]? = some x ∧ RelV x u := by
    have hlt : i < xs.length := by rw [hv.length]; exact (List.getElem?_eq_some_iff.mp hi').1
    obtain ⟨u', h1, h2⟩ := hv.get (List.getElem?_eq_getElem hlt)
    rw [hi'] at h1; cases h1
    exact ⟨_, List.getElem?_eq_getElem hlt, h2⟩
  obtain ⟨hp', g', d', t', os'⟩ := s'
  subst e1
  subst e2
  subst e3
  subst e4
  exact ⟨x, H, I.kept kp, rx, q i x hx best⟩
theorem rmin_of {g : D → List D → D} {f : List D → Option D} (hg : ∀ as r, f as = some r → ∃ d ds, as = [.list (d :: ds)] ∧ mmOk (d :: ds) = true ∧ r = g d ds ∧ g d ds ∈ d :: ds) : VCall c (rMinD g c.K) f := fun Hs G H σ δ vs as r S rp e Q q => by
  obtain ⟨d, ds, rfl, ok, rfl, mem⟩ := hg as r e
  obtain ⟨v, rfl, rv⟩ := rpa1 rp
  cases rv with
  | @lst a xs _ h1 r1 =>
    refine ⟨a, xs, d, ds, rfl, same_l S.sh h1, dpa_mono S.sh r1, ok, fun i x hx hi => ?_⟩
    obtain ⟨e, he, re⟩ := dpa_get' r1 hx
    rw [List.getD_eq_getElem?_getD, he] at hi
    have hi : e = g d ds := hi
    subst hi
    exact q x Hs H (Same.refl _) S re
theorem fold_mem {f : D → D → Bool} : ∀ (ds : List D) (d : D), ds.foldl (fun a y => if f a y then y else a) d ∈ d :: ds
  | [], d => List.mem_cons_self
  | y :: ds, d => by
    rw [List.foldl_cons]
    have := fold_mem (f := f) ds (if f d y then y else d)
    rcases List.mem_cons.mp this with h | h
    · rw [h]; split <;> simp
    · exact List.mem_cons_of_mem _ (List.mem_cons_of_mem _ h)
theorem vMinD : VCall c (rMinD PySem.W.minD c.K) gMinD := rmin_of fun as r e => by
  unfold gMinD at e
  split at e
  · split at e
    · rename_i d ds ok
      cases e
      exact ⟨d, ds, rfl, ok, rfl, fold_mem ds d⟩
    · cases e
  · cases e
theorem vMaxD : VCall c (rMinD PySem.W.maxD c.K) gMaxD := rmin_of fun as r e => by
  unfold gMaxD at e
  split at e
  · split at e
    · rename_i d ds ok
      cases e
      exact ⟨d, ds, rfl, ok, rfl, fold_mem ds d⟩
    · cases e
  · cases e
end
section
variable {X : Cx} {c : DC} {E : XK} {e : Expr} {pos p : Pos} {k : Nat} {fr : En → Re (List D × En)}
theorem e_minD (hr : RoomG k X.A) (hm : X.mg "min" = none) (ha : PA X [e] (tA c E fr)) (hc : X.calm = true := by rfl) (hK : c.K = X.K := by rfl) (hg : Gl X "min" := by rfl) (he : starEach [e] X.env = (false, eval e X.env) :: starEach [] X.env := by rfl) : PE X (.Call (.Name "min" p) [e] [] pos) (tD c E (eCa gMinD fr)) := de_callB (cr_minD hc (room65 hr)) (hK ▸ vMinD) hg hm (by decide +kernel) ha (he := he)
theorem e_maxD (hr : RoomG k X.A) (hm : X.mg "max" = none) (ha : PA X [e] (tA c E fr)) (hc : X.calm = true := by rfl) (hK : c.K = X.K := by rfl) (hg : Gl X "max" := by rfl) (he : starEach [e] X.env = (false, eval e X.env) :: starEach [] X.env := by rfl) : PE X (.Call (.Name "max" p) [e] [] pos) (tD c E (eCa gMaxD fr)) := de_callB (cr_maxD hc (room65 hr)) (hK ▸ vMaxD) hg hm (by decide +kernel) ha (he := he)
end
end DL

/-! DL40: zip of two lists or two tuples -/
namespace DL
open PySem L2 RZ
def gZipA : List D → Option (List D)
  | [.list xs, .list ys] => some (List.zipWith (fun x y => .tuple [x, y]) xs ys)
  | [.tuple xs, .tuple ys] => some (List.zipWith (fun x y => .tuple [x, y]) xs ys)
  | _ => none
theorem gZipA_inv {ds r : List D} (h : gZipA ds = some r) : ∃ xs ys, (ds = [.list xs, .list ys] ∨ ds = [.tuple xs, .tuple ys]) ∧ r = List.zipWith (fun x y => .tuple [x, y]) xs ys := by
  unfold gZipA at h
  split at h
  · cases h; exact ⟨_, _, .inl rfl, rfl⟩
  · cases h; exact ⟨_, _, .inr rfl, rfl⟩
  · cases h
@[simp] theorem gZipA_list (xs ys : List D) : gZipA [.list xs, .list ys] = some (List.zipWith (fun x y => .tuple [x, y]) xs ys) := (rfl)
@[simp] theorem gZipA_tuple (xs ys : List D) : gZipA [.tuple xs, .tuple ys] = some (List.zipWith (fun x y => .tuple [x, y]) xs ys) := (rfl)
section
variable {X : Cx} {c : DC} {E : XK} {e e2 : Expr} {fr : En → Re (List D × En)}
theorem di_zipA {p pos tpos : Pos} {elts : List Expr} {kk : Nat} (hK : c.K = X.K) (hg : Gl X "zip") (hm : X.mg "zip" = none) (ha : PA X [e, e2] (tA c E fr)) (hs : starEach [e, e2] X.env = (false, eval e X.env) :: starEach [e2] X.env := by rfl) (hpl : (backTo pos (starEach [e2] X.env)).any (·.1) = false := by rfl) :
    PI X (.Tuple elts kk tpos) (.Call (.Name "zip" p) [e, e2] [] pos) (tI c E (eCa gZipA fr)) := PI.imp (RZ.pi_zipA hg hm ha hs hpl) fun σ H R ⟨Hs, G, δ, S, q⟩ =>
  ⟨Hs, G, δ, S, PoG.seq q fun ds δ1 Hs1 H1 s1 q1 vs S1 r1 => by
    obtain ⟨d, hd, q2⟩ := PoG.last (k := fun d => (d, δ1)) q1
    obtain ⟨ds1, ds2, hds, rfl⟩ := gZipA_inv hd
    rcases hds with rfl | rfl
    · obtain ⟨v, u, rfl, rv, ru⟩ := rpa2 r1
      cases rv with
      | @lst a xs _ l1 p1 => cases ru with
        | @lst b ys _ l2 p2 =>
          refine ⟨a, b, xs, ys, rfl, .inl ⟨(hK ▸ same_l S1.sh l1), (hK ▸ same_l S1.sh l2), q2 Hs1 H1 (Same.refl _) _ S1 fun Hs2 G2 H2 σ2 δ2 s2 S2 => ?_⟩⟩
          have k1 : SqL X.K H2 a xs := (hK ▸ same_l S2.sh (same_l s2 l1))
          have k2 : SqL X.K H2 b ys := (hK ▸ same_l S2.sh (same_l s2 l2))
          refine ⟨fun i d hi => ?_, fun i hi => ?_⟩
          · rw [List.getElem?_zipWith] at hi
            split at hi
            · rename_i x y ex ey
              cases hi
              obtain ⟨vx, gx, rx⟩ := dpa_get p1 ex
              obtain ⟨vy, gy, ry⟩ := dpa_get p2 ey
              refine ⟨⟨xs, ys, vx, vy, k1, k2, gx, gy⟩, fun z H' w => ?_⟩
              obtain ⟨T, x1, y1, rfl, hT, rfl, w1, w2⟩ := w
              have e1 := w1 xs k1
              have e2 := w2 ys k2
              rw [gx] at e1
              rw [gy] at e2
              cases e1
              cases e2
              have f := Sat.fresh_s S2.toFrm hT
              exact ⟨upd Hs2 T (.tup [vx, vy]), same_new f, S2.new hT, .tup (SqT.of upd_same) (.cons (dp_mono (s2.trans (same_new f)) rx) (.cons (dp_mono (s2.trans (same_new f)) ry) .nil))⟩
            · cases hi
          · refine ⟨xs, ys, k1, k2, ?_⟩
            rw [List.length_zipWith] at hi
            rw [dpa_len p1, dpa_len p2]
            omega
    · obtain ⟨v, u, rfl, rv, ru⟩ := rpa2 r1
      cases rv with
      | @tup a xs _ l1 p1 => cases ru with
        | @tup b ys _ l2 p2 =>
          refine ⟨a, b, xs, ys, rfl, .inr ⟨(hK ▸ same_t S1.sh l1), (hK ▸ same_t S1.sh l2), q2 Hs1 H1 (Same.refl _) _ S1 fun Hs2 G2 H2 σ2 δ2 s2 S2 => ?_⟩⟩
          have k1 : SqT X.K H2 a xs := (hK ▸ same_t S2.sh (same_t s2 l1))
          have k2 : SqT X.K H2 b ys := (hK ▸ same_t S2.sh (same_t s2 l2))
          refine ⟨fun i d hi => ?_, fun i hi => ?_⟩
          · rw [List.getElem?_zipWith] at hi
            split at hi
            · rename_i x y ex ey
              cases hi
              obtain ⟨vx, gx, rx⟩ := dpa_get p1 ex
              obtain ⟨vy, gy, ry⟩ := dpa_get p2 ey
              refine ⟨⟨xs, ys, vx, vy, k1, k2, gx, gy⟩, fun z H' w => ?_⟩
              obtain ⟨T, x1, y1, rfl, hT, rfl, w1, w2⟩ := w
              have e1 := w1 xs k1
              have e2 := w2 ys k2
              rw [gx] at e1
              rw [gy] at e2
              cases e1
              cases e2
              have f := Sat.fresh_s S2.toFrm hT
              exact ⟨upd Hs2 T (.tup [vx, vy]), same_new f, S2.new hT, .tup (SqT.of upd_same) (.cons (dp_mono (s2.trans (same_new f)) rx) (.cons (dp_mono (s2.trans (same_new f)) ry) .nil))⟩
            · cases hi
          · refine ⟨xs, ys, k1, k2, ?_⟩
            rw [List.length_zipWith] at hi
            rw [dpa_len p1, dpa_len p2]
            omega⟩
end
end DL

/-! DL41: raise of an own error; try with one except clause without a name -/
namespace DL
open PySem L2
section
variable {X : Cx} {CX : CXT} {k : Nat} {f : Addr} {fd : FuncData} {ps : List Str} {sp : Sp} {E : St → XK} {x : Str} {p pos : Pos} {e : Expr} {es : List Expr} {t : TA}
/-- a call, what is raised wished for at the caller's slots -/
theorem run_fnGS {pins : List (Addr × Obj)} {σ : L2.St} {H : Hp} {s : Shared} {Q : VK} {us : List Value} {vs : List V} (F : FnOkG X.prog X.w X.K X.mg X.base CX k f fd ps sp) (room : RoomG k X.A) (bnd : Binds X.K fd ps []) (pass : PassesAt CX X σ (E σ))
    (I : Inv X pins σ H s) (r : Vals vs us) (h : sp vs H Q (E σ)) : wpAny (model X.prog X.w) X.A (call (.ref f) us) (EP X pins σ Q) X.xe s := by
  have num : us.length = ps.length := r.length.symm.trans (F.len _ _ _ _ h)
  have to := bnd s us I.kIn (by rw [List.append_nil]; exact num)
  rw [List.append_nil] at to
  refine wpAny_call (codeAny_mono (F.run X.A X.stack s H ⟨us, []⟩ us vs Q (E σ) room I.env0 to r h) fun z s' hz => ?_)
  match z, hz with
  | .error e, hz => exact pass pins H s e s' I hz
  | .ok (.ret u), hz => exact I.after hz
  | .ok .next, hz => exact hz.elim
  | .ok .brk, hz => exact hz.elim
  | .ok .cont, hz => exact hz.elim
theorem pe_callGS (F : FnOkG X.prog X.w X.K X.mg X.base CX k f fd ps sp) (room : RoomG k X.A) (hg : Gl X x) (hm : X.mg x = some (.ref f)) (kept : PySem.W.keepIn X.K (.ref f) = true) (bnd : Binds X.K fd ps []) (pass : ∀ σ, PassesAt CX X σ (E σ))
    (ha : PA X (e :: es) t) (hdb : (x == ("__debug__" : Str)) = false := by decide) (he : starEach (e :: es) X.env = (false, eval e X.env) :: starEach es X.env := by rfl) (hpl : (backTo pos (starEach es X.env)).any (·.1) = false := by rfl) : PE X (.Call (.Name x p) (e :: es) [] pos) (fun σ H Q => t σ H fun vs H1 => sp vs H1 Q (E σ)) where
  run := fun pins s σ H Q I h => wpAny_Call_Name_kw (ld_glob I hg hm (PySem.W.callWith_K (h₀ := X.base) I.ok.mod.kin kept (thn (ha.run pos pins s σ H _ I h) fun us s1 ⟨vs, H1, I1, r, q⟩ => ⟨I1.kIn, run_fnGS F room bnd (pass σ) I1 r q⟩) he hpl) hdb)
end
/-! ### what the top says of an own error without __init__; raise -/
structure ErC (K : PySem.W.Frag) (mg : Str → Option Value) (x : Str) (C : Addr) : Prop where
  g : mg x = some (.ref C)
  q : PySem.W.excIn K C [.type "ValueError", .type "Exception", .type "BaseException", .type "object"] "ValueError.__new__" = true
  k : PySem.W.keepIn K (.ref C) = true
  b : PySem.W.subIn K (.ref C) (.type "BaseException") = some true
  t : PySem.W.typeIn K (.ref C) = some (.type "type")
def erS (x : Str) : En → Re Fl := fun _ => .er ⟨x, none⟩
section
variable {X : Cx} {c : DC} {E : XK} {e a b : Expr} {pos p p2 : Pos} {x m : Str} {j : Nat}
theorem ds_raise {pos' : Pos} (T : ∃ C, ErC X.K X.mg x C) (tk : Takes X (fun cls d _ H => E cls d H)) (hM : c.mg = X.mg := by rfl) (hc : X.calm = true := by rfl) (hg : Gl X x := by rfl) (hdb : (x == ("__debug__" : Str)) = false := by decide) : PS X (.Raise (some (.Call (.Name x p) [.Constant (.str m) j p2] [] pos)) none pos') (tS c E (erS x)) := by
  obtain ⟨C, T⟩ := T
  refine PS.imp (ps_raise hc tk (pmk_own PySem.F.excBase_ValueError T.q T.g T.k (raises_own T.b T.t) hg hdb)) fun σ H De ⟨Hs, G, δ, S, q⟩ => ?_
  exact q Hs H (Same.refl _) S.toFrm C (hM ▸ T.g)
/-! ### try -/
def noOwn (δ : En) : Bool := δ.all fun s => match s with
  | .no => true
  | .sh _ => true
  | _ => false
theorem noOwn_at {δ : En} (h : noOwn δ = true) {i : Nat} {s : Sl} (e : δ[i]? = some s) : s = .no ∨ ∃ d, s = .sh d := by
  unfold noOwn at h
  rw [List.all_eq_true] at h
  have := h s (List.mem_of_getElem? e)
  cases s with
  | no => exact .inl rfl
  | sh d => exact .inr ⟨d, rfl⟩
  | _ => cases this
theorem Sat.ofFrm {Hs Hs' G H H' : Hp} {σ : St} {δ : En} (S : Sat c Hs G H σ δ) (n : noOwn δ = true) (s : Same Hs Hs') (F : Frm c Hs' G H') : Sat c Hs' G H' σ δ :=
  ⟨F, S.ln, fun i t h => by
    rcases noOwn_at n h with rfl | ⟨d, rfl⟩
    · trivial
    · obtain ⟨v, e, r⟩ := S.sl i _ h
      exact ⟨v, e, dp_mono s r⟩, fun i j t u a ne h1 h2 f1 f2 => by
    rcases noOwn_at n h1 with rfl | ⟨d, rfl⟩
    · exact foot_no f1
    · exact foot_sh f1⟩
/-- an expression of a try's body, at slots that own nothing: what is raised is wished for at these slots -/
def PoT (c : DC) (W : WX) (σ : St) (δ : En) (Hs G : Hp) (Q : VK) : Re D → Prop
  | .bad => False
  | .er e => ∀ Hs' H', Same Hs Hs' → Sat c Hs' G H' σ δ → XOk c (WE W σ) Hs' H' e
  | .ok d => ∀ v Hs' H', Same Hs Hs' → Sat c Hs' G H' σ δ → Rp c.K Hs' v d → Q v H'
def tTC (c : DC) (W : WX) (f : En → Re D) : TE := fun σ H Q => ∃ Hs G δ, Sat c Hs G H σ δ ∧ noOwn δ = true ∧ PoT c W σ δ Hs G Q (f δ)
theorem PoT.mono {W : WX} {σ : St} {δ : En} {Hs Hs' G : Hp} {Q : VK} {r : Re D} (s : Same Hs Hs') (h : PoT c W σ δ Hs G Q r) : PoT c W σ δ Hs' G Q r := by
  cases r with
  | bad => exact h
  | er e => exact fun Hs2 H2 s2 => h Hs2 H2 (s.trans s2)
  | ok d => exact fun v Hs2 H2 s2 => h v Hs2 H2 (s.trans s2)
def noE {α : Type} : Re α → Re α
  | .er _ => .bad
  | r => r
def dT (f : En → Re D) : En → Re D := fun δ => noE (f δ)
variable {W : WX} {f g : En → Re D} {es : List Expr} {fr : En → Re (List D)}
theorem de_T (h : PE X e (tD c L2.E0 (Pu f))) : PE X e (tTC c W (dT f)) := PE.imp h fun σ H Q ⟨Hs, G, δ, S, n, q⟩ => by
  refine ⟨Hs, G, δ, S, ?_⟩
  unfold dT at q
  unfold Pu
  cases hz : f δ with
  | bad => rw [hz] at q; exact q
  | er e => rw [hz] at q; exact q.elim
  | ok d => rw [hz] at q; exact fun Hs' H' s v S' r => q v Hs' H' s S' r
def crT (F : List D → Re D) (fr : En → Re (List D)) : En → Re D := fun δ => (noE (fr δ)).bd F
def crTF (F : List D → Re (List D)) (fr : En → Re (List D)) : En → Re D := fun δ => (noE (fr δ)).bd fun ds => (F ds).bd fun r => .ok (.list r)
variable {k : Nat} {ps : List Str}
theorem de_crT {F : List D → Re D} (hD : Dn X.prog X.w X.K X.mg X.base k x ps (spP X.K X.mg F)) (hr : RoomG k X.A) (tk : Takes X W) (ha : PA X (e :: es) (tA c L2.E0 (Pu fr))) (hg : Gl X x := by rfl) (hK : c.K = X.K := by rfl) (hM : c.mg = X.mg := by rfl)
    (hdb : (x == ("__debug__" : Str)) = false := by decide) (he : starEach (e :: es) X.env = (false, eval e X.env) :: starEach es X.env := by rfl) (hpl : (backTo pos (starEach es X.env)).any (·.1) = false := by rfl) :
    PE X (.Call (.Name x p) (e :: es) [] pos) (tTC c W (crT F fr)) := by
  obtain ⟨f, fd, Fo, hm, hk, hb⟩ := hD.ex
  refine PE.imp (pe_callGS (E := WE W) Fo hr hg hm hk hb (fun σ => passAt tk σ) ha hdb he hpl) fun σ H Q ⟨Hs, G, δ, S, n, q⟩ => ?_
  refine ⟨Hs, G, δ, S, ?_⟩
  unfold crT at q
  unfold Pu
  cases hz : fr δ with
  | bad => rw [hz] at q; exact q
  | er e => rw [hz] at q; exact q.elim
  | ok ds =>
    rw [hz] at q
    refine fun Hs1 H1 s1 vs S1 r1 => ?_
    show spP X.K X.mg F vs H1 Q (WE W σ)
    rw [← hK, ← hM]
    refine ⟨Hs1, ds, S1.sh, r1, ?_⟩
    replace q : PoT c W σ δ Hs G Q (F ds) := q
    cases hF : F ds with
    | bad => rw [hF] at q; exact q
    | er e => rw [hF] at q; exact fun Hs' H' s sh sm nw => q Hs' H' (s1.trans s) (S1.grown s sh sm nw)
    | ok d => rw [hF] at q; exact fun v Hs' H' s sh sm nw rv => q v Hs' H' (s1.trans s) (S1.grown s sh sm nw) rv
theorem de_crTF {F : List D → Re (List D)} (hD : Dn X.prog X.w X.K X.mg X.base k x ps (spPF X.K X.mg F)) (hr : RoomG k X.A) (tk : Takes X W) (ha : PA X (e :: es) (tA c L2.E0 (Pu fr))) (hg : Gl X x := by rfl) (hK : c.K = X.K := by rfl) (hM : c.mg = X.mg := by rfl)
    (hdb : (x == ("__debug__" : Str)) = false := by decide) (he : starEach (e :: es) X.env = (false, eval e X.env) :: starEach es X.env := by rfl) (hpl : (backTo pos (starEach es X.env)).any (·.1) = false := by rfl) :
    PE X (.Call (.Name x p) (e :: es) [] pos) (tTC c W (crTF F fr)) := by
  obtain ⟨f, fd, Fo, hm, hk, hb⟩ := hD.ex
  refine PE.imp (pe_callGS (E := WE W) Fo hr hg hm hk hb (fun σ => passAt tk σ) ha hdb he hpl) fun σ H Q ⟨Hs, G, δ, S, n, q⟩ => ?_
  refine ⟨Hs, G, δ, S, ?_⟩
  unfold crTF at q
  unfold Pu
  cases hz : fr δ with
  | bad => rw [hz] at q; exact q
  | er e => rw [hz] at q; exact q.elim
  | ok ds =>
    rw [hz] at q
    refine fun Hs1 H1 s1 vs S1 r1 => ?_
    show spPF X.K X.mg F vs H1 Q (WE W σ)
    rw [← hK, ← hM]
    refine ⟨Hs1, ds, S1.sh, r1, ?_⟩
    replace q : PoT c W σ δ Hs G Q ((F ds).bd fun r => .ok (.list r)) := q
    cases hF : F ds with
    | bad => rw [hF] at q; exact q
    | er e => rw [hF] at q; exact fun Hs' H' s sh sm nw => q Hs' H' (s1.trans s) (S1.grown s sh sm nw)
    | ok d =>
      rw [hF] at q
      refine fun l xs Hs' H' s sh sm nw hl hl2 hx rx => ?_
      have S2 := S1.grown s sh sm nw
      have L : Loose c Hs' G H' σ δ l := ⟨hl, Sat.fresh_G S1.toFrm hl2, Sat.fresh_in S1.toFrm hl2, fun j t hj f => by
        rcases noOwn_at n hj with rfl | ⟨d, rfl⟩
        · exact foot_no f
        · exact foot_sh f⟩
      exact q (.ref l) (upd Hs' l (.lst xs)) H' ((s1.trans s).trans (same_new hl)) (S2.freeze L hx) (.lst (SqL.of upd_same) (dpa_mono (same_new hl) rx))
/-- a comparison whose left side may raise -/
def opT (g : D → D → Option D) (f h : En → Re D) : En → Re D := fun δ => (f δ).bd fun y => (noE (h δ)).bd fun z => opt (g y z)
theorem de_cmpT {op : CmpOp} {r : R2} {g : D → D → Option D} {fa fb : En → Re D} (ho : OpR X (compareOp op) r) (hr : VOp2 c r g) (ha : PE X a (tTC c W fa)) (hb : PE X b (tD c L2.E0 (Pu fb))) (hm : behindInMarks op b = false) : PE X (.Compare a [op] [b] pos) (tTC c W (opT g fa fb)) :=
  PE.imp (pe_cmpR ho ha hb hm) fun σ H Q ⟨Hs, G, δ, S, n, q⟩ => by
    refine ⟨Hs, G, δ, S, n, ?_⟩
    unfold opT at q
    cases hz : fa δ with
    | bad => rw [hz] at q; exact q
    | er e => rw [hz] at q; exact q
    | ok y =>
      rw [hz] at q
      refine fun v Hs1 H1 s1 S1 r1 => ⟨Hs1, G, δ, S1, ?_⟩
      replace q : PoT c W σ δ Hs G Q ((noE (fb δ)).bd fun z => opt (g y z)) := q
      unfold Pu
      cases hy : fb δ with
      | bad => rw [hy] at q; exact q
      | er e => rw [hy] at q; exact q.elim
      | ok z =>
        rw [hy] at q
        replace q : PoT c W σ δ Hs G Q (opt (g y z)) := q
        refine fun Hs2 H2 s2 u S2 r2 => ?_
        cases hg : g y z with
        | none => rw [hg] at q; exact q.elim
        | some d =>
          rw [hg] at q
          exact hr Hs2 G H2 σ δ v u y z d S2 (dp_mono s2 r1) r2 hg Q fun w Hs3 H3 s3 S3 r3 => q w Hs3 H3 ((s1.trans s2).trans s3) S3 r3
theorem dT_eq {fa fb : En → Re D} (hr : RoomG k X.A) (ha : PE X a (tTC c W fa)) (hb : PE X b (tD c L2.E0 (Pu fb))) (hK : c.K = X.K := by rfl) : PE X (.Compare a [.Eq] [b] pos) (tTC c W (opT gEq fa fb)) := de_cmpT (op_eqA hr.units) (hK ▸ vEq) ha hb (nobehind b (by decide) (by decide))
/-! statements of a try's body -/
def PoB (c : DC) (W : WX) (σ : St) (δ : En) (Hs G : Hp) (De : Ends) : Re Fl → Prop
  | .er e => ∀ Hs' H', Same Hs Hs' → Sat c Hs' G H' σ δ → XOk c (WE W σ) Hs' H' e
  | r => PoS c L2.E0 Hs G De r
def tB (c : DC) (W : WX) (B : En → Re Fl) : TS := fun De σ H => ∃ Hs G δ, Sat c Hs G H σ δ ∧ noOwn δ = true ∧ PoB c W σ δ Hs G De (B δ)
def exB (f : En → Re D) : En → Re Fl := fun δ => (f δ).bd fun _ => .ok (.nx δ)
def rtB (f : En → Re D) : En → Re Fl := fun δ => (f δ).bd fun d => .ok (.rt d δ)
def asB (i : Nat) (f : En → Re D) : En → Re Fl := fun δ => (f δ).bd fun d => .ok (.nx (δ.set i (.sh d)))
theorem dB_expr (h : PE X e (tTC c W f)) (hs : swapsWith e none pos.line X.env = pure false := by rfl) : PS X (.Expr e pos) (tB c W (exB f)) := PS.imp (ps_expr h hs) fun σ H De ⟨Hs, G, δ, S, n, q⟩ => by
  refine ⟨Hs, G, δ, S, n, ?_⟩
  unfold exB at q
  cases hz : f δ with
  | bad => rw [hz] at q; exact q
  | er e => rw [hz] at q; exact q
  | ok d =>
    rw [hz] at q
    exact fun v Hs' H' s S' r => q σ Hs' H' s S'
theorem dB_ret (h : PE X e (tTC c W f)) : PS X (.Return (some e) pos) (tB c W (rtB f)) := PS.imp (ps_ret h) fun σ H De ⟨Hs, G, δ, S, n, q⟩ => by
  refine ⟨Hs, G, δ, S, n, ?_⟩
  unfold rtB at q
  cases hz : f δ with
  | bad => rw [hz] at q; exact q
  | er e => rw [hz] at q; exact q
  | ok d =>
    rw [hz] at q
    exact fun v Hs' H' s S' r => q v σ Hs' H' s S' r
theorem dB_set {i : Nat} {y : Str} {pos' : Pos} (hm : i ∉ c.mi) (hN : X.N.Nodup) (hi : X.N[i]? = some y) (hx : Loc X.env.scope y) (he : PE X e (tTC c W f)) (hs : swapsWith e (some (.Name y pos')) pos.line X.env = pure false := by rfl) (hf : X.fn y = true ∨ X.env.scope.names.lookup y = some .local := by first | exact .inl rfl | exact .inr rfl | assumption) :
    PS X (.Assign [.Name y pos'] e pos) (tB c W (asB i f)) := PS.imp (ps_set hN hi hx he hs hf) fun σ H De ⟨Hs, G, δ, S, n, q⟩ => by
  refine ⟨Hs, G, δ, S, n, ?_⟩
  unfold asB at q
  cases hz : f δ with
  | bad => rw [hz] at q; exact q
  | er e => rw [hz] at q; exact q
  | ok d =>
    rw [hz] at q
    exact fun v Hs' H' s S' r => q _ Hs' H' s (S'.setSh hm r)
def ifB (t : En → Re Bool) (A B : En → Re Fl) : En → Re Fl := fun δ => (noE (t δ)).bd fun b => match b with
  | true => A δ
  | false => B δ
theorem PoB.mono {σ : St} {δ : En} {Hs Hs' G : Hp} {De : Ends} {r : Re Fl} (s : Same Hs Hs') (h : PoB c W σ δ Hs G De r) : PoB c W σ δ Hs' G De r := by
  cases r with
  | bad => exact h
  | er e => exact fun Hs2 H2 s2 => h Hs2 H2 (s.trans s2)
  | ok fl => exact PoS.mono (x := .ok fl) s h
theorem dB_if {t : En → Re Bool} {A B : En → Re Fl} {sa sb : List Stmt} (ht : PT X e (tT c L2.E0 (Pu t))) (ha : PSs X sa (tB c W A)) (hb : PSs X sb (tB c W B)) : PS X (.If e sa sb pos) (tB c W (ifB t A B)) := PS.imp (ps_if ht ha hb) fun σ H De ⟨Hs, G, δ, S, n, q⟩ => by
  refine ⟨Hs, G, δ, S, ?_⟩
  unfold ifB at q
  unfold Pu
  cases hz : t δ with
  | bad => rw [hz] at q; exact q
  | er e => rw [hz] at q; exact q.elim
  | ok z =>
    rw [hz] at q
    refine fun Hs' H' s S' => ?_
    cases z with
    | true =>
      show if true = true then _ else _
      rw [if_pos rfl]
      exact ⟨Hs', G, δ, S', n, PoB.mono s q⟩
    | false =>
      show if false = true then _ else _
      rw [if_neg Bool.false_ne_true]
      exact ⟨Hs', G, δ, S', n, PoB.mono s q⟩
theorem dB_one {st : Stmt} {A : En → Re Fl} (h : PS X st (tB c W A)) : PSs X [st] (tB c W A) := pss_one h
def nopB : En → Re Fl := fun δ => .ok (.nx δ)
theorem dB_nil : PSs X [] (tB c W nopB) := PSs.imp pss_nil fun σ H De ⟨Hs, G, δ, S, n, q⟩ => q σ Hs H (Same.refl _) S
/-- what the top says of a clause's class: the errors that it meets, those that it lets pass -/
structure Hnd (K : PySem.W.Frag) (mg : Str → Option Value) (cv : Value) (yes no : List Str) : Prop where
  y : ∀ n ∈ yes, ∀ C, mg n = some (.ref C) → PySem.W.exmOne K (.ref C) cv = some true
  n : ∀ n ∈ no, ∀ C, mg n = some (.ref C) → PySem.W.exmOne K (.ref C) cv = some false
def tryS (yes no : List Str) (B A : En → Re Fl) : En → Re Fl := fun δ => if noOwn δ then (match B δ with
  | .er e => if e.cls ∈ yes then noE (A δ) else if e.cls ∈ no then .er e else .bad
  | r => r) else .bad
theorem PoS.e0 {Hs G : Hp} {De : Ends} {r : Re Fl} (h : PoS c E Hs G De (noE r)) : PoS c L2.E0 Hs G De r := by
  cases r with
  | bad => exact h
  | er e => exact h.elim
  | ok fl => cases fl <;> exact h
theorem PoB.of {σ : St} {δ : En} {Hs G : Hp} {De : Ends} {fl : Fl} (h : PoS c E Hs G De (.ok fl)) : PoB c W σ δ Hs G De (.ok fl) := by
  cases fl <;> exact h
theorem XOk.imp {E' : XK} {Hs H : Hp} {e : Er} (h : XOk c E Hs H e) (w : ∀ C d, c.mg e.cls = some (.ref C) → E (.ref C) d H → E' (.ref C) d H) : XOk c E' Hs H e := by
  unfold XOk at h ⊢
  cases hp : e.pay with
  | none => rw [hp] at h; exact fun C hC => w C _ hC (h C hC)
  | some z => rw [hp] at h; exact fun C dx v hC h1 h2 => w C _ hC (h C dx v hC h1 h2)
theorem ds_try {cv : Value} {yes no : List Str} {body suite : List Stmt} {b0 : Stmt} {B A : En → Re Fl} {np pos' : Pos} (hx : X.mg x = some cv) (Hd : Hnd X.K X.mg cv yes no) (tk : Takes X (fun cls d _ H => E cls d H))
    (hb : ∀ (W : WX) (pn : List (Addr × Obj)) (xe : Value → Shared → Prop), Takes (X.tr pn xe) W → PSs (X.tr pn xe) body (tB c W B))
    (ha : ∀ (a : Addr) (oe : Obj) (pn : List (Addr × Obj)), PSs (X.suite a ((a, oe) :: pn)) (b0 :: suite) (tS c L2.E0 A))
    (hs : X.stack = X.env :: X.outer := by rfl) (hf : X.env.frame = some X.env.locals := by rfl) (hM : c.mg = X.mg := by rfl) (hg : Gl X x := by rfl) (hdb : (x == ("__debug__" : Str)) = false := by decide) :
    PS X (.Try body [.ExceptHandler (some (.Name x np)) none (b0 :: suite) pos'] [] [] pos) (tS c E (tryS yes no B A)) := by
  refine PS.imp (ps_try_only (tb := fun W => tB c W B) (ts := fun _ _ _ => tS c L2.E0 A) (Wout := fun cls d _ H => E cls d H) hs hf ⟨hg, hdb, .inl hx⟩ tk (fun W pn xe t _ => hb W pn xe t) fun a oe cls d pn _ _ => ha a oe pn) fun σ H De ⟨Hs, G, δ, S, q⟩ => ?_
  unfold tryS at q
  by_cases n : noOwn δ = true
  · rw [if_pos n] at q
    refine ⟨Hs, G, δ, S, n, ?_⟩
    cases hz : B δ with
    | bad => rw [hz] at q; exact q
    | ok fl => rw [hz] at q; exact PoB.of q
    | er e =>
      rw [hz] at q
      simp only at q
      refine fun Hs' H' s S' => ?_
      by_cases m : e.cls ∈ yes
      · rw [if_pos m] at q
        have w : ∀ (C : Addr) (d : Option Addr), c.mg e.cls = some (.ref C) → WE (wOnly X.K cv (fun _ _ _ => tS c L2.E0 A) (fun cls d _ H => E cls d H) De) σ (.ref C) d H' := fun C d hC =>
          ⟨true, Hd.y _ m C (hM ▸ hC), fun _ a _ => ⟨Hs', G, δ, S', PoS.mono s (PoS.e0 q)⟩, fun z => Bool.noConfusion z⟩
        unfold XOk
        cases hp : e.pay with
        | none => exact fun C hC => w C _ hC
        | some z => exact fun C dx v hC _ _ => w C _ hC
      · rw [if_neg m] at q
        by_cases m2 : e.cls ∈ no
        · rw [if_pos m2] at q
          have o : XOk c E Hs' H' e := q Hs' H' s S'.toFrm
          exact o.imp fun C d hC hE => ⟨false, Hd.n _ m2 C (hM ▸ hC), fun z => Bool.noConfusion z, fun _ => hE⟩
        · rw [if_neg m2] at q; exact q.elim
  · rw [if_neg n] at q; exact q.elim
end
end DL
namespace DL
open PySem L2
section
variable {X : Cx} {c : DC} {E : XK} {x : Str}
theorem ds_tryE {yes no : List Str} {body suite : List Stmt} {b0 : Stmt} {B A : En → Re Fl} {np pos pos' : Pos} (T : ∃ cv, X.mg x = some cv ∧ Hnd X.K X.mg cv yes no) (tk : Takes X (fun cls d _ H => E cls d H))
    (hb : ∀ (W : WX) (pn : List (Addr × Obj)) (xe : Value → Shared → Prop), Takes (X.tr pn xe) W → PSs (X.tr pn xe) body (tB c W B))
    (ha : ∀ (a : Addr) (oe : Obj) (pn : List (Addr × Obj)), PSs (X.suite a ((a, oe) :: pn)) (b0 :: suite) (tS c L2.E0 A))
    (hs : X.stack = X.env :: X.outer := by rfl) (hf : X.env.frame = some X.env.locals := by rfl) (hM : c.mg = X.mg := by rfl) (hg : Gl X x := by rfl) (hdb : (x == ("__debug__" : Str)) = false := by decide) :
    PS X (.Try body [.ExceptHandler (some (.Name x np)) none (b0 :: suite) pos'] [] [] pos) (tS c E (tryS yes no B A)) := by
  obtain ⟨cv, h1, h2⟩ := T
  exact ds_try h1 h2 tk hb ha hs hf hM hg hdb
end
/-! ### from what the top has written -/
def HdB (K : PySem.W.Frag) (mg : Str → Option Value) (cv : Value) (b : Bool) (ns : List Str) : Prop := ∀ n ∈ ns, ∀ C, mg n = some (.ref C) → PySem.W.exmOne K (.ref C) cv = some b
theorem hd_nil {K : PySem.W.Frag} {mg : Str → Option Value} {cv : Value} {b : Bool} : HdB K mg cv b [] := fun n h => by cases h
theorem hd_cons {K : PySem.W.Frag} {mg : Str → Option Value} {cv : Value} {b : Bool} {n : Str} {ns : List Str} {C : Addr} (g : mg n = some (.ref C)) (e : PySem.W.exmOne K (.ref C) cv = some b) (h : HdB K mg cv b ns) : HdB K mg cv b (n :: ns) := fun m hm D hD => by
  rcases List.mem_cons.mp hm with rfl | hm
  · rw [g] at hD; cases hD; exact e
  · exact h m hm D hD
theorem hnd_of {K : PySem.W.Frag} {mg : Str → Option Value} {x : Str} {D : Addr} {yes no : List Str} (g : mg x = some (.ref D)) (y : HdB K mg (.ref D) true yes) (n : HdB K mg (.ref D) false no) : ∃ cv, mg x = some cv ∧ Hnd K mg cv yes no := ⟨_, g, y, n⟩
end DL

/-! FT: forests, plain -/
namespace FT
abbrev Ed := Nat × Nat
def Adj (es : List Ed) (a b : Nat) : Prop := (a, b) ∈ es ∨ (b, a) ∈ es
inductive Cn (es : List Ed) (a : Nat) : Nat → Prop
  | refl : Cn es a a
  | tail {b c : Nat} : Cn es a b → Adj es b c → Cn es a c
theorem Adj.symm {es : List Ed} {a b : Nat} (h : Adj es a b) : Adj es b a := Or.symm h
theorem Adj.mono {es fs : List Ed} (s : ∀ p ∈ es, p ∈ fs) {a b : Nat} (h : Adj es a b) : Adj fs a b := h.imp (s _) (s _)
theorem Cn.mono {es fs : List Ed} (s : ∀ p ∈ es, p ∈ fs) {a b : Nat} (h : Cn es a b) : Cn fs a b := by
  induction h with
  | refl => exact .refl
  | tail _ e ih => exact .tail ih (e.mono s)
theorem Cn.trans {es : List Ed} {a b c : Nat} (h : Cn es a b) (k : Cn es b c) : Cn es a c := by
  induction k with
  | refl => exact h
  | tail _ e ih => exact .tail ih e
theorem Cn.one {es : List Ed} {a b : Nat} (h : Adj es a b) : Cn es a b := .tail .refl h
theorem Cn.symm {es : List Ed} {a b : Nat} (h : Cn es a b) : Cn es b a := by
  induction h with
  | refl => exact .refl
  | tail _ e ih => exact (Cn.one e.symm).trans ih
theorem cn_cons {p : Ed} {es : List Ed} {a b : Nat} : Cn (p :: es) a b ↔ Cn es a b ∨ (Cn es a p.1 ∧ Cn es p.2 b) ∨ (Cn es a p.2 ∧ Cn es p.1 b) := by
  constructor
  · intro h
    induction h with
    | refl => exact .inl .refl
    | @tail b c _ e ih =>
      have e' : (b = p.1 ∧ c = p.2) ∨ (b = p.2 ∧ c = p.1) ∨ Adj es b c := by
        rcases e with e | e
        · rcases List.mem_cons.mp e with e | e
          · exact .inl ⟨congrArg Prod.fst e, congrArg Prod.snd e⟩
          · exact .inr (.inr (.inl e))
        · rcases List.mem_cons.mp e with e | e
          · exact .inr (.inl ⟨congrArg Prod.snd e, congrArg Prod.fst e⟩)
          · exact .inr (.inr (.inr e))
      rcases e' with ⟨rfl, rfl⟩ | ⟨rfl, rfl⟩ | e'
      · rcases ih with ih | ⟨i1, i2⟩ | ⟨i1, i2⟩
        · exact .inr (.inl ⟨ih, .refl⟩)
        · exact .inr (.inl ⟨i1, .refl⟩)
        · exact .inl i1
      · rcases ih with ih | ⟨i1, i2⟩ | ⟨i1, i2⟩
        · exact .inr (.inr ⟨ih, .refl⟩)
        · exact .inl i1
        · exact .inr (.inr ⟨i1, .refl⟩)
      · rcases ih with ih | ⟨i1, i2⟩ | ⟨i1, i2⟩
        · exact .inl (.tail ih e')
        · exact .inr (.inl ⟨i1, .tail i2 e'⟩)
        · exact .inr (.inr ⟨i1, .tail i2 e'⟩)
  · have m : ∀ {x y}, Cn es x y → Cn (p :: es) x y := fun h => h.mono fun q hq => List.mem_cons_of_mem _ hq
    have e : Adj (p :: es) p.1 p.2 := .inl (List.mem_cons_self ..)
    rintro (h | ⟨h1, h2⟩ | ⟨h1, h2⟩)
    · exact m h
    · exact ((m h1).trans (.one e)).trans (m h2)
    · exact ((m h1).trans (.one e.symm)).trans (m h2)
theorem cn_nil {a b : Nat} : Cn [] a b ↔ a = b := by
  constructor
  · intro h
    induction h with
    | refl => rfl
    | tail _ e ih => rcases e with e | e <;> cases e
  · rintro rfl; exact .refl
/-- no cycle: each edge joins two trees of those behind it -/
def Ac : List Ed → Prop
  | [] => True
  | p :: es => Ac es ∧ ¬ Cn es p.1 p.2
theorem Cn.perm {es fs : List Ed} (h : es.Perm fs) {a b : Nat} : Cn es a b ↔ Cn fs a b :=
  ⟨Cn.mono fun p hp => h.subset hp, Cn.mono fun p hp => h.symm.subset hp⟩
theorem ac_swap {p q : Ed} {es : List Ed} (h : Ac (p :: q :: es)) : Ac (q :: p :: es) := by
  obtain ⟨⟨h1, h2⟩, h3⟩ := h
  have m : ∀ {x y}, Cn es x y → Cn (q :: es) x y := fun h => h.mono fun q hq => List.mem_cons_of_mem _ hq
  have e : Cn (q :: es) q.1 q.2 := .one (.inl (List.mem_cons_self ..))
  refine ⟨⟨h1, fun z => h3 (m z)⟩, fun z => ?_⟩
  rcases cn_cons.mp z with z | ⟨z1, z2⟩ | ⟨z1, z2⟩
  · exact h2 z
  · exact h3 (((m z1.symm).trans e).trans (m z2.symm))
  · exact h3 (((m z2).trans e.symm).trans (m z1))
theorem Ac.perm {es fs : List Ed} (h : es.Perm fs) : Ac es → Ac fs := by
  induction h with
  | nil => exact id
  | cons p h ih => exact fun ⟨a, b⟩ => ⟨ih a, fun z => b ((Cn.perm h).mpr z)⟩
  | swap p q es => exact ac_swap
  | trans _ _ i1 i2 => exact i2 ∘ i1
theorem ac_perm {es fs : List Ed} (h : es.Perm fs) : Ac es ↔ Ac fs := ⟨Ac.perm h, Ac.perm h.symm⟩
theorem Ac.tail {p : Ed} {es : List Ed} (h : Ac (p :: es)) : Ac es := h.1
theorem Ac.sub {es fs : List Ed} (h : es.Sublist fs) : Ac fs → Ac es := by
  induction h with
  | slnil => exact id
  | cons p _ ih => exact fun a => ih a.1
  | cons_cons p s ih => exact fun a => ⟨ih a.1, fun z => a.2 (z.mono fun q hq => s.subset hq)⟩
theorem Ac.nodup {es : List Ed} (h : Ac es) : es.Nodup := by
  induction es with
  | nil => exact List.nodup_nil
  | cons p es ih => exact List.nodup_cons.mpr ⟨fun z => h.2 (.one (.inl z)), ih h.1⟩
theorem Ac.ne {es : List Ed} (h : Ac es) : ∀ p ∈ es, p.1 ≠ p.2 := by
  induction es with
  | nil => exact fun p hp => absurd hp (List.not_mem_nil)
  | cons p es ih =>
    intro q hq
    rcases List.mem_cons.mp hq with rfl | hq
    · intro e; exact h.2 (e ▸ .refl)
    · exact ih h.1 q hq
/-- a position without edges is by itself -/
theorem cn_off {es : List Ed} {v w : Nat} (h : ∀ p ∈ es, p.1 ≠ v ∧ p.2 ≠ v) (c : Cn es v w) : w = v := by
  induction c with
  | refl => rfl
  | tail _ e ih =>
    subst ih
    rcases e with e | e
    · exact absurd rfl (h _ e).1
    · exact absurd rfl (h _ e).2
/-- all edges lie within a set: so does what is joined -/
theorem cn_in {es : List Ed} {S : Nat → Prop} (h : ∀ p ∈ es, S p.1 ∧ S p.2) {v w : Nat} (hv : S v) (c : Cn es v w) : S w := by
  induction c with
  | refl => exact hv
  | tail _ e ih => rcases e with e | e
                   · exact (h _ e).2
                   · exact (h _ e).1
/-- a closed set holds all that is joined -/
theorem cn_closed {es : List Ed} {S : Nat → Prop} (h : ∀ p ∈ es, S p.1 ↔ S p.2) {v w : Nat} (c : Cn es v w) : S v ↔ S w := by
  induction c with
  | refl => exact Iff.rfl
  | tail _ e ih => rcases e with e | e
                   · exact ih.trans (h _ e)
                   · exact ih.trans (h _ e).symm
theorem nodup_le : ∀ (n : Nat) (l : List Nat), l.Nodup → (∀ x ∈ l, x < n) → l.length ≤ n
  | 0, l, _, h => by
    cases l with
    | nil => exact Nat.le_refl _
    | cons x l => exact absurd (h x (List.mem_cons_self ..)) (Nat.not_lt_zero _)
  | n + 1, l, d, h => by
    have := nodup_le n (l.erase n) (d.erase n) fun x hx => by
      have := (List.Nodup.mem_erase_iff d).mp hx
      have := h x this.2
      omega
    rw [List.length_erase] at this
    split at this <;> omega
/-! ### labels: a list that says which are joined -/
def Lab (n : Nat) (es : List Ed) (ls : List Nat) : Prop := ls.length = n ∧ ∀ i j, (hi : i < ls.length) → (hj : j < ls.length) → (ls[i] = ls[j] ↔ Cn es i j)
theorem lab_nil (n : Nat) : Lab n [] (List.range n) := ⟨List.length_range, fun i j hi hj => by
  rw [cn_nil]; simp⟩
abbrev relab (kept gone : Nat) (ls : List Nat) : List Nat := ls.map fun l => if l = gone then kept else l
theorem Lab.step {n : Nat} {es : List Ed} {ls : List Nat} (h : Lab n es ls) {p : Ed} (h1 : p.1 < ls.length) (h2 : p.2 < ls.length) {k g : Nat} (hk : (k = ls[p.1] ∧ g = ls[p.2]) ∨ (k = ls[p.2] ∧ g = ls[p.1])) : Lab n (p :: es) (relab k g ls) := by
  refine ⟨by rw [List.length_map]; exact h.1, fun i j hi hj => ?_⟩
  have hi' : i < ls.length := by rw [List.length_map] at hi; exact hi
  have hj' : j < ls.length := by rw [List.length_map] at hj; exact hj
  have e1 : (relab k g ls)[i] = if ls[i] = g then k else ls[i] := List.getElem_map ..
  have e2 : (relab k g ls)[j] = if ls[j] = g then k else ls[j] := List.getElem_map ..
  rw [e1, e2, cn_cons, ← h.2 i j hi' hj', ← h.2 i p.1 hi' h1, ← h.2 p.2 j h2 hj', ← h.2 i p.2 hi' h2, ← h.2 p.1 j h1 hj']
  rcases hk with ⟨rfl, rfl⟩ | ⟨rfl, rfl⟩ <;> split <;> split <;> omega
/-! ### growing a group by passes over the edges -/
def grow1 (f : List Nat) (p : Ed) : List Nat :=
  let f1 := if p.1 ∈ f ∧ p.2 ∉ f then f ++ [p.2] else f
  if p.2 ∈ f1 ∧ p.1 ∉ f1 then f1 ++ [p.1] else f1
def grow (es : List Ed) (f : List Nat) : List Nat := es.foldl grow1 f
def Grp (n : Nat) (all : List Ed) (v : Nat) (f : List Nat) : Prop := f.Nodup ∧ v ∈ f ∧ ∀ x ∈ f, Cn all v x
theorem grow1_sub {f : List Nat} {p : Ed} {x : Nat} (h : x ∈ f) : x ∈ grow1 f p := by
  unfold grow1
  simp only
  split <;> split <;> simp [h]
theorem grow1_len {f : List Nat} {p : Ed} : f.length ≤ (grow1 f p).length ∧ ((grow1 f p).length = f.length → grow1 f p = f) := by
  unfold grow1
  simp only
  split <;> split <;> simp
theorem grow1_clo {f : List Nat} {p : Ed} : p.1 ∈ grow1 f p ↔ p.2 ∈ grow1 f p := by
  unfold grow1
  simp only
  split
  · rename_i h
    split
    · rename_i h2; simp at h2; exact absurd h.1 h2.1
    · simp [h.1]
  · rename_i h
    split
    · rename_i h2; simp [h2.1]
    · rename_i h2
      constructor
      · intro z; exact Decidable.byContradiction fun y => h ⟨z, y⟩
      · intro z; exact Decidable.byContradiction fun y => h2 ⟨z, y⟩
theorem grow1_grp {n : Nat} {all : List Ed} {v : Nat} {f : List Nat} {p : Ed} (h : Grp n all v f) (hp : p ∈ all) : Grp n all v (grow1 f p) := by
  obtain ⟨h1, h2, h3⟩ := h
  have e : Adj all p.1 p.2 := .inl hp
  unfold grow1
  simp only
  split
  · rename_i z
    have q : Grp n all v (f ++ [p.2]) := ⟨by rw [List.nodup_append]; exact ⟨h1, by simp, fun a ha b hb => by simp at hb; subst hb; exact fun e => z.2 (e ▸ ha)⟩, by simp [h2], fun x hx => by
      rcases List.mem_append.mp hx with hx | hx
      · exact h3 x hx
      · simp at hx; subst hx; exact .tail (h3 _ z.1) e⟩
    split
    · rename_i y; simp at y; exact absurd z.1 y.1
    · exact q
  · split
    · rename_i z
      exact ⟨by rw [List.nodup_append]; exact ⟨h1, by simp, fun a ha b hb => by simp at hb; subst hb; exact fun e => z.2 (e ▸ ha)⟩, by simp [h2], fun x hx => by
      rcases List.mem_append.mp hx with hx | hx
      · exact h3 x hx
      · simp at hx; subst hx; exact .tail (h3 _ z.1) e.symm⟩
    · exact ⟨h1, h2, h3⟩
theorem grow_grp {n : Nat} {all : List Ed} {v : Nat} : ∀ {es : List Ed} {f : List Nat}, (∀ p ∈ es, p ∈ all) → Grp n all v f → Grp n all v (grow es f)
  | [], f, _, h => h
  | p :: es, f, s, h => grow_grp (es := es) (fun q hq => s q (List.mem_cons_of_mem _ hq)) (grow1_grp h (s p (List.mem_cons_self ..)))
theorem grow_len : ∀ {es : List Ed} {f : List Nat}, f.length ≤ (grow es f).length ∧ ((grow es f).length = f.length → grow es f = f ∧ ∀ p ∈ es, p.1 ∈ f ↔ p.2 ∈ f)
  | [], f => ⟨Nat.le_refl _, fun _ => ⟨rfl, fun p hp => absurd hp (List.not_mem_nil)⟩⟩
  | p :: es, f => by
    have a := grow1_len (f := f) (p := p)
    have b := grow_len (es := es) (f := grow1 f p)
    show f.length ≤ (grow es (grow1 f p)).length ∧ ((grow es (grow1 f p)).length = f.length → grow es (grow1 f p) = f ∧ _)
    refine ⟨Nat.le_trans a.1 b.1, fun e => ?_⟩
    have e1 : (grow1 f p).length = f.length := by have := a.1; have := b.1; omega
    have e2 := a.2 e1
    have e3 := b.2 (by omega)
    rw [e2] at e3
    refine ⟨by rw [e2]; exact e3.1, fun q hq => ?_⟩
    rcases List.mem_cons.mp hq with rfl | hq
    · have := grow1_clo (f := f) (p := q)
      rw [e2] at this; exact this
    · exact e3.2 q hq
def Clo (es : List Ed) (f : List Nat) : Prop := ∀ p ∈ es, p.1 ∈ f ↔ p.2 ∈ f
theorem grow1_noop {f : List Nat} {p : Ed} (h : p.1 ∈ f ↔ p.2 ∈ f) : grow1 f p = f := by
  unfold grow1
  simp only
  split
  · rename_i z; exact absurd (h.mp z.1) z.2
  · split
    · rename_i z; exact absurd (h.mpr z.1) z.2
    · rfl
theorem grow_noop : ∀ {es : List Ed} {f : List Nat}, Clo es f → grow es f = f
  | [], f, _ => rfl
  | p :: es, f, h => by
    show grow es (grow1 f p) = f
    rw [grow1_noop (h p (List.mem_cons_self ..))]
    exact grow_noop fun q hq => h q (List.mem_cons_of_mem _ hq)
def grows (es : List Ed) : Nat → List Nat → List Nat
  | 0, f => f
  | k + 1, f => grows es k (grow es f)
theorem grows_ok {n : Nat} {es : List Ed} {v : Nat} (hv : v < n) (hn : ∀ p ∈ es, p.1 < n ∧ p.2 < n) : ∀ (k : Nat) (f : List Nat), Grp n es v f → (Clo es f ∨ n + 1 ≤ f.length + k) → Grp n es v (grows es k f) ∧ Clo es (grows es k f)
  | 0, f, g, h => by
    refine ⟨g, ?_⟩
    rcases h with h | h
    · exact h
    · have := nodup_le n f g.1 fun x hx => cn_in (S := (· < n)) hn hv (g.2.2 x hx)
      omega
  | k + 1, f, g, h => by
    refine grows_ok hv hn k (grow es f) (grow_grp (fun _ => id) g) ?_
    by_cases c : Clo es f
    · rw [grow_noop c]; exact .inl c
    · have a := grow_len (es := es) (f := f)
      rcases h with h | h
      · exact absurd h c
      · refine .inr ?_
        have : (grow es f).length ≠ f.length := fun e => c (a.2 e).2
        have := a.1
        omega
theorem grows_iff {n : Nat} {es : List Ed} {v : Nat} (hv : v < n) (hn : ∀ p ∈ es, p.1 < n ∧ p.2 < n) (w : Nat) : w ∈ grows es n [v] ↔ Cn es v w := by
  have ⟨g, c⟩ := grows_ok hv hn n [v] ⟨by simp, by simp, fun x hx => by simp at hx; subst hx; exact .refl⟩ (.inr (by simp; omega))
  exact ⟨fun h => g.2.2 w h, fun h => (cn_closed (S := (· ∈ grows es n [v])) c h).mp g.2.1⟩
theorem grows_succ (es : List Ed) : ∀ (k : Nat) (f : List Nat), grows es (k + 1) f = grow es (grows es k f)
  | 0, _ => rfl
  | k + 1, f => grows_succ es k (grow es f)
theorem grows_grp {n : Nat} {es : List Ed} {v : Nat} : ∀ (k : Nat) (f : List Nat), Grp n es v f → Grp n es v (grows es k f)
  | 0, _, h => h
  | k + 1, f, h => grows_grp k (grow es f) (grow_grp (fun _ => id) h)
theorem grp_len {n : Nat} {es : List Ed} {v : Nat} {f : List Nat} (hv : v < n) (hn : ∀ p ∈ es, p.1 < n ∧ p.2 < n) (g : Grp n es v f) : f.length ≤ n :=
  nodup_le n f g.1 fun x hx => cn_in (S := (· < n)) hn hv (g.2.2 x hx)
theorem grp_one {n : Nat} {es : List Ed} {v : Nat} : Grp n es v [v] := ⟨by simp, by simp, fun x hx => by simp at hx; subst hx; exact .refl⟩
end FT

/-! FT2: in a forest where every place points to a neighbour, two places point to each other -/
namespace FT
theorem adj_cons {p : Ed} {es : List Ed} {a b : Nat} (e : Adj (p :: es) a b) : (a = p.1 ∧ b = p.2) ∨ (a = p.2 ∧ b = p.1) ∨ Adj es a b := by
  rcases e with e | e
  · rcases List.mem_cons.mp e with e | e
    · exact .inl ⟨congrArg Prod.fst e, congrArg Prod.snd e⟩
    · exact .inr (.inr (.inl e))
  · rcases List.mem_cons.mp e with e | e
    · exact .inr (.inl ⟨congrArg Prod.snd e, congrArg Prod.fst e⟩)
    · exact .inr (.inr (.inr e))
def itr (h : Nat → Nat) (v : Nat) : Nat → Nat
  | 0 => v
  | k + 1 => h (itr h v k)
theorem least {Q : Nat → Prop} (n : Nat) (h : Q n) : ∃ k, Q k ∧ ∀ j, j < k → ¬ Q j := by
  induction n using Nat.strongRecOn with
  | _ n ih =>
    by_cases c : ∃ j, j < n ∧ Q j
    · obtain ⟨j, hj, q⟩ := c
      exact ih j hj q
    · exact ⟨n, h, fun j hj q => c ⟨j, hj, q⟩⟩
theorem no_mutual : ∀ (es : List Ed), Ac es → ∀ (W : Nat → Prop) (h : Nat → Nat), (∃ v, W v) → (∀ v, W v → W (h v) ∧ Adj es v (h v)) → ¬ ∀ v, W v → h (h v) ≠ v
  | [], _, W, h, ⟨v, hv⟩, hc, _ => by
    rcases (hc v hv).2 with e | e <;> cases e
  | p :: es, A, W, h, ⟨v, hv⟩, hc, no => by
    obtain ⟨A', nc⟩ := A
    by_cases c : ∃ w, W w ∧ ¬ Adj es w (h w)
    · obtain ⟨a, ha, na⟩ := c
      -- the edge p is pointed along by a
      have hp : (a = p.1 ∧ h a = p.2) ∨ (a = p.2 ∧ h a = p.1) := by
        rcases adj_cons (hc a ha).2 with e | e | e
        · exact .inl e
        · exact .inr e
        · exact absurd e na
      have ncs : ¬ Cn es (h a) a := fun z => by
        rcases hp with ⟨e1, e2⟩ | ⟨e1, e2⟩
        · rw [e1] at z e2; rw [e2] at z; exact nc z.symm
        · rw [e1] at z e2; rw [e2] at z; exact nc z
      have inW : ∀ m, W (itr h (h a) m) := by
        intro m
        induction m with
        | zero => exact (hc a ha).1
        | succ m ih => exact (hc _ ih).1
      -- a step that is not from a is not along p
      have step : ∀ m, itr h (h a) m ≠ a → Adj es (itr h (h a) m) (itr h (h a) (m + 1)) := fun m ne => by
        rcases adj_cons (hc _ (inW m)).2 with ⟨e1, e2⟩ | ⟨e1, e2⟩ | e
        · rcases hp with ⟨f1, f2⟩ | ⟨f1, f2⟩
          · exact absurd (e1.trans f1.symm) ne
          · exact absurd (by rw [f2, ← e1, e2, ← f1] : h (h a) = a) (no a ha)
        · rcases hp with ⟨f1, f2⟩ | ⟨f1, f2⟩
          · exact absurd (by rw [f2, ← e1, e2, ← f1] : h (h a) = a) (no a ha)
          · exact absurd (e1.trans f1.symm) ne
        · exact e
      by_cases r : ∃ m, itr h (h a) m = a
      · obtain ⟨m, hm⟩ := r
        obtain ⟨k, hk, hl⟩ := least (Q := fun m => itr h (h a) m = a) m hm
        have go : ∀ j, j ≤ k → Cn es (h a) (itr h (h a) j) := by
          intro j
          induction j with
          | zero => exact fun _ => .refl
          | succ j ih => exact fun hj => .tail (ih (by omega)) (step j (hl j (by omega)))
        have := go k (Nat.le_refl _)
        rw [hk] at this
        exact ncs this
      · refine no_mutual es A' (fun x => ∃ m, itr h (h a) m = x) h ⟨h a, 0, rfl⟩ (fun x ⟨m, hm⟩ => ⟨⟨m + 1, by rw [← hm]; rfl⟩, ?_⟩) fun x ⟨m, hm⟩ => no x (hm ▸ inW m)
        have := step m fun z => r ⟨m, z⟩
        rw [hm] at this
        show Adj es x (h x)
        rw [← hm] at this ⊢
        exact this
    · refine no_mutual es A' W h ⟨v, hv⟩ (fun x hx => ⟨(hc x hx).1, Classical.byContradiction fun z => c ⟨x, hx, z⟩⟩) no
theorem meets {es : List Ed} (A : Ac es) {W : Nat → Prop} {h : Nat → Nat} (ne : ∃ v, W v) (hc : ∀ v, W v → W (h v) ∧ Adj es v (h v)) : ∃ v, W v ∧ h (h v) = v :=
  Classical.byContradiction fun z => no_mutual es A W h ne hc fun v hv e => z ⟨v, hv, e⟩
end FT

/-! EV: how the functions over data are computed, as equations for simp -/
namespace DL
open PySem L2
@[simp] theorem nb_bad {α β : Type} (k : α → Re β) : nb .bad k = .bad := (rfl)
theorem bd_eq_ok {α β : Type} {x : Re α} {k : α → Re β} {b : β} : x.bd k = .ok b ↔ ∃ a, x = .ok a ∧ k a = .ok b := by
  cases x <;> simp
def vOf : Option Sl → Re D
  | some (.sh d) => .ok d
  | _ => .bad
@[simp] theorem vOf_sh (d : D) : vOf (some (.sh d)) = .ok d := (rfl)
@[simp] theorem pV_ap (i : Nat) (δ : En) : pV i δ = vOf δ[i]? := (rfl)
@[simp] theorem pK_ap (d : D) (δ : En) : pK d δ = .ok d := (rfl)
@[simp] theorem Pu_ap {α : Type} (f : En → Re α) (δ : En) : Pu f δ = (f δ).bd fun a => .ok (a, δ) := (rfl)
@[simp] theorem fz_ap (f : En → Re (List D × En)) (δ : En) : fz f δ = (f δ).bd fun p => .ok (.list p.1, p.2) := (rfl)
def eOp2 {α : Type} (g : D → D → Option α) (x : D) (q : D × En) : Re (α × En) := (opt (g x q.1)).bd fun d => .ok (d, q.2)
@[simp] theorem eOp2_ap {α : Type} (g : D → D → Option α) (x y : D) (δ : En) : eOp2 g x (y, δ) = (opt (g x y)).bd fun d => .ok (d, δ) := (rfl)
def eOp1 {α : Type} (g : D → D → Option α) (fb : En → Re (D × En)) (p : D × En) : Re (α × En) := (fb p.2).bd (eOp2 g p.1)
@[simp] theorem eOp1_ap {α : Type} (g : D → D → Option α) (fb : En → Re (D × En)) (x : D) (δ : En) : eOp1 g fb (x, δ) = (fb δ).bd (eOp2 g x) := (rfl)
@[simp] theorem eOp_ap {α : Type} (g : D → D → Option α) (fa fb : En → Re (D × En)) (δ : En) : eOp g fa fb δ = (fa δ).bd (eOp1 g fb) := (rfl)
def pOp2 {α : Type} (g : D → D → Option α) (x y : D) : Re α := opt (g x y)
@[simp] theorem pOp2_ap {α : Type} (g : D → D → Option α) (x y : D) : pOp2 g x y = opt (g x y) := (rfl)
def pOp1 {α : Type} (g : D → D → Option α) (fb : En → Re D) (δ : En) (x : D) : Re α := (fb δ).bd (pOp2 g x)
@[simp] theorem pOp1_ap {α : Type} (g : D → D → Option α) (fb : En → Re D) (δ : En) (x : D) : pOp1 g fb δ x = (fb δ).bd (pOp2 g x) := (rfl)
@[simp] theorem pOp_ap {α : Type} (g : D → D → Option α) (fa fb : En → Re D) (δ : En) : pOp g fa fb δ = (fa δ).bd (pOp1 g fb δ) := (rfl)
@[simp] theorem eUn_ap (g : D → Option D) (fa : En → Re (D × En)) (δ : En) : eUn g fa δ = (fa δ).bd fun p => (opt (g p.1)).bd fun d => .ok (d, p.2) := (rfl)
@[simp] theorem pUn_ap (g : D → Option D) (fa : En → Re D) (δ : En) : pUn g fa δ = (fa δ).bd fun p => opt (g p) := (rfl)
def tru : D → Re Bool
  | .bool b => .ok b
  | _ => .bad
@[simp] theorem tru_b (b : Bool) : tru (.bool b) = .ok b := (rfl)
@[simp] theorem eTe_ap (f : En → Re (D × En)) (δ : En) : eTe f δ = (f δ).bd fun p => (tru p.1).bd fun b => .ok (b, p.2) := by
  unfold eTe; cases f δ with
  | ok x => obtain ⟨d, δ'⟩ := x; cases d <;> rfl
  | _ => rfl
@[simp] theorem pTe_ap (f : En → Re D) (δ : En) : pTe f δ = (f δ).bd tru := by
  unfold pTe; cases f δ with
  | ok x => cases x <;> rfl
  | _ => rfl
@[simp] theorem eNot_ap (f : En → Re (Bool × En)) (δ : En) : eNot f δ = (f δ).bd fun p => .ok (!p.1, p.2) := (rfl)
@[simp] theorem pNot_ap (f : En → Re Bool) (δ : En) : pNot f δ = (f δ).bd fun p => .ok (!p) := (rfl)
def eAnd1 (g : En → Re (Bool × En)) (p : Bool × En) : Re (Bool × En) := if p.1 = true then g p.2 else .ok (false, p.2)
@[simp] theorem eAnd1_ap (g : En → Re (Bool × En)) (b : Bool) (δ : En) : eAnd1 g (b, δ) = if b = true then g δ else .ok (false, δ) := (rfl)
@[simp] theorem eAnd_ap (f g : En → Re (Bool × En)) (δ : En) : eAnd f g δ = (f δ).bd (eAnd1 g) := by
  unfold eAnd; cases f δ with
  | ok x => obtain ⟨b, δ'⟩ := x; cases b <;> rfl
  | _ => rfl
def eOr1 (g : En → Re (Bool × En)) (p : Bool × En) : Re (Bool × En) := if p.1 = true then .ok (true, p.2) else g p.2
@[simp] theorem eOr1_ap (g : En → Re (Bool × En)) (b : Bool) (δ : En) : eOr1 g (b, δ) = if b = true then .ok (true, δ) else g δ := (rfl)
@[simp] theorem eOr_ap (f g : En → Re (Bool × En)) (δ : En) : eOr f g δ = (f δ).bd (eOr1 g) := by
  unfold eOr; cases f δ with
  | ok x => obtain ⟨b, δ'⟩ := x; cases b <;> rfl
  | _ => rfl
def pAnd1 (g : En → Re Bool) (δ : En) (b : Bool) : Re Bool := if b = true then g δ else .ok false
@[simp] theorem pAnd1_ap (g : En → Re Bool) (δ : En) (b : Bool) : pAnd1 g δ b = if b = true then g δ else .ok false := (rfl)
@[simp] theorem pAnd_ap (f g : En → Re Bool) (δ : En) : pAnd f g δ = (f δ).bd (pAnd1 g δ) := by
  unfold pAnd; cases f δ with
  | ok b => cases b <;> rfl
  | _ => rfl
def pOr1 (g : En → Re Bool) (δ : En) (b : Bool) : Re Bool := if b = true then .ok true else g δ
@[simp] theorem pOr1_ap (g : En → Re Bool) (δ : En) (b : Bool) : pOr1 g δ b = if b = true then .ok true else g δ := (rfl)
@[simp] theorem pOr_ap (f g : En → Re Bool) (δ : En) : pOr f g δ = (f δ).bd (pOr1 g δ) := by
  unfold pOr; cases f δ with
  | ok b => cases b <;> rfl
  | _ => rfl
@[simp] theorem eBo_ap (f : En → Re (Bool × En)) (δ : En) : eBo f δ = (f δ).bd fun p => .ok (.bool p.1, p.2) := (rfl)
@[simp] theorem pBo_ap (f : En → Re Bool) (δ : En) : pBo f δ = (f δ).bd fun p => .ok (.bool p) := (rfl)
def eIf1 {α : Type} (fa fb : En → Re (α × En)) (p : Bool × En) : Re (α × En) := if p.1 = true then fa p.2 else fb p.2
@[simp] theorem eIf1_ap {α : Type} (fa fb : En → Re (α × En)) (b : Bool) (δ : En) : eIf1 fa fb (b, δ) = if b = true then fa δ else fb δ := (rfl)
@[simp] theorem eIf_ap {α : Type} (t : En → Re (Bool × En)) (fa fb : En → Re (α × En)) (δ : En) : eIf t fa fb δ = (t δ).bd (eIf1 fa fb) := by
  unfold eIf; cases t δ with
  | ok x => obtain ⟨b, δ'⟩ := x; cases b <;> rfl
  | _ => rfl
def pIf1 {α : Type} (fa fb : En → Re α) (δ : En) (b : Bool) : Re α := if b = true then fa δ else fb δ
@[simp] theorem pIf1_ap {α : Type} (fa fb : En → Re α) (δ : En) (b : Bool) : pIf1 fa fb δ b = if b = true then fa δ else fb δ := (rfl)
@[simp] theorem pIf_ap {α : Type} (t : En → Re Bool) (fa fb : En → Re α) (δ : En) : pIf t fa fb δ = (t δ).bd (pIf1 fa fb δ) := by
  unfold pIf; cases t δ with
  | ok b => cases b <;> rfl
  | _ => rfl
def pCh3 (g' : D → D → Option D) (fc : En → Re D) (δ : En) (q : D) (b : Bool) : Re D := if b = true then (fc δ).bd (pOp2 g' q) else .ok (.bool false)
@[simp] theorem pCh3_ap (g' : D → D → Option D) (fc : En → Re D) (δ : En) (q : D) (b : Bool) : pCh3 g' fc δ q b = if b = true then (fc δ).bd (pOp2 g' q) else .ok (.bool false) := (rfl)
def pCh2 (g g' : D → D → Option D) (fc : En → Re D) (δ : En) (p q : D) : Re D := ((opt (g p q)).bd tru).bd (pCh3 g' fc δ q)
@[simp] theorem pCh2_ap (g g' : D → D → Option D) (fc : En → Re D) (δ : En) (p q : D) : pCh2 g g' fc δ p q = ((opt (g p q)).bd tru).bd (pCh3 g' fc δ q) := (rfl)
def pCh1 (g g' : D → D → Option D) (fb fc : En → Re D) (δ : En) (p : D) : Re D := (fb δ).bd (pCh2 g g' fc δ p)
@[simp] theorem pCh1_ap (g g' : D → D → Option D) (fb fc : En → Re D) (δ : En) (p : D) : pCh1 g g' fb fc δ p = (fb δ).bd (pCh2 g g' fc δ p) := (rfl)
@[simp] theorem pCh_ap (g g' : D → D → Option D) (fa fb fc : En → Re D) (δ : En) : pCh g g' fa fb fc δ = (fa δ).bd (pCh1 g g' fb fc δ) := by
  unfold pCh; cases fa δ with
  | ok x =>
    simp only [Re.bd_ok, pCh1]
    cases fb δ with
    | ok y =>
      simp only [Re.bd_ok, pCh2]
      cases g x y with
      | some z =>
        cases z with
        | bool b => cases b <;> rfl
        | _ => rfl
      | none => rfl
    | _ => rfl
  | _ => rfl
@[simp] theorem eNil_ap (δ : En) : eNil δ = .ok ([], δ) := (rfl)
@[simp] theorem pNil_ap (δ : En) : pNil δ = .ok [] := (rfl)
def eCons2 (x : D) (q : List D × En) : Re (List D × En) := .ok (x :: q.1, q.2)
@[simp] theorem eCons2_ap (x : D) (l : List D) (δ : En) : eCons2 x (l, δ) = .ok (x :: l, δ) := (rfl)
def eCons1 (fr : En → Re (List D × En)) (p : D × En) : Re (List D × En) := (fr p.2).bd (eCons2 p.1)
@[simp] theorem eCons1_ap (fr : En → Re (List D × En)) (x : D) (δ : En) : eCons1 fr (x, δ) = (fr δ).bd (eCons2 x) := (rfl)
@[simp] theorem eCons_ap (fa : En → Re (D × En)) (fr : En → Re (List D × En)) (δ : En) : eCons fa fr δ = (fa δ).bd (eCons1 fr) := (rfl)
def pCons2 (x : D) (q : List D) : Re (List D) := .ok (x :: q)
@[simp] theorem pCons2_ap (x : D) (q : List D) : pCons2 x q = .ok (x :: q) := (rfl)
def pCons1 (fr : En → Re (List D)) (δ : En) (x : D) : Re (List D) := (fr δ).bd (pCons2 x)
@[simp] theorem pCons1_ap (fr : En → Re (List D)) (δ : En) (x : D) : pCons1 fr δ x = (fr δ).bd (pCons2 x) := (rfl)
@[simp] theorem pCons_ap (fa : En → Re D) (fr : En → Re (List D)) (δ : En) : pCons fa fr δ = (fa δ).bd (pCons1 fr δ) := (rfl)
@[simp] theorem eTup_ap (fr : En → Re (List D × En)) (δ : En) : eTup fr δ = (fr δ).bd fun p => if p.1.length ≤ 1000000 then .ok (.tuple p.1, p.2) else .bad := (rfl)
@[simp] theorem pTup_ap (fr : En → Re (List D)) (δ : En) : pTup fr δ = (fr δ).bd fun p => if p.length ≤ 1000000 then .ok (.tuple p) else .bad := (rfl)
@[simp] theorem eLst_ap (fr : En → Re (List D × En)) (δ : En) : eLst fr δ = (fr δ).bd fun p => if p.1.length ≤ 1000000 then .ok p else .bad := (rfl)
@[simp] theorem pLst_ap (fr : En → Re (List D)) (δ : En) : pLst fr δ = (fr δ).bd fun p => if p.length ≤ 1000000 then .ok p else .bad := (rfl)
@[simp] theorem eCa_ap {α : Type} (g : List D → Option α) (fr : En → Re (List D × En)) (δ : En) : eCa g fr δ = (fr δ).bd fun p => (opt (g p.1)).bd fun d => .ok (d, p.2) := (rfl)
@[simp] theorem pCa_ap {α : Type} (g : List D → Option α) (fr : En → Re (List D)) (δ : En) : pCa g fr δ = (fr δ).bd fun p => opt (g p) := (rfl)
@[simp] theorem eCr_ap {α : Type} (F : List D → Re α) (fr : En → Re (List D × En)) (δ : En) : eCr F fr δ = (fr δ).bd fun p => (F p.1).bd fun d => .ok (d, p.2) := (rfl)
@[simp] theorem pCr_ap {α : Type} (F : List D → Re α) (fr : En → Re (List D)) (δ : En) : pCr F fr δ = (fr δ).bd fun p => F p := (rfl)
@[simp] theorem pFz_ap (f : En → Re (List D)) (δ : En) : pFz f δ = (f δ).bd fun ds => .ok (.list ds) := (rfl)
@[simp] theorem eIsi_ap (T : String) (fa : En → Re (D × En)) (δ : En) : eIsi T fa δ = (fa δ).bd fun p => .ok (.bool (isiD p.1 T), p.2) := (rfl)
@[simp] theorem pIsi_ap (T : String) (fa : En → Re D) (δ : En) : pIsi T fa δ = (fa δ).bd fun p => .ok (.bool (isiD p T)) := (rfl)
def lstOf : D → Re (List D)
  | .list ds => .ok ds
  | _ => .bad
@[simp] theorem lstOf_l (ds : List D) : lstOf (.list ds) = .ok ds := (rfl)
def tupOf : D → Re (List D)
  | .tuple ds => .ok ds
  | _ => .bad
@[simp] theorem tupOf_l (ds : List D) : tupOf (.tuple ds) = .ok ds := (rfl)
@[simp] theorem pLi_ap (f : En → Re D) (δ : En) : pLi f δ = (f δ).bd lstOf := by
  unfold pLi; cases f δ with
  | ok x => cases x <;> rfl
  | _ => rfl
@[simp] theorem eLi_ap (f : En → Re (D × En)) (δ : En) : eLi f δ = (f δ).bd fun p => (lstOf p.1).bd fun l => .ok (l, p.2) := by
  unfold eLi; cases f δ with
  | ok x => obtain ⟨d, δ'⟩ := x; cases d <;> rfl
  | _ => rfl
@[simp] theorem pTi_ap (f : En → Re D) (δ : En) : pTi f δ = (f δ).bd tupOf := by
  unfold pTi; cases f δ with
  | ok x => cases x <;> rfl
  | _ => rfl
@[simp] theorem eTi_ap (f : En → Re (D × En)) (δ : En) : eTi f δ = (f δ).bd fun p => (tupOf p.1).bd fun l => .ok (l, p.2) := by
  unfold eTi; cases f δ with
  | ok x => obtain ⟨d, δ'⟩ := x; cases d <;> rfl
  | _ => rfl
def intOf : D → Re Int
  | .int i => .ok i
  | _ => .bad
@[simp] theorem intOf_i (i : Int) : intOf (.int i) = .ok i := (rfl)
@[simp] theorem pNoP_ap (δ : En) : pNoP δ = .ok none := (rfl)
@[simp] theorem pSoP_ap (f : En → Re D) (δ : En) : pSoP f δ = (f δ).bd fun d => (intOf d).bd fun i => .ok (some i) := by
  unfold pSoP; cases f δ with
  | ok x => cases x <;> rfl
  | _ => rfl
@[simp] theorem eSoP_ap (f : En → Re (D × En)) (δ : En) : eSoP f δ = (f δ).bd fun p => (intOf p.1).bd fun i => .ok (some i, p.2) := by
  unfold eSoP; cases f δ with
  | ok x => obtain ⟨d, δ'⟩ := x; cases d <;> rfl
  | _ => rfl
@[simp] theorem pSl_ap {α : Type} (g : D → Option Int → Option Int → Option α) (fa : En → Re D) (fl fh : En → Re (Option Int)) (δ : En) : pSl g fa fl fh δ = (fa δ).bd fun p => (fl δ).bd fun l => (fh δ).bd fun h => opt (g p l h) := (rfl)
@[simp] theorem eSl_ap {α : Type} (g : D → Option Int → Option Int → Option α) (fa : En → Re (D × En)) (fl fh : En → Re (Option Int × En)) (δ : En) : eSl g fa fl fh δ = (fa δ).bd fun p => (fl p.2).bd fun l => (fh l.2).bd fun h => (opt (g p.1 l.1 h.1)).bd fun d => .ok (d, h.2) := (rfl)
/-! owned lists -/
def oOf : Option Sl → Re (List D)
  | some (.ow ds) => .ok ds
  | _ => .bad
@[simp] theorem oOf_ow (ds : List D) : oOf (some (.ow ds)) = .ok ds := (rfl)
@[simp] theorem pIxB_ap (i : Nat) (fi : En → Re D) (δ : En) : pIxB i fi δ = (oOf δ[i]?).bd fun ds => (fi δ).bd fun q => (intOf q).bd fun k => opt (atI ds k) := by
  unfold pIxB
  cases h : δ[i]? with
  | none => rfl
  | some s => cases s with
    | ow ds =>
      simp only [oOf, Re.bd_ok]
      cases fi δ with
      | ok x => cases x <;> rfl
      | _ => rfl
    | _ => rfl
@[simp] theorem pLenB_ap (i : Nat) (δ : En) : pLenB i δ = (oOf δ[i]?).bd fun ds => .ok (.int ds.length) := by
  unfold pLenB
  cases h : δ[i]? with
  | none => rfl
  | some s => cases s <;> rfl
@[simp] theorem pInB_ap (neg : Bool) (fa : En → Re D) (i : Nat) (δ : En) : pInB neg fa i δ = (fa δ).bd fun p => (oOf δ[i]?).bd fun ds => (opt (inD p (.list ds))).bd fun b => .ok (.bool (if neg then !b else b)) := by
  unfold pInB
  cases h : δ[i]? with
  | none => rfl
  | some s => cases s <;> rfl
@[simp] theorem eInB_ap (neg : Bool) (fa : En → Re (D × En)) (i : Nat) (δ : En) : eInB neg fa i δ = (fa δ).bd fun p => (oOf p.2[i]?).bd fun ds => (opt (inD p.1 (.list ds))).bd fun b => .ok (.bool (if neg then !b else b), p.2) := by
  unfold eInB
  cases fa δ with
  | ok x =>
    simp only [Re.bd_ok]
    cases h : x.2[i]? with
    | none => rfl
    | some s => cases s <;> rfl
  | _ => rfl
@[simp] theorem eExt_ap (i : Nat) (fr : En → Re (List D × En)) (δ : En) : eExt i fr δ = (oOf δ[i]?).bd fun _ => (fr δ).bd fun p => (oOf p.2[i]?).bd fun ds => if ds.length + p.1.length ≤ 1000000 then .ok (.none, p.2.set i (.ow (ds ++ p.1))) else .bad := by
  unfold eExt
  cases h : δ[i]? with
  | none => rfl
  | some s => cases s with
    | ow ds =>
      simp only [oOf, Re.bd_ok]
      cases fr δ with
      | ok x =>
        simp only [Re.bd_ok]
        cases h : x.2[i]? with
        | none => rfl
        | some s => cases s <;> rfl
      | _ => rfl
    | _ => rfl
@[simp] theorem eMu_ap (i : Nat) (m : List D → List D → Option (List D × D)) (fr : En → Re (List D × En)) (δ : En) : eMu i m fr δ = (oOf δ[i]?).bd fun _ => (fr δ).bd fun p => (oOf p.2[i]?).bd fun ds => (opt (m ds p.1)).bd fun q => .ok (q.2, p.2.set i (.ow q.1)) := by
  unfold eMu
  cases h : δ[i]? with
  | none => rfl
  | some s => cases s with
    | ow ds =>
      simp only [oOf, Re.bd_ok]
      cases fr δ with
      | ok x =>
        simp only [Re.bd_ok]
        cases h : x.2[i]? with
        | none => rfl
        | some s => cases s <;> rfl
      | _ => rfl
    | _ => rfl
@[simp] theorem eMu0_ap (i : Nat) (m : List D → List D → Option (List D × D)) (δ : En) : eMu0 i m δ = (oOf δ[i]?).bd fun ds => (opt (m ds [])).bd fun q => .ok (q.2, δ.set i (.ow q.1)) := by
  unfold eMu0
  cases h : δ[i]? with
  | none => rfl
  | some s => cases s <;> rfl
@[simp] theorem eCm_ap (i : Nat) (F : List D → List D → Re (D × List D)) (fr : En → Re (List D × En)) (δ : En) : eCm i F fr δ = (oOf δ[i]?).bd fun _ => (fr δ).bd fun p => (oOf p.2[i]?).bd fun ds => nb (F ds p.1) fun q => .ok (q.1, p.2.set i (.ow q.2)) := by
  unfold eCm
  cases h : δ[i]? with
  | none => rfl
  | some s => cases s with
    | ow ds =>
      simp only [oOf, Re.bd_ok]
      cases fr δ with
      | ok x =>
        simp only [Re.bd_ok]
        cases h : x.2[i]? with
        | none => rfl
        | some s => cases s <;> rfl
      | _ => rfl
    | _ => rfl
@[simp] theorem eCmF_ap (i : Nat) (F : List D → List D → Re (List D × List D)) (fr : En → Re (List D × En)) (δ : En) : eCmF i F fr δ = (oOf δ[i]?).bd fun _ => (fr δ).bd fun p => (oOf p.2[i]?).bd fun ds => nb (F ds p.1) fun q => .ok (q.1, p.2.set i (.ow q.2)) := by
  unfold eCmF
  cases h : δ[i]? with
  | none => rfl
  | some s => cases s with
    | ow ds =>
      simp only [oOf, Re.bd_ok]
      cases fr δ with
      | ok x =>
        simp only [Re.bd_ok]
        cases h : x.2[i]? with
        | none => rfl
        | some s => cases s <;> rfl
      | _ => rfl
    | _ => rfl
/-! statements -/
def goOn (B : En → Re Fl) : Fl → Re Fl
  | .nx δ' => B δ'
  | r => .ok r
@[simp] theorem goOn_nx (B : En → Re Fl) (δ : En) : goOn B (.nx δ) = B δ := (rfl)
@[simp] theorem goOn_rt (B : En → Re Fl) (d : D) (δ : En) : goOn B (.rt d δ) = .ok (.rt d δ) := (rfl)
@[simp] theorem goOn_rf2 (B : En → Re Fl) (d : List (List D)) (δ : En) : goOn B (.rf2 d δ) = .ok (.rf2 d δ) := (rfl)
@[simp] theorem goOn_rf (B : En → Re Fl) (d : List D) (δ : En) : goOn B (.rf d δ) = .ok (.rf d δ) := (rfl)
@[simp] theorem goOn_bk (B : En → Re Fl) (δ : En) : goOn B (.bk δ) = .ok (.bk δ) := (rfl)
@[simp] theorem goOn_ct (B : En → Re Fl) (δ : En) : goOn B (.ct δ) = .ok (.ct δ) := (rfl)
@[simp] theorem seqS_ap (A B : En → Re Fl) (δ : En) : seqS A B δ = (A δ).bd (goOn B) := by
  unfold seqS; cases A δ with
  | ok x => cases x <;> rfl
  | _ => rfl
@[simp] theorem nopS_ap (δ : En) : nopS δ = .ok (.nx δ) := (rfl)
@[simp] theorem nevS_ap (δ : En) : nevS δ = .bad := (rfl)
@[simp] theorem bkS_ap (δ : En) : bkS δ = .ok (.bk δ) := (rfl)
@[simp] theorem ctS_ap (δ : En) : ctS δ = .ok (.ct δ) := (rfl)
@[simp] theorem rnS_ap (δ : En) : rnS δ = .ok (.rt .none δ) := (rfl)
@[simp] theorem exS_ap (f : En → Re (D × En)) (δ : En) : exS f δ = (f δ).bd fun p => .ok (.nx p.2) := (rfl)
@[simp] theorem rtS_ap (f : En → Re (D × En)) (δ : En) : rtS f δ = (f δ).bd fun p => .ok (.rt p.1 p.2) := (rfl)
@[simp] theorem rfS_ap (f : En → Re (List D × En)) (δ : En) : rfS f δ = (f δ).bd fun p => .ok (.rf p.1 p.2) := (rfl)
@[simp] theorem roS_ap (i : Nat) (δ : En) : roS i δ = (oOf δ[i]?).bd fun ds => .ok (.rf ds (δ.set i .no)) := by
  unfold roS
  cases h : δ[i]? with
  | none => rfl
  | some s => cases s <;> rfl
def ifS1 (A B : En → Re Fl) (p : Bool × En) : Re Fl := if p.1 = true then A p.2 else B p.2
@[simp] theorem ifS1_ap (A B : En → Re Fl) (b : Bool) (δ : En) : ifS1 A B (b, δ) = if b = true then A δ else B δ := (rfl)
@[simp] theorem ifS_ap (t : En → Re (Bool × En)) (A B : En → Re Fl) (δ : En) : ifS t A B δ = (t δ).bd (ifS1 A B) := by
  unfold ifS; cases t δ with
  | ok x => obtain ⟨b, δ'⟩ := x; cases b <;> rfl
  | _ => rfl
@[simp] theorem asS_ap (i : Nat) (f : En → Re (D × En)) (δ : En) : asS i f δ = (f δ).bd fun p => .ok (.nx (p.2.set i (.sh p.1))) := (rfl)
@[simp] theorem owS_ap (i : Nat) (f : En → Re (List D × En)) (δ : En) : owS i f δ = (f δ).bd fun p => .ok (.nx (p.2.set i (.ow p.1))) := (rfl)
@[simp] theorem agS_ap (g : D → En → Option En) (f : En → Re (D × En)) (δ : En) : agS g f δ = (f δ).bd fun p => (opt (g p.1 p.2)).bd fun δ' => .ok (.nx δ') := (rfl)
def twoOf : List D → Re (D × D)
  | [d, e] => .ok (d, e)
  | _ => .bad
@[simp] theorem twoOf_2 (d e : D) : twoOf [d, e] = .ok (d, e) := (rfl)
@[simp] theorem paS_ap (i j : Nat) (fr : En → Re (List D × En)) (δ : En) : paS i j fr δ = (fr δ).bd fun p => (twoOf p.1).bd fun q => .ok (.nx ((p.2.set i (.sh q.1)).set j (.sh q.2))) := by
  unfold paS; cases fr δ with
  | ok x =>
    obtain ⟨l, δ'⟩ := x
    simp only [Re.bd_ok]
    split
    · rfl
    · rename_i h
      have : twoOf l = .bad := by
        unfold twoOf; split
        · rename_i d e; exact absurd rfl (h d e)
        · rfl
      rw [this]; rfl
  | _ => rfl
@[simp] theorem fzE_ow {δ : En} {i : Nat} {ds : List D} (h : δ[i]? = some (.ow ds)) : fzE i δ = δ.set i (.sh (.list ds)) := by unfold fzE; rw [h]
@[simp] theorem fzS_ap (i : Nat) (F : En → Re Fl) (δ : En) : fzS i F δ = F (fzE i δ) := (rfl)
@[simp] theorem stS_ap (k : Nat) (fi fe : En → Re (D × En)) (δ : En) : stS k fi fe δ = (fe δ).bd fun p => (oOf p.2[k]?).bd fun _ => (fi p.2).bd fun q => (intOf q.1).bd fun i => (oOf q.2[k]?).bd fun ds => (opt (ixN ds.length i)).bd fun j => .ok (.nx (q.2.set k (.ow (ds.set j p.1)))) := by
  unfold stS; cases fe δ with
  | ok x =>
    simp only [Re.bd_ok]
    cases h : x.2[k]? with
    | none => rfl
    | some s => cases s with
      | ow ds =>
        simp only [oOf, Re.bd_ok]
        cases fi x.2 with
        | ok y =>
          obtain ⟨d, δ'⟩ := y
          cases d with
          | int i =>
            simp only [Re.bd_ok, intOf]
            cases h : δ'[k]? with
            | none => rfl
            | some s => cases s <;> rfl
          | _ => rfl
        | _ => rfl
      | _ => rfl
  | _ => rfl
def forS1 (g : D → En → Option En) (F : En → Re Fl) (p : List D × En) : Re Fl := forL g F p.1 p.2
@[simp] theorem forS1_ap (g : D → En → Option En) (F : En → Re Fl) (l : List D) (δ : En) : forS1 g F (l, δ) = forL g F l δ := (rfl)
@[simp] theorem forS_ap (fi : En → Re (List D × En)) (g : D → En → Option En) (F : En → Re Fl) (δ : En) : forS fi g F δ = (fi δ).bd (forS1 g F) := (rfl)
@[simp] theorem gNm_ap (i : Nat) (d : D) (δ : En) : gNm i d δ = some (δ.set i (.sh d)) := (rfl)
@[simp] theorem gsNil_ap (δ : En) : gsNil [] δ = some δ := (rfl)
@[simp] theorem gsCons_ap (g : D → En → Option En) (gs : List D → En → Option En) (d : D) (r : List D) (δ : En) : gsCons g gs (d :: r) δ = (g d δ).bind fun δ' => gs r δ' := (rfl)
@[simp] theorem gTpN_ap (n : Nat) (gs : List D → En → Option En) (ds : List D) (δ : En) : gTpN n gs (.tuple ds) δ = if ds.length = n then gs ds δ else none := (rfl)
@[simp] theorem gTpN_li (n : Nat) (gs : List D → En → Option En) (ds : List D) (δ : En) : gTpN n gs (.list ds) δ = if ds.length = n then gs ds δ else none := (rfl)
def resP : Fl → Re D
  | .nx _ => .ok .none
  | .rt d _ => .ok d
  | _ => .bad
@[simp] theorem resP_nx (δ : En) : resP (.nx δ) = .ok .none := (rfl)
@[simp] theorem resP_rt (d : D) (δ : En) : resP (.rt d δ) = .ok d := (rfl)
theorem dfP_ap (np n : Nat) (F : En → Re Fl) (ds : List D) (h : ds.length = np) : dfP np n F ds = (F (en0 n ds)).bd resP := by
  unfold dfP
  rw [if_pos h]
  cases F (en0 n ds) with
  | ok x => cases x <;> rfl
  | _ => rfl
def resPF : Fl → Re (List D)
  | .rf d _ => .ok d
  | _ => .bad
@[simp] theorem resPF_rf (d : List D) (δ : En) : resPF (.rf d δ) = .ok d := (rfl)
theorem dfPF_ap (np n : Nat) (F : En → Re Fl) (ds : List D) (h : ds.length = np) : dfPF np n F ds = (F (en0 n ds)).bd resPF := by
  unfold dfPF
  rw [if_pos h]
  cases F (en0 n ds) with
  | ok x => cases x <;> rfl
  | _ => rfl
def resM : Fl → Re (D × List D)
  | .nx δ => (oOf δ[(0 : Nat)]?).bd fun s => .ok (.none, s)
  | .rt d δ => (oOf δ[(0 : Nat)]?).bd fun s => .ok (d, s)
  | _ => .bad
@[simp] theorem resM_nx (δ : En) : resM (.nx δ) = (oOf δ[(0 : Nat)]?).bd fun s => .ok (.none, s) := (rfl)
@[simp] theorem resM_rt (d : D) (δ : En) : resM (.rt d δ) = (oOf δ[(0 : Nat)]?).bd fun s => .ok (d, s) := (rfl)
theorem fin1_ap (d : D) (δ : En) : fin1 d δ = (oOf δ[(0 : Nat)]?).bd fun s => .ok (d, s) := by
  unfold fin1
  cases δ[(0 : Nat)]? with
  | none => rfl
  | some s => cases s <;> rfl
theorem dfM_ap (np n : Nat) (F : En → Re Fl) (src ds : List D) (h : ds.length = np) : dfM np n F src ds = (F (en1 n src ds)).bd resM := by
  unfold dfM
  rw [if_pos h]
  cases F (en1 n src ds) with
  | ok x => cases x <;> first | rfl | exact fin1_ap _ _
  | _ => rfl
def resMF : Fl → Re (List D × List D)
  | .rf d δ => (oOf δ[(0 : Nat)]?).bd fun s => .ok (d, s)
  | _ => .bad
@[simp] theorem resMF_rf (d : List D) (δ : En) : resMF (.rf d δ) = (oOf δ[(0 : Nat)]?).bd fun s => .ok (d, s) := (rfl)
theorem fin1F_ap (d : List D) (δ : En) : fin1F d δ = (oOf δ[(0 : Nat)]?).bd fun s => .ok (d, s) := by
  unfold fin1F
  cases δ[(0 : Nat)]? with
  | none => rfl
  | some s => cases s <;> rfl
theorem dfMF_ap (np n : Nat) (F : En → Re Fl) (src ds : List D) (h : ds.length = np) : dfMF np n F src ds = (F (en1 n src ds)).bd resMF := by
  unfold dfMF
  rw [if_pos h]
  cases F (en1 n src ds) with
  | ok x => cases x <;> first | rfl | exact fin1F_ap _ _
  | _ => rfl
theorem runP {np n : Nat} {F : En → Re Fl} {ds : List D} {r : Re D} (h : ds.length = np) (e : (F (en0 n ds)).bd resP = r) : dfP np n F ds = r := by rw [dfP_ap _ _ _ _ h, e]
theorem runPF {np n : Nat} {F : En → Re Fl} {ds : List D} {r : Re (List D)} (h : ds.length = np) (e : (F (en0 n ds)).bd resPF = r) : dfPF np n F ds = r := by rw [dfPF_ap _ _ _ _ h, e]
theorem runM {np n : Nat} {F : En → Re Fl} {src ds : List D} {r : Re (D × List D)} (h : ds.length = np) (e : (F (en1 n src ds)).bd resM = r) : dfM np n F src ds = r := by rw [dfM_ap _ _ _ _ _ h, e]
theorem runMF {np n : Nat} {F : En → Re Fl} {src ds : List D} {r : Re (List D × List D)} (h : ds.length = np) (e : (F (en1 n src ds)).bd resMF = r) : dfMF np n F src ds = r := by rw [dfMF_ap _ _ _ _ _ h, e]
end DL

/-! DP: data that stand for numbers, edges, lists; loops -/
namespace DL
open PySem L2
def nD (k : Nat) : D := .int (k : Int)
def eD (p : FT.Ed) : D := .tuple [.int (p.1 : Int), .int (p.2 : Int)]
def nsD (l : List Nat) : D := .list (l.map nD)
def esD (l : List FT.Ed) : D := .list (l.map eD)
@[simp] theorem gAdd_int (i j : Int) : gAdd (.int i) (.int j) = some (.int (i + j)) := (rfl)
@[simp] theorem gSub_int (i j : Int) : gSub (.int i) (.int j) = some (.int (i - j)) := (rfl)
theorem gMul_int {i j : Int} (h : i.natAbs.log2 + j.natAbs.log2 < 100000000) : gMul (.int i) (.int j) = some (.int (i * j)) := if_pos h
theorem gMod_int {i j : Int} (h : 0 < j) : gMod (.int i) (.int j) = some (.int (i % j)) := if_pos h
theorem gDiv_int {i j : Int} (h : 0 < j) (k : j.natAbs.log2 < 9000) : gDiv (.int i) (.int j) = some (.int (i / j)) := if_pos ⟨h, k⟩
theorem gPow_int {i j : Int} (h : 0 ≤ j) (k : (Builtin.Int.intBits i : Int) * j ≤ 2 ^ 27) : gPow (.int i) (.int j) = some (.int (i ^ j.toNat)) := if_pos ⟨h, k⟩
@[simp] theorem gLt_int (i j : Int) : gLt (.int i) (.int j) = some (.bool (decide (i < j))) := (rfl)
@[simp] theorem gLe_int (i j : Int) : gLe (.int i) (.int j) = some (.bool (decide (i ≤ j))) := by unfold gLe; rfl
@[simp] theorem gGt_int (i j : Int) : gGt (.int i) (.int j) = some (.bool (decide (i > j))) := by unfold gGt; rfl
@[simp] theorem gGe_int (i j : Int) : gGe (.int i) (.int j) = some (.bool (decide (i ≥ j))) := by unfold gGe; rfl
@[simp] theorem gEq_int (i j : Int) : gEq (.int i) (.int j) = some (.bool (decide (i = j))) := (rfl)
@[simp] theorem gNe_int (i j : Int) : gNe (.int i) (.int j) = some (.bool (!decide (i = j))) := (rfl)
@[simp] theorem gEq_bool (i j : Bool) : gEq (.bool i) (.bool j) = some (.bool (i == j)) := by cases i <;> cases j <;> rfl
@[simp] theorem gNe_bool (i j : Bool) : gNe (.bool i) (.bool j) = some (.bool (!(i == j))) := by cases i <;> cases j <;> rfl
@[simp] theorem gIs_bool (i j : Bool) : gIs (.bool i) (.bool j) = some (.bool (decide (i = j))) := (rfl)
@[simp] theorem gIs_n (d : D) : gIs d .none = some (.bool (isN d)) := by unfold gIs; rfl
@[simp] theorem gIsN_n (d : D) : gIsN d .none = some (.bool (!isN d)) := by unfold gIsN; rw [gIs_n]
@[simp] theorem gLen_list (xs : List D) : gLen [.list xs] = some (.int xs.length) := (rfl)
@[simp] theorem gLen_tuple (xs : List D) : gLen [.tuple xs] = some (.int xs.length) := (rfl)
@[simp] theorem gAbs_int (i : Int) : gAbs [.int i] = some (.int (if i < 0 then -i else i)) := (rfl)
@[simp] theorem gMax_int (i j : Int) : gMax [.int i, .int j] = some (.int (if j > i then j else i)) := (rfl)
@[simp] theorem gMin_int (i j : Int) : gMin [.int i, .int j] = some (.int (if j < i then j else i)) := (rfl)
@[simp] theorem gList_list (xs : List D) : gList [.list xs] = some xs := (rfl)
@[simp] theorem gList_tuple (xs : List D) : gList [.tuple xs] = some xs := (rfl)
@[simp] theorem gTuple_list (xs : List D) : gTuple [.list xs] = some (.tuple xs) := (rfl)
@[simp] theorem gIx_list (xs : List D) (i : Int) : gIx (.list xs) (.int i) = atI xs i := (rfl)
@[simp] theorem gIx_tuple (xs : List D) (i : Int) : gIx (.tuple xs) (.int i) = atI xs i := (rfl)
theorem ixN_nat {n k : Nat} (h : k < n) : ixN n (k : Int) = some k := by
  unfold ixN
  rw [if_pos (Int.natCast_nonneg k), if_pos (Int.ofNat_lt.mpr h)]; rfl
@[simp] theorem atI_k {α : Type} (xs : List α) (k : Nat) : atI xs (k : Int) = xs[k]? := by
  unfold atI
  by_cases h : k < xs.length
  · rw [ixN_nat h]; rfl
  · unfold ixN
    rw [if_pos (Int.natCast_nonneg k), if_neg (by omega)]
    rw [List.getElem?_eq_none (by omega)]; rfl
@[simp] theorem atI_0 {α : Type} (xs : List α) : atI xs 0 = xs[(0 : Nat)]? := atI_k xs 0
@[simp] theorem atI_1 {α : Type} (xs : List α) : atI xs 1 = xs[(1 : Nat)]? := atI_k xs 1
@[simp] theorem atI_2 {α : Type} (xs : List α) : atI xs 2 = xs[(2 : Nat)]? := atI_k xs 2
@[simp] theorem atI_3 {α : Type} (xs : List α) : atI xs 3 = xs[(3 : Nat)]? := atI_k xs 3
theorem atI_of {α : Type} {xs : List α} {i : Int} (h : 0 ≤ i) : atI xs i = xs[i.toNat]? := by
  have := atI_k xs i.toNat
  rwa [Int.toNat_of_nonneg h] at this
theorem atI_nsD {l : List Nat} {k : Nat} (h : k < l.length) : atI (l.map nD) (k : Int) = some (nD l[k]) := by simp [h]
@[simp] theorem gZip_list (xs ys : List D) : gZip [.list xs, .list ys] = some (List.zipWith (fun x y => .tuple [x, y]) xs ys) := (rfl)
@[simp] theorem gRevd_list (xs : List D) : gRevd [.list xs] = some xs.reverse := (rfl)
theorem rgD_nat (n : Nat) : rgD 0 (n : Int) = (List.range n).map nD := by
  unfold rgD nD; simp
theorem gRg1_nat {n : Nat} (h : n < 2 ^ 62) : gRg1 [.int (n : Int)] = some ((List.range n).map nD) := by
  simp only [gRg1]
  rw [if_pos (by omega), rgD_nat]
theorem gLr1_nat {n : Nat} (h : n ≤ 16777216) : gLr1 [.int (n : Int)] = some ((List.range n).map nD) := by
  show (if 0 ≤ (n : Int) ∧ (n : Int) ≤ 16777216 then some (rgD 0 n) else none) = _
  rw [if_pos (by omega), rgD_nat]
theorem rgD_nat2 (a b : Nat) : rgD (a : Int) (b : Int) = (List.range (b - a)).map fun k => nD (a + k) := by
  unfold rgD nD
  have : ((b : Int) - (a : Int)).toNat = b - a := by omega
  rw [this]; simp
theorem gRg2_nat {a b : Nat} (h : a < 2 ^ 62) (k : b < 2 ^ 62) : gRg2 [.int (a : Int), .int (b : Int)] = some ((List.range (b - a)).map fun k => nD (a + k)) := by
  simp only [gRg2]
  rw [if_pos (by omega), rgD_nat2]
theorem boolsOf_mapf {α : Type} (f : α → Bool) (l : List α) : boolsOf (l.map fun a => .bool (f a)) = some (l.map f) := by
  induction l with
  | nil => rfl
  | cons a l ih => simp only [List.map_cons, boolsOf, ih, Option.map_some]
theorem gAll_map {α : Type} (f : α → Bool) (l : List α) : gAll [.list (l.map fun a => .bool (f a))] = some (.bool (l.all f)) := by
  show (boolsOf (l.map fun a => .bool (f a))).map (fun bs => PyData.bool (bs.all id)) = _
  rw [boolsOf_mapf, Option.map_some, List.all_map]; rfl
@[simp] theorem isi_tuple (xs : List D) : isiD (.tuple xs) "tuple" = true := (rfl)
@[simp] theorem isi_list (xs : List D) : isiD (.list xs) "list" = true := (rfl)
@[simp] theorem isi_int (i : Int) : isiD (.int i) "int" = true := (rfl)
@[simp] theorem isi_intb (i : Int) : isiD (.int i) "bool" = false := (rfl)
@[simp] theorem mApp_1 (ds : List D) (d : D) : mApp ds [d] = if ds.length < 1000000 then some (ds ++ [d], .none) else none := (rfl)
theorem noer_ok {α β : Type} {F : α → Re β} {a : α} {b : β} (h : F a = .ok b) : noer F a = .ok b := by unfold noer; rw [h]
theorem noer2_ok {α β γ : Type} {F : α → β → Re γ} {a : α} {b : β} {c : γ} (h : F a b = .ok c) : noer2 F a b = .ok c := by unfold noer2; rw [h]
/-! equality and being in a list -/
theorem eqv_eD (p q : FT.Ed) : PyData.eqv (eD p) (eD q) = decide (p = q) := by
  obtain ⟨a, b⟩ := p
  obtain ⟨c, d⟩ := q
  have e1 : ((a : Int) == (c : Int)) = decide (a = c) := by rw [Bool.beq_eq_decide_eq]; exact decide_eq_decide.mpr (by omega)
  have e2 : ((b : Int) == (d : Int)) = decide (b = d) := by rw [Bool.beq_eq_decide_eq]; exact decide_eq_decide.mpr (by omega)
  simp only [eD, PyData.eqv, PyData.eqvAll, Prod.mk.injEq, e1, e2, Bool.and_true, Bool.decide_and]
theorem eqv_nD (p q : Nat) : PyData.eqv (nD p) (nD q) = decide (p = q) := by
  simp only [nD, PyData.eqv]
  rw [Bool.beq_eq_decide_eq]; exact decide_eq_decide.mpr (by omega)
theorem depthAll_le {n : Nat} : ∀ {xs : List D}, (∀ x ∈ xs, x.depth ≤ n) → PyData.depthAll xs ≤ n
  | [], _ => by simp [PyData.depthAll]
  | x :: xs, h => by
    simp only [PyData.depthAll]
    have := h x (List.mem_cons_self ..)
    have := depthAll_le (xs := xs) fun y hy => h y (List.mem_cons_of_mem _ hy)
    omega
theorem canAll {xs : List D} : (∀ x ∈ xs, x.canLay0 = true) → PyData.canLayAll0 xs = true := by
  induction xs with
  | nil => intro _; simp [PyData.canLayAll0]
  | cons x xs ih =>
    intro h
    simp only [PyData.canLayAll0, Bool.and_eq_true]
    exact ⟨h x (List.mem_cons_self ..), ih fun y hy => h y (List.mem_cons_of_mem _ hy)⟩
theorem shaped_list {xs : List D} (h1 : ∀ x ∈ xs, x.canLay0 = true) (h2 : ∀ x ∈ xs, x.depth ≤ 63) : SeqAt.shaped (.list xs) = true := by
  unfold SeqAt.shaped
  simp only [PyData.canLay0, PyData.depth, Bool.and_eq_true, decide_eq_true_eq]
  exact ⟨canAll h1, decide_eq_true (Nat.succ_le_succ (depthAll_le h2))⟩
theorem can_eD (p : FT.Ed) : (eD p).canLay0 = true := rfl
theorem depth_eD (p : FT.Ed) : (eD p).depth = 1 := rfl
theorem shaped_eD (p : FT.Ed) : SeqAt.shaped (eD p) = true := rfl
theorem shaped_nD (p : Nat) : SeqAt.shaped (nD p) = true := rfl
theorem shaped_esD (l : List FT.Ed) : SeqAt.shaped (.list (l.map eD)) = true := shaped_list (fun x hx => by
  obtain ⟨p, _, rfl⟩ := List.mem_map.mp hx; rfl) fun x hx => by
  obtain ⟨p, _, rfl⟩ := List.mem_map.mp hx; rw [depth_eD]; decide
theorem shaped_nsD (l : List Nat) : SeqAt.shaped (.list (l.map nD)) = true := shaped_list (fun x hx => by
  obtain ⟨p, _, rfl⟩ := List.mem_map.mp hx; rfl) fun x hx => by
  obtain ⟨p, _, rfl⟩ := List.mem_map.mp hx; exact Nat.zero_le _
theorem any_eqv {α : Type} [DecidableEq α] {f : α → D} (hf : ∀ a b, PyData.eqv (f a) (f b) = decide (a = b)) (l : List α) (x : α) : ((l.map f).any fun z => PyData.eqv z (f x)) = decide (x ∈ l) := by
  induction l with
  | nil => rfl
  | cons a l ih =>
    simp only [List.map_cons, List.any_cons, ih, hf, List.mem_cons]
    by_cases h : a = x
    · subst h; simp
    · have h' : x ≠ a := fun e => h e.symm
      simp [h, h']
theorem inD_eD (p : FT.Ed) (l : List FT.Ed) : inD (eD p) (.list (l.map eD)) = some (decide (p ∈ l)) := by
  unfold inD
  simp only [shaped_eD, shaped_esD, Bool.and_self, if_true]
  rw [any_eqv eqv_eD]
  simp
theorem inD_nD (p : Nat) (l : List Nat) : inD (nD p) (.list (l.map nD)) = some (decide (p ∈ l)) := by
  unfold inD
  simp only [shaped_nD, shaped_nsD, Bool.and_self, if_true]
  rw [any_eqv eqv_nD]
theorem eqD_eD (p q : FT.Ed) : eqD (eD p) (eD q) = some (decide (p = q)) := by
  show (if SeqAt.shaped (eD p) && SeqAt.shaped (eD q) then some (PyData.eqv (eD p) (eD q)) else none) = _
  rw [shaped_eD, shaped_eD, eqv_eD]; rfl
theorem eqvAll_map {α : Type} [DecidableEq α] {f : α → D} (hf : ∀ a b, PyData.eqv (f a) (f b) = decide (a = b)) : ∀ (l m : List α), PyData.eqvAll (l.map f) (m.map f) = decide (l = m)
  | [], [] => by simp [PyData.eqvAll]
  | [], _ :: _ => by simp [PyData.eqvAll]
  | _ :: _, [] => by simp [PyData.eqvAll]
  | a :: l, b :: m => by
    simp only [List.map_cons, PyData.eqvAll, hf, eqvAll_map hf l m, List.cons.injEq]
    by_cases h1 : a = b <;> by_cases h2 : l = m <;> simp [h1, h2]
theorem eqD_list {xs ys : List D} (h1 : SeqAt.shaped (.list xs) = true) (h2 : SeqAt.shaped (.list ys) = true) : eqD (.list xs) (.list ys) = some (PyData.eqvAll xs ys) := by
  show (if SeqAt.shaped (.list xs) && SeqAt.shaped (.list ys) then some (PyData.eqv (.list xs) (.list ys)) else none) = _
  rw [h1, h2]; simp [PyData.eqv]
theorem eqD_esD (l m : List FT.Ed) : eqD (.list (l.map eD)) (.list (m.map eD)) = some (decide (l = m)) := by
  rw [eqD_list (shaped_esD l) (shaped_esD m), eqvAll_map eqv_eD]
theorem eqD_nsD (l m : List Nat) : eqD (.list (l.map nD)) (.list (m.map nD)) = some (decide (l = m)) := by
  rw [eqD_list (shaped_nsD l) (shaped_nsD m), eqvAll_map eqv_nD]
/-! sorting -/
def eLe (p q : FT.Ed) : Bool := decide (p.1 < q.1 ∨ (p.1 = q.1 ∧ p.2 ≤ q.2))
def eLt (p q : FT.Ed) : Bool := decide (p.1 < q.1 ∨ (p.1 = q.1 ∧ p.2 < q.2))
theorem dle_eD (p q : FT.Ed) : PySem.W.dataLe false id (eD p) (eD q) = eLe p q := by
  have h := congrFun (congrFun (PySem.W.dataLe_ii (β := FT.Ed) (fun p => (p.1 : Int)) fun p => (p.2 : Int)) p) q
  have e : PySem.W.dataLe false id (eD p) (eD q) = PySem.W.dataLe false (fun b : FT.Ed => .tuple [.int (b.1 : Int), .int (b.2 : Int)]) p q := rfl
  rw [e, h]
  unfold eLe
  exact decide_eq_decide.mpr (by omega)
theorem dle_nD (p q : Nat) : PySem.W.dataLe false id (nD p) (nD q) = decide (p ≤ q) := by
  have h := congrFun (congrFun (PySem.W.dataLe_int (β := Nat) (fun p => (p : Int))) p) q
  have e : PySem.W.dataLe false id (nD p) (nD q) = PySem.W.dataLe false (fun b : Nat => .int (b : Int)) p q := rfl
  rw [e, h]
  exact decide_eq_decide.mpr (by omega)
theorem srt_map {α : Type} {f : α → D} {le : α → α → Bool} (h : ∀ a b, PySem.W.dataLe false id (f a) (f b) = le a b) (l : List α) : srt (l.map f) = (l.mergeSort le).map f := by
  unfold srt
  rw [List.map_mergeSort]
  intro a _ b _
  exact (h a b).symm
def sortE (l : List FT.Ed) : List FT.Ed := l.mergeSort eLe
def sortN (l : List Nat) : List Nat := l.mergeSort fun a b => decide (a ≤ b)
theorem alike_eD (p q : FT.Ed) : PySem.W.alike (eD p) (eD q) = true := rfl
theorem srtOk_map {α : Type} {f : α → D} {l : List α} (h1 : ∀ a b, PySem.W.alike (f a) (f b) = true) (h2 : (∀ a, ∃ x r, f a = .tuple (x :: r)) ∨ (∀ a, ∃ i, f a = .int i)) (h3 : l.length ≤ 1000000) (h4 : ∀ a, (f a).depth ≤ 64) : srtOk (l.map f) = true := by
  unfold srtOk alk srtb
  simp only [Bool.and_eq_true, List.all_eq_true, decide_eq_true_eq, Bool.or_eq_true, List.length_map]
  refine ⟨⟨⟨fun x hx y hy => ?_, ?_⟩, h3⟩, fun x hx => ?_⟩
  · obtain ⟨a, _, rfl⟩ := List.mem_map.mp hx
    obtain ⟨b, _, rfl⟩ := List.mem_map.mp hy
    exact h1 a b
  · rcases h2 with h2 | h2
    · refine .inl fun x hx => ?_
      obtain ⟨a, _, rfl⟩ := List.mem_map.mp hx
      obtain ⟨y, r, e⟩ := h2 a
      rw [e]
    · refine .inr fun x hx => ?_
      obtain ⟨a, _, rfl⟩ := List.mem_map.mp hx
      obtain ⟨i, e⟩ := h2 a
      rw [e]
  · obtain ⟨a, _, rfl⟩ := List.mem_map.mp hx
    exact h4 a
theorem gSort_esD {l : List FT.Ed} (h : l.length ≤ 1000000) : gSort [.list (l.map eD)] = some ((sortE l).map eD) := by
  show (if srtOk (l.map eD) then some (srt (l.map eD)) else none) = _
  rw [srtOk_map alike_eD (.inl fun a => ⟨_, _, rfl⟩) h (fun a => by rw [depth_eD]; decide), srt_map dle_eD]; rfl
theorem gSort_nsD {l : List Nat} (h : l.length ≤ 1000000) : gSort [.list (l.map nD)] = some ((sortN l).map nD) := by
  show (if srtOk (l.map nD) then some (srt (l.map nD)) else none) = _
  rw [srtOk_map (f := nD) (fun _ _ => rfl) (.inr fun a => ⟨(a : Int), rfl⟩) h (fun a => Nat.zero_le _), srt_map dle_nD]; rfl
theorem gSortT_nsD {l : List Nat} (h : l.length ≤ 1000000) : gSort [.tuple (l.map nD)] = some ((sortN l).map nD) := by
  show (if srtOk (l.map nD) then some (srt (l.map nD)) else none) = _
  rw [srtOk_map (f := nD) (fun _ _ => rfl) (.inr fun a => ⟨(a : Int), rfl⟩) h (fun a => Nat.zero_le _), srt_map dle_nD]; rfl
theorem sortE_perm (l : List FT.Ed) : (sortE l).Perm l := List.mergeSort_perm l eLe
theorem sortN_perm (l : List Nat) : (sortN l).Perm l := List.mergeSort_perm l _
theorem eLe_trans (a b c : FT.Ed) : eLe a b = true → eLe b c = true → eLe a c = true := by
  unfold eLe; simp only [decide_eq_true_eq]; omega
theorem eLe_total (a b : FT.Ed) : (eLe a b || eLe b a) = true := by
  unfold eLe; simp only [Bool.or_eq_true, decide_eq_true_eq]; omega
theorem sortE_sorted (l : List FT.Ed) : (sortE l).Pairwise fun a b => eLe a b = true := List.pairwise_mergeSort eLe_trans eLe_total l
theorem sortN_sorted (l : List Nat) : (sortN l).Pairwise fun a b => a ≤ b := by
  have := List.pairwise_mergeSort (le := fun a b : Nat => decide (a ≤ b)) (fun a b c => by simp; omega) (fun a b => by simp; omega) l
  exact this.imp fun h => by simpa using h
theorem sortE_strict {l : List FT.Ed} (h : l.Nodup) : (sortE l).Pairwise fun a b => eLt a b = true := by
  have h1 := sortE_sorted l
  have h2 : (sortE l).Nodup := (sortE_perm l).symm.nodup h
  exact h1.imp₂ (S := fun a b => a ≠ b) (fun a b p q => by
    obtain ⟨a1, a2⟩ := a
    obtain ⟨b1, b2⟩ := b
    unfold eLe at p
    unfold eLt
    simp only [decide_eq_true_eq, ne_eq, Prod.mk.injEq] at p q ⊢
    omega) h2
theorem gLt_eD (p q : FT.Ed) : gLt (eD p) (eD q) = some (.bool (eLt p q)) := by
  show (match intsOf [.int (p.1 : Int), .int (p.2 : Int)], intsOf [.int (q.1 : Int), .int (q.2 : Int)] with
    | some ns, some ms => some (PyData.bool (HT.lexLt ns ms))
    | _, _ => none) = _
  simp only [intsOf_cons, intsOf_nil, Option.map_some]
  rw [HT.lexLt_cons, HT.lexLt_cons, HT.lexLt_nil_nil]
  unfold eLt
  congr 1
  by_cases h1 : (p.1 : Int) = q.1
  · rw [if_pos h1]
    by_cases h2 : (p.2 : Int) = q.2
    · rw [if_pos h2]; symm; simp; omega
    · rw [if_neg h2]; congr 1; exact decide_eq_decide.mpr (by omega)
  · rw [if_neg h1]; congr 1; exact decide_eq_decide.mpr (by omega)
/-! loops -/
theorem forL_inv {g : D → En → Option En} {F : En → Re Fl} (I : Nat → En → Prop) : ∀ (ds : List D) (k : Nat) (δ : En), I k δ →
    (∀ i d δ, ds[i]? = some d → I (k + i) δ → ∃ δ1 δ2, g d δ = some δ1 ∧ (F δ1 = .ok (.nx δ2) ∨ F δ1 = .ok (.ct δ2)) ∧ I (k + i + 1) δ2) → ∃ δ', forL g F ds δ = .ok (.nx δ') ∧ I (k + ds.length) δ'
  | [], k, δ, h0, _ => ⟨δ, rfl, h0⟩
  | d :: ds, k, δ, h0, hs => by
    obtain ⟨δ1, δ2, e1, e2, h2⟩ := hs 0 d δ rfl h0
    obtain ⟨δ', e3, h3⟩ := forL_inv I ds (k + 1) δ2 h2 fun i d δ hi h => by
      obtain ⟨a, b, q1, q2, q3⟩ := hs (i + 1) d δ (by simpa using hi) (by rw [show k + (i + 1) = k + 1 + i by omega]; exact h)
      exact ⟨a, b, q1, q2, by rw [show k + 1 + i + 1 = k + (i + 1) + 1 by omega]; exact q3⟩
    refine ⟨δ', ?_, by rw [List.length_cons, show k + (ds.length + 1) = k + 1 + ds.length by omega]; exact h3⟩
    unfold forL
    rw [e1]
    rcases e2 with e2 | e2 <;> simp only [opt_some, Re.bd_ok, e2] <;> exact e3
/-- .. with items that stand for something -/
theorem forL_map {α : Type} {f : α → D} {g : D → En → Option En} {F : En → Re Fl} (I : Nat → En → Prop) (l : List α) (δ : En) (h0 : I 0 δ)
    (hs : ∀ i a δ, l[i]? = some a → I i δ → ∃ δ1 δ2, g (f a) δ = some δ1 ∧ (F δ1 = .ok (.nx δ2) ∨ F δ1 = .ok (.ct δ2)) ∧ I (i + 1) δ2) : ∃ δ', forL g F (l.map f) δ = .ok (.nx δ') ∧ I l.length δ' := by
  have := forL_inv (g := g) (F := F) I (l.map f) 0 δ h0 fun i d δ hi h => by
    rw [List.getElem?_map] at hi
    obtain ⟨a, ha, rfl⟩ := Option.map_eq_some_iff.mp hi
    rw [Nat.zero_add] at h ⊢
    exact hs i a δ ha h
  simpa using this
/-- .. that may end early: hands back d -/
theorem forL_find {α : Type} {f : α → D} {g : D → En → Option En} {F : En → Re Fl} (I : Nat → En → Prop) (R : D → En → Prop) : ∀ (l : List α) (k : Nat) (δ : En), I k δ →
    (∀ i a δ, l[i]? = some a → I (k + i) δ → ∃ δ1, g (f a) δ = some δ1 ∧ ((∃ δ2, (F δ1 = .ok (.nx δ2) ∨ F δ1 = .ok (.ct δ2)) ∧ I (k + i + 1) δ2) ∨ ∃ d δ2, F δ1 = .ok (.rt d δ2) ∧ R d δ2)) →
    (∃ δ', forL g F (l.map f) δ = .ok (.nx δ') ∧ I (k + l.length) δ') ∨ ∃ d δ', forL g F (l.map f) δ = .ok (.rt d δ') ∧ R d δ'
  | [], k, δ, h0, _ => .inl ⟨δ, rfl, h0⟩
  | a :: l, k, δ, h0, hs => by
    obtain ⟨δ1, e1, h⟩ := hs 0 a δ rfl h0
    rw [List.map_cons]
    unfold forL
    rw [e1]
    simp only [opt_some, Re.bd_ok]
    rcases h with ⟨δ2, e2, h2⟩ | ⟨d, δ2, e2, r⟩
    · have := forL_find (g := g) (F := F) I R l (k + 1) δ2 h2 fun i a δ hi h => by
        obtain ⟨δ1, q1, q2⟩ := hs (i + 1) a δ (by simpa using hi) (by rw [show k + (i + 1) = k + 1 + i by omega]; exact h)
        refine ⟨δ1, q1, ?_⟩
        rw [show k + 1 + i + 1 = k + (i + 1) + 1 by omega]; exact q2
      rw [List.length_cons, show k + (l.length + 1) = k + 1 + l.length by omega]
      rcases e2 with e2 | e2 <;> simp only [e2] <;> exact this
    · refine .inr ⟨d, δ2, ?_, r⟩
      simp only [e2]
/-! comprehensions without effects -/
theorem lcP_all {α : Type} {f : α → D} {g : D → En → Option En} {t : En → Re Bool} {e : En → Re D} {δ : En} {p : α → Bool} {h : α → D} : ∀ (l : List α), (∀ a ∈ l, ∃ δ1, g (f a) δ = some δ1 ∧ t δ1 = .ok (p a) ∧ (p a = true → e δ1 = .ok (h a))) → lcP g t e (l.map f) δ = .ok ((l.filter p).map h)
  | [], _ => rfl
  | a :: l, hs => by
    obtain ⟨δ1, e1, e2, e3⟩ := hs a (List.mem_cons_self ..)
    have ih := lcP_all l fun b hb => hs b (List.mem_cons_of_mem _ hb)
    rw [List.map_cons]
    unfold lcP
    simp only [e1, e2, nb_ok]
    cases hp : p a with
    | true => simp only [e3 hp, nb_ok, ih, List.filter_cons, hp, if_true, List.map_cons]
    | false => simp only [ih, List.filter_cons, hp, Bool.false_eq_true, if_false]
theorem pLc_all {α : Type} {f : α → D} {fi : En → Re (List D)} {vs : List Nat} {g : D → En → Option En} {t : En → Re Bool} {e : En → Re D} {δ : En} {p : α → Bool} {h : α → D} {l : List α} (hi : fi δ = .ok (l.map f)) (hl : l.length ≤ 1000000) (hc : chk δ vs = true)
    (hs : ∀ a ∈ l, ∃ δ1, g (f a) (wp δ vs) = some δ1 ∧ t δ1 = .ok (p a) ∧ (p a = true → e δ1 = .ok (h a))) : pLc fi vs g t e δ = .ok ((l.filter p).map h) := by
  unfold pLc
  rw [hi]
  simp only [Re.bd_ok]
  rw [if_pos ⟨by rw [List.length_map]; exact hl, hc⟩, lcP_all l hs]; rfl
theorem pLc_map {α : Type} {f : α → D} {fi : En → Re (List D)} {vs : List Nat} {g : D → En → Option En} {e : En → Re D} {δ : En} {h : α → D} {l : List α} (hi : fi δ = .ok (l.map f)) (hl : l.length ≤ 1000000) (hc : chk δ vs = true)
    (hs : ∀ a ∈ l, ∃ δ1, g (f a) (wp δ vs) = some δ1 ∧ e δ1 = .ok (h a)) : pLc fi vs g (fun _ => .ok true) e δ = .ok (l.map h) := by
  rw [pLc_all (p := fun _ => true) hi hl hc fun a ha => by
    obtain ⟨δ1, e1, e2⟩ := hs a ha
    exact ⟨δ1, e1, rfl, fun _ => e2⟩, List.filter_eq_self.mpr fun _ _ => rfl]
theorem lcL_pure {vs : List Nat} {g : D → En → Option En} {t : En → Re Bool} {e : En → Re D} {δ : En} (hg : ∀ d δ1, g d δ = some δ1 → wp δ1 vs = δ) : ∀ (ds : List D), lcL vs g (Pu t) (Pu e) ds δ = nb (lcP g t e ds δ) fun r => .ok (r, δ)
  | [] => rfl
  | d :: ds => by
    unfold lcL lcP
    cases h : g d δ with
    | none => rfl
    | some δ1 =>
      simp only [Pu_ap]
      cases ht : t δ1 with
      | ok b =>
        simp only [Re.bd_ok, nb_ok]
        cases b with
        | true =>
          simp only
          cases he : e δ1 with
          | ok x =>
            simp only [Re.bd_ok, nb_ok]
            rw [hg d δ1 h, lcL_pure hg ds]
            cases lcP g t e ds δ <;> rfl
          | _ => rfl
        | false =>
          simp only
          rw [hg d δ1 h, lcL_pure hg ds]
      | _ => rfl
/-! comprehensions, for simp -/
def okSl : Option Sl → Bool
  | some (.sh _) => true
  | some .no => true
  | _ => false
@[simp] theorem okSl_sh (d : D) : okSl (some (.sh d)) = true := (rfl)
@[simp] theorem okSl_no : okSl (some .no) = true := (rfl)
@[simp] theorem chk_nil (δ : En) : chk δ [] = true := (rfl)
@[simp] theorem chk_cons (δ : En) (v : Nat) (vs : List Nat) : chk δ (v :: vs) = (okSl δ[v]? && chk δ vs) := (rfl)
@[simp] theorem wp_nil (δ : En) : wp δ [] = δ := (rfl)
@[simp] theorem wp_cons (δ : En) (v : Nat) (vs : List Nat) : wp δ (v :: vs) = (wp δ vs).set v .no := (rfl)
@[simp] theorem rs_nil (δ0 δ : En) : rs δ0 δ [] = δ := (rfl)
@[simp] theorem rs_cons (δ0 δ : En) (v : Nat) (vs : List Nat) : rs δ0 δ (v :: vs) = rs δ0 (δ.set v (δ0.getD v .no)) vs := (rfl)
theorem nb_lcP {g : D → En → Option En} {t : En → Re Bool} {e : En → Re D} {δ : En} : ∀ (ds : List D), nb (lcP g t e ds δ) .ok = lcP g t e ds δ
  | [] => rfl
  | d :: ds => by
    have ih := nb_lcP (g := g) (t := t) (e := e) (δ := δ) ds
    unfold lcP
    cases g d δ with
    | none => rfl
    | some δ1 =>
      simp only
      cases t δ1 with
      | ok b =>
        simp only [nb_ok]
        cases b with
        | true =>
          simp only
          cases e δ1 with
          | ok x =>
            simp only [nb_ok]
            cases lcP g t e ds δ <;> rfl
          | _ => rfl
        | false => exact ih
      | _ => rfl
def pLc1 (vs : List Nat) (g : D → En → Option En) (t : En → Re Bool) (f : En → Re D) (δ : En) (ds : List D) : Re (List D) := if ds.length ≤ 1000000 ∧ chk δ vs = true then lcP g t f ds (wp δ vs) else .bad
@[simp] theorem pLc1_ap (vs : List Nat) (g : D → En → Option En) (t : En → Re Bool) (f : En → Re D) (δ : En) (ds : List D) : pLc1 vs g t f δ ds = if ds.length ≤ 1000000 ∧ chk δ vs = true then lcP g t f ds (wp δ vs) else .bad := (rfl)
@[simp] theorem pLc_ap (fi : En → Re (List D)) (vs : List Nat) (g : D → En → Option En) (t : En → Re Bool) (f : En → Re D) (δ : En) : pLc fi vs g t f δ = (fi δ).bd (pLc1 vs g t f δ) := by
  unfold pLc pLc1
  congr 1
  funext ds
  rw [nb_lcP]
def eLc2 (vs : List Nat) (δ : En) (q : List D × En) : Re (List D × En) := .ok (q.1, rs δ q.2 vs)
@[simp] theorem eLc2_ap (vs : List Nat) (δ δ' : En) (l : List D) : eLc2 vs δ (l, δ') = .ok (l, rs δ δ' vs) := (rfl)
def eLc1 (vs : List Nat) (g : D → En → Option En) (t : En → Re (Bool × En)) (f : En → Re (D × En)) (p : List D × En) : Re (List D × En) := if p.1.length ≤ 1000000 ∧ chk p.2 vs = true then nb (lcL vs g t f p.1 (wp p.2 vs)) (eLc2 vs p.2) else .bad
@[simp] theorem eLc1_ap (vs : List Nat) (g : D → En → Option En) (t : En → Re (Bool × En)) (f : En → Re (D × En)) (ds : List D) (δ : En) : eLc1 vs g t f (ds, δ) = if ds.length ≤ 1000000 ∧ chk δ vs = true then nb (lcL vs g t f ds (wp δ vs)) (eLc2 vs δ) else .bad := (rfl)
@[simp] theorem eLc_ap (fi : En → Re (List D × En)) (vs : List Nat) (g : D → En → Option En) (t : En → Re (Bool × En)) (f : En → Re (D × En)) (δ : En) : eLc fi vs g t f δ = (fi δ).bd (eLc1 vs g t f) := (rfl)
@[simp] theorem lcP_nil (g : D → En → Option En) (t : En → Re Bool) (e : En → Re D) (δ : En) : lcP g t e [] δ = .ok [] := (rfl)
def lcP3 (x : D) (r : List D) : Re (List D) := .ok (x :: r)
@[simp] theorem lcP3_ap (x : D) (r : List D) : lcP3 x r = .ok (x :: r) := (rfl)
theorem lcP_map {α : Type} {f : α → D} {g : D → En → Option En} {e : En → Re D} {δ : En} (h : α → D) (l : List α) (hs : ∀ a ∈ l, ∃ δ1, g (f a) δ = some δ1 ∧ e δ1 = .ok (h a)) : lcP g (fun _ => .ok true) e (l.map f) δ = .ok (l.map h) := by
  rw [lcP_all (p := fun _ => true) l fun a ha => by
    obtain ⟨δ1, e1, e2⟩ := hs a ha
    exact ⟨δ1, e1, rfl, fun _ => e2⟩, List.filter_eq_self.mpr fun _ _ => rfl]
theorem lcL_all {α : Type} {f : α → D} {vs : List Nat} {g : D → En → Option En} {t : En → Re Bool} {e : En → Re D} {δ : En} (p : α → Bool) (h : α → D) : ∀ (l : List α), (∀ a ∈ l, ∃ δ1, g (f a) δ = some δ1 ∧ wp δ1 vs = δ ∧ t δ1 = .ok (p a) ∧ (p a = true → e δ1 = .ok (h a))) → lcL vs g (Pu t) (Pu e) (l.map f) δ = .ok ((l.filter p).map h, δ)
  | [], _ => rfl
  | a :: l, hs => by
    obtain ⟨δ1, e1, e4, e2, e3⟩ := hs a (List.mem_cons_self ..)
    have ih := lcL_all (vs := vs) (g := g) (t := t) (e := e) p h l fun b hb => hs b (List.mem_cons_of_mem _ hb)
    rw [List.map_cons]
    unfold lcL
    simp only [e1, Pu_ap, e2, Re.bd_ok, nb_ok]
    cases hp : p a with
    | true => simp only [e3 hp, Re.bd_ok, nb_ok, e4, ih, List.filter_cons, hp, if_true, List.map_cons]
    | false => simp only [e4, ih, List.filter_cons, hp, Bool.false_eq_true, if_false]
theorem lcL_map {α : Type} {f : α → D} {vs : List Nat} {g : D → En → Option En} {e : En → Re D} {δ : En} (h : α → D) (l : List α) (hs : ∀ a ∈ l, ∃ δ1, g (f a) δ = some δ1 ∧ wp δ1 vs = δ ∧ e δ1 = .ok (h a)) : lcL vs g (Pu fun _ => .ok true) (Pu e) (l.map f) δ = .ok (l.map h, δ) := by
  rw [lcL_all (fun _ => true) h l fun a ha => by
    obtain ⟨δ1, e1, e2, e3⟩ := hs a ha
    exact ⟨δ1, e1, e2, rfl, fun _ => e3⟩, List.filter_eq_self.mpr fun _ _ => rfl]
/-- .. with effects on other slots: an invariant of what has been made and of the state -/
theorem lcL_inv {α : Type} {f : α → D} {vs : List Nat} {g : D → En → Option En} {e : En → Re (D × En)} (I : Nat → List D → En → Prop) : ∀ (l : List α) (k : Nat) (out : List D) (δ : En), I k out δ →
    (∀ i a out δ, l[i]? = some a → I (k + i) out δ → ∃ δ1 d δ2, g (f a) δ = some δ1 ∧ e δ1 = .ok (d, δ2) ∧ I (k + i + 1) (out ++ [d]) (wp δ2 vs)) → ∃ r δ', lcL vs g (Pu fun _ => .ok true) e (l.map f) δ = .ok (r, δ') ∧ I (k + l.length) (out ++ r) δ'
  | [], k, out, δ, h0, _ => ⟨[], δ, rfl, by simpa using h0⟩
  | a :: l, k, out, δ, h0, hs => by
    obtain ⟨δ1, d, δ2, e1, e2, h2⟩ := hs 0 a out δ rfl h0
    obtain ⟨r, δ', e3, h3⟩ := lcL_inv (g := g) (e := e) I l (k + 1) (out ++ [d]) (wp δ2 vs) h2 fun i a out δ hi h => by
      have := hs (i + 1) a out δ (by simpa using hi) (by rw [show k + (i + 1) = k + 1 + i by omega]; exact h)
      rw [show k + 1 + i + 1 = k + (i + 1) + 1 by omega]; exact this
    refine ⟨d :: r, δ', ?_, by rw [List.length_cons, show k + (l.length + 1) = k + 1 + l.length by omega, show out ++ d :: r = out ++ [d] ++ r by simp]; exact h3⟩
    rw [List.map_cons]
    unfold lcL
    simp only [e1, Pu_ap, Re.bd_ok, nb_ok, e2, e3]
/-! what a computation ends with -/
def Wr {α : Type} (r : Re α) (Q : α → Prop) : Prop := ∃ a, r = .ok a ∧ Q a
@[simp] theorem Wr_ok {α : Type} (a : α) (Q : α → Prop) : Wr (.ok a) Q ↔ Q a := ⟨fun ⟨_, e, q⟩ => by cases e; exact q, fun q => ⟨a, rfl, q⟩⟩
theorem Wr_bd {α β : Type} {x : Re α} {k : α → Re β} {Q : β → Prop} : Wr (x.bd k) Q ↔ Wr x fun a => Wr (k a) Q := by
  cases x with
  | ok a => simp
  | bad => exact ⟨fun ⟨_, e, _⟩ => (nomatch e), fun ⟨_, e, _⟩ => (nomatch e)⟩
  | er e => exact ⟨fun ⟨_, e, _⟩ => (nomatch e), fun ⟨_, e, _⟩ => (nomatch e)⟩
theorem Wr_nb {α β : Type} {x : Re α} {k : α → Re β} {Q : β → Prop} : Wr (nb x k) Q ↔ Wr x fun a => Wr (k a) Q := by
  cases x with
  | ok a => simp
  | bad => exact ⟨fun ⟨_, e, _⟩ => (nomatch e), fun ⟨_, e, _⟩ => (nomatch e)⟩
  | er e => exact ⟨fun ⟨_, e, _⟩ => (nomatch e), fun ⟨_, e, _⟩ => (nomatch e)⟩
theorem Wr.imp {α : Type} {r : Re α} {Q Q' : α → Prop} (h : Wr r Q) (w : ∀ a, Q a → Q' a) : Wr r Q' := by
  obtain ⟨a, e, q⟩ := h; exact ⟨a, e, w a q⟩
theorem Wr.of {α : Type} {r : Re α} {a : α} {Q : α → Prop} (e : r = .ok a) (q : Q a) : Wr r Q := ⟨a, e, q⟩
theorem Wr.eq {α : Type} {r : Re α} {a : α} : Wr r (fun x => x = a) ↔ r = .ok a := ⟨fun ⟨_, e, q⟩ => q ▸ e, fun e => ⟨a, e, rfl⟩⟩
def InL (I : En → Prop) (Q : Fl → Prop) : Fl → Prop
  | .nx δ => I δ
  | .ct δ => I δ
  | .bk δ => Q (.nx δ)
  | .rt d δ => Q (.rt d δ)
  | .rf d δ => Q (.rf d δ)
  | .rf2 d δ => Q (.rf2 d δ)
@[simp] theorem InL_nx (I : En → Prop) (Q : Fl → Prop) (δ : En) : InL I Q (.nx δ) = I δ := (rfl)
@[simp] theorem InL_ct (I : En → Prop) (Q : Fl → Prop) (δ : En) : InL I Q (.ct δ) = I δ := (rfl)
@[simp] theorem InL_bk (I : En → Prop) (Q : Fl → Prop) (δ : En) : InL I Q (.bk δ) = Q (.nx δ) := (rfl)
@[simp] theorem InL_rt (I : En → Prop) (Q : Fl → Prop) (d : D) (δ : En) : InL I Q (.rt d δ) = Q (.rt d δ) := (rfl)
@[simp] theorem InL_rf2 (I : En → Prop) (Q : Fl → Prop) (d : List (List D)) (δ : En) : InL I Q (.rf2 d δ) = Q (.rf2 d δ) := (rfl)
@[simp] theorem InL_rf (I : En → Prop) (Q : Fl → Prop) (d : List D) (δ : En) : InL I Q (.rf d δ) = Q (.rf d δ) := (rfl)
theorem Wr_for {α : Type} {f : α → D} {g : D → En → Option En} {F : En → Re Fl} {Q : Fl → Prop} (I : Nat → En → Prop) : ∀ (l : List α) (k : Nat) (δ : En), I k δ →
    (∀ i a δ, l[i]? = some a → I (k + i) δ → Wr (opt (g (f a) δ)) fun δ1 => Wr (F δ1) (InL (I (k + i + 1)) Q)) → (∀ δ, I (k + l.length) δ → Q (.nx δ)) → Wr (forL g F (l.map f) δ) Q
  | [], k, δ, h0, _, hq => ⟨_, rfl, hq δ h0⟩
  | a :: l, k, δ, h0, hs, hq => by
    obtain ⟨δ1, e1, fl, e2, h2⟩ := hs 0 a δ rfl h0
    have e1' : g (f a) δ = some δ1 := by
      cases h : g (f a) δ with
      | none => rw [h] at e1; cases e1
      | some x => rw [h] at e1; cases e1; rfl
    have go : ∀ δ2, I (k + 1) δ2 → Wr (forL g F (l.map f) δ2) Q := fun δ2 h2 => Wr_for I l (k + 1) δ2 h2 (fun i a δ hi h => by
      have := hs (i + 1) a δ (by simpa using hi) (by rw [show k + (i + 1) = k + 1 + i by omega]; exact h)
      rw [show k + 1 + i + 1 = k + (i + 1) + 1 by omega]; exact this) fun δ h => hq δ (by rw [List.length_cons, show k + (l.length + 1) = k + 1 + l.length by omega]; exact h)
    rw [List.map_cons]
    unfold forL
    rw [e1']
    simp only [opt_some, Re.bd_ok, e2]
    cases fl with
    | nx δ2 => exact go δ2 h2
    | ct δ2 => exact go δ2 h2
    | bk δ2 => exact ⟨_, rfl, h2⟩
    | rt d δ2 => exact ⟨_, rfl, h2⟩
    | rf d δ2 => exact ⟨_, rfl, h2⟩
    | rf2 d δ2 => exact ⟨_, rfl, h2⟩
theorem Wr_for0 {α : Type} {f : α → D} {g : D → En → Option En} {F : En → Re Fl} {Q : Fl → Prop} {l : List α} {δ : En} (I : Nat → En → Prop) (h0 : I 0 δ)
    (hs : ∀ i a δ, l[i]? = some a → I i δ → Wr (opt (g (f a) δ)) fun δ1 => Wr (F δ1) (InL (I (i + 1)) Q)) (hq : ∀ δ, I l.length δ → Q (.nx δ)) : Wr (forL g F (l.map f) δ) Q :=
  Wr_for I l 0 δ h0 (fun i a δ hi h => by rw [Nat.zero_add] at h ⊢; exact hs i a δ hi h) fun δ h => hq δ (by simpa using h)
theorem Wr_lcL {α : Type} {f : α → D} {vs : List Nat} {g : D → En → Option En} {e : En → Re (D × En)} {l : List α} {δ : En} {Q : List D × En → Prop} (I : Nat → List D → En → Prop) (h0 : I 0 [] δ)
    (hs : ∀ i a out δ, l[i]? = some a → I i out δ → Wr (opt (g (f a) δ)) fun δ1 => Wr (e δ1) fun q => I (i + 1) (out ++ [q.1]) (wp q.2 vs)) (hq : ∀ r δ, I l.length r δ → Q (r, δ)) : Wr (lcL vs g (Pu fun _ => .ok true) e (l.map f) δ) Q := by
  obtain ⟨r, δ', e1, h⟩ := lcL_inv (f := f) (vs := vs) (g := g) (e := e) I l 0 [] δ h0 fun i a out δ hi h => by
    rw [Nat.zero_add] at h ⊢
    obtain ⟨δ1, e1, q, e2, h2⟩ := hs i a out δ hi h
    refine ⟨δ1, q.1, q.2, ?_, e2, h2⟩
    cases h : g (f a) δ with
    | none => rw [h] at e1; cases e1
    | some x => rw [h] at e1; cases e1; rfl
  exact ⟨_, e1, hq _ _ (by simpa using h)⟩
theorem Wr_P {np n : Nat} {F : En → Re Fl} {ds : List D} {Q : D → Prop} (h : ds.length = np) (w : Wr (F (en0 n ds)) fun fl => Wr (resP fl) Q) : Wr (dfP np n F ds) Q := by rw [dfP_ap _ _ _ _ h, Wr_bd]; exact w
theorem Wr_PF {np n : Nat} {F : En → Re Fl} {ds : List D} {Q : List D → Prop} (h : ds.length = np) (w : Wr (F (en0 n ds)) fun fl => Wr (resPF fl) Q) : Wr (dfPF np n F ds) Q := by rw [dfPF_ap _ _ _ _ h, Wr_bd]; exact w
theorem Wr_M {np n : Nat} {F : En → Re Fl} {src ds : List D} {Q : D × List D → Prop} (h : ds.length = np) (w : Wr (F (en1 n src ds)) fun fl => Wr (resM fl) Q) : Wr (dfM np n F src ds) Q := by rw [dfM_ap _ _ _ _ _ h, Wr_bd]; exact w
theorem Wr_MF {np n : Nat} {F : En → Re Fl} {src ds : List D} {Q : List D × List D → Prop} (h : ds.length = np) (w : Wr (F (en1 n src ds)) fun fl => Wr (resMF fl) Q) : Wr (dfMF np n F src ds) Q := by rw [dfMF_ap _ _ _ _ _ h, Wr_bd]; exact w
theorem dle_int (p q : Int) : PySem.W.dataLe false id (.int p) (.int q) = decide (p ≤ q) := by
  have h := congrFun (congrFun (PySem.W.dataLe_int (β := Int) (fun p => p)) p) q
  exact h
theorem mergeSort2 {α : Type} (le : α → α → Bool) (a b : α) : [a, b].mergeSort le = if le a b = true then [a, b] else [b, a] := by
  simp [List.mergeSort, List.MergeSort.Internal.splitInTwo, List.merge]
theorem gSort2 (a b : Int) : gSort [.tuple [.int a, .int b]] = some (if a ≤ b then [.int a, .int b] else [.int b, .int a]) := by
  show (if srtOk [.int a, .int b] then some (srt [.int a, .int b]) else none) = _
  have e : srtOk [.int a, .int b] = true := by
    have := srtOk_map (f := fun i : Int => PyData.int i) (l := [a, b]) (fun _ _ => rfl) (.inr fun a => ⟨a, rfl⟩) (show 2 ≤ 1000000 by decide) (fun a => Nat.zero_le _)
    exact this
  rw [e]
  unfold srt
  rw [mergeSort2, dle_int]
  by_cases h : a ≤ b <;> simp [h]
theorem gSort2n (a b : Nat) : ∃ k g : Nat, gSort [.tuple [.int (a : Int), .int (b : Int)]] = some [.int (k : Int), .int (g : Int)] ∧ ((k = a ∧ g = b) ∨ (k = b ∧ g = a)) := by
  rw [gSort2]
  by_cases h : (a : Int) ≤ b
  · exact ⟨a, b, by rw [if_pos h], .inl ⟨rfl, rfl⟩⟩
  · exact ⟨b, a, by rw [if_neg h], .inr ⟨rfl, rfl⟩⟩
theorem cutD_from (xs : List D) (k : Nat) : cutD xs (some (k : Int)) none = xs.drop k := by
  unfold cutD
  rw [HT.sIx_nat, HT.sIx_none]
  by_cases h : k ≤ xs.length
  · rw [Nat.min_eq_left h, List.take_of_length_le (by rw [List.length_drop]; omega)]
  · rw [Nat.min_eq_right (by omega), List.drop_length, List.drop_eq_nil_of_le (by omega)]; simp
theorem cutD_to (xs : List D) (k : Nat) : cutD xs none (some (k : Int)) = xs.take k := by
  unfold cutD
  rw [HT.sIx_nat, HT.sIx_none]
  by_cases h : k ≤ xs.length
  · rw [Nat.min_eq_left h]; simp
  · rw [Nat.min_eq_right (by omega), List.take_of_length_le (show xs.length ≤ k by omega)]; simp
@[simp] theorem gSl_from1 (xs : List D) : gSl (.list xs) (some 1) none = some (.list xs.tail) := by
  show some (PyData.list (cutD xs (some ((1 : Nat) : Int)) none)) = _
  rw [cutD_from, List.drop_one]
@[simp] theorem gSl_from (xs : List D) (k : Nat) : gSl (.list xs) (some (k : Int)) none = some (.list (xs.drop k)) := by
  show some (PyData.list (cutD xs _ none)) = _
  rw [cutD_from]
@[simp] theorem gSl_to (xs : List D) (k : Nat) : gSl (.list xs) none (some (k : Int)) = some (.list (xs.take k)) := by
  show some (PyData.list (cutD xs none _)) = _
  rw [cutD_to]
theorem zip_map {α β : Type} (f : α → D) (h : β → D) (l : List α) (m : List β) : List.zipWith (fun x y => PyData.tuple [x, y]) (l.map f) (m.map h) = (l.zip m).map fun q => .tuple [f q.1, h q.2] := by
  rw [List.zipWith_map, List.zip, List.map_zipWith]
theorem gAll_true {α : Type} (l : List α) : gAll [.list (l.map fun _ => PyData.bool true)] = some (.bool true) := by
  rw [gAll_map (fun _ : α => true)]; simp
theorem mPopAt_nat {ds : List D} {r : Nat} (h : r < ds.length) (hl : ds.length ≤ 2 ^ 60) : mPopAt ds [.int (r : Int)] = some (ds.eraseIdx r, ds[r]) := by
  have e : seqIndex? (r : Int) ds.length = some r := (ixN_seq (ixN_nat h)).1
  unfold mPopAt
  simp only
  rw [if_pos (by omega), e]
  simp [h]
theorem map_erase {α : Type} (f : α → D) : ∀ (l : List α) (r : Nat), (l.map f).eraseIdx r = (l.eraseIdx r).map f
  | [], _ => rfl
  | _ :: _, 0 => rfl
  | a :: l, r + 1 => by simp [map_erase f l r]
theorem erase_perm {α : Type} : ∀ {l : List α} {r : Nat} (h : r < l.length), (l[r] :: l.eraseIdx r).Perm l
  | [], _, h => absurd h (Nat.not_lt_zero _)
  | _ :: _, 0, _ => List.Perm.refl _
  | a :: l, r + 1, h => by
    simp only [List.getElem_cons_succ, List.eraseIdx_cons_succ]
    exact (List.Perm.swap _ _ _).trans (List.Perm.cons a (erase_perm (by simpa using h)))
theorem gAdd_list {a b : List D} (h : a.length + b.length ≤ 1000000) : gAdd (.list a) (.list b) = some (.list (a ++ b)) := if_pos h
theorem good_sort {n : Nat} {ps : List FT.Ed} (h : ∀ p ∈ ps, p.1 < p.2 ∧ p.2 < n) (hd : ps.Nodup) : (∀ p ∈ sortE ps, p.1 < p.2 ∧ p.2 < n) ∧ (sortE ps).Pairwise fun a b => eLt a b = true :=
  ⟨fun p hp => h p ((sortE_perm ps).mem_iff.mp hp), sortE_strict hd⟩
theorem minmax (x y : Nat) : (if (y : Int) < (x : Int) then (y : Int) else (x : Int)) = ((min x y : Nat) : Int) ∧ (if (y : Int) > (x : Int) then (y : Int) else (x : Int)) = ((max x y : Nat) : Int) := by
  constructor <;> split <;> omega
@[simp] theorem gIx_eD0 (p : FT.Ed) : gIx (eD p) (.int 0) = some (.int (p.1 : Int)) := (rfl)
@[simp] theorem gIx_eD1 (p : FT.Ed) : gIx (eD p) (.int 1) = some (.int (p.2 : Int)) := (rfl)
theorem gNotIn_eD (p : FT.Ed) (l : List FT.Ed) : gNotIn (eD p) (.list (l.map eD)) = some (.bool (!decide (p ∈ l))) := by unfold gNotIn; rw [inD_eD]; rfl
theorem gIn_eD (p : FT.Ed) (l : List FT.Ed) : gIn (eD p) (.list (l.map eD)) = some (.bool (decide (p ∈ l))) := by unfold gIn; rw [inD_eD]; rfl
theorem gNotIn_nD (p : Nat) (l : List Nat) : gNotIn (.int (p : Int)) (.list (l.map nD)) = some (.bool (!decide (p ∈ l))) := by
  unfold gNotIn
  rw [show (PyData.int (p : Int)) = nD p from rfl, inD_nD]; rfl
theorem gIn_nD (p : Nat) (l : List Nat) : gIn (.int (p : Int)) (.list (l.map nD)) = some (.bool (decide (p ∈ l))) := by
  unfold gIn
  rw [show (PyData.int (p : Int)) = nD p from rfl, inD_nD]; rfl
theorem gNe_eD (p q : FT.Ed) : gNe (eD p) (eD q) = some (.bool (!decide (p = q))) := by unfold gNe; rw [eqD_eD]; rfl
theorem gEq_eD (p q : FT.Ed) : gEq (eD p) (eD q) = some (.bool (decide (p = q))) := by unfold gEq; rw [eqD_eD]; rfl
theorem gEq_esD (p q : List FT.Ed) : gEq (.list (p.map eD)) (.list (q.map eD)) = some (.bool (decide (p = q))) := by unfold gEq; rw [eqD_esD]; rfl
theorem gEq_nil : gEq (.list []) (.list []) = some (.bool true) := (rfl)
theorem gSort_add {l : List FT.Ed} (p : FT.Ed) (h : l.length + 1 ≤ 1000000) : gSort [.list (l.map eD ++ [eD p])] = some ((sortE (l ++ [p])).map eD) := by
  have := gSort_esD (l := l ++ [p]) (by simpa using h)
  rw [List.map_append] at this; exact this
end DL

/-! EV2: equations for simp: texts, lending, keywords -/
namespace DL
open PySem L2
def strOf : D → Re Str
  | .str a => .ok a
  | _ => .bad
@[simp] theorem strOf_s (a : Str) : strOf (.str a) = .ok a := (rfl)
def pM12 {α : Type} (g : Str → D → Option α) (a : Str) (q : D) : Re α := opt (g a q)
@[simp] theorem pM12_ap {α : Type} (g : Str → D → Option α) (a : Str) (q : D) : pM12 g a q = opt (g a q) := (rfl)
def pM11 {α : Type} (g : Str → D → Option α) (fe : En → Re D) (δ : En) (a : Str) : Re α := (fe δ).bd (pM12 g a)
@[simp] theorem pM11_ap {α : Type} (g : Str → D → Option α) (fe : En → Re D) (δ : En) (a : Str) : pM11 g fe δ a = (fe δ).bd (pM12 g a) := (rfl)
@[simp] theorem pM1_ap {α : Type} (g : Str → D → Option α) (fo fe : En → Re D) (δ : En) : pM1 g fo fe δ = ((fo δ).bd strOf).bd (pM11 g fe δ) := by
  unfold pM1
  cases fo δ with
  | ok x => cases x <;> rfl
  | _ => rfl
def strIt : D → Re (List D)
  | .str z => .ok (z.cps.toList.map fun k => .str ⟨#[k]⟩)
  | _ => .bad
@[simp] theorem strIt_s (z : Str) : strIt (.str z) = .ok (z.cps.toList.map fun k => .str ⟨#[k]⟩) := (rfl)
@[simp] theorem pSi_ap (f : En → Re D) (δ : En) : pSi f δ = (f δ).bd strIt := by
  unfold pSi; cases f δ with
  | ok x => cases x <;> rfl
  | _ => rfl
@[simp] theorem pIsi2_ap (T U : String) (fa : En → Re D) (δ : En) : pIsi2 T U fa δ = (fa δ).bd fun p => .ok (.bool (isiD p T || isiD p U)) := (rfl)
@[simp] theorem eIsi2_ap (T U : String) (fa : En → Re (D × En)) (δ : En) : eIsi2 T U fa δ = (fa δ).bd fun p => .ok (.bool (isiD p.1 T || isiD p.1 U), p.2) := (rfl)
def pRep1 (fb : En → Re D) (δ : En) (p : List D) : Re (List D) := (fb δ).bd fun q => opt (gRep p q)
@[simp] theorem pRep1_ap (fb : En → Re D) (δ : En) (p : List D) : pRep1 fb δ p = (fb δ).bd fun q => opt (gRep p q) := (rfl)
@[simp] theorem pRep_ap (ga : En → Re (List D)) (fb : En → Re D) (δ : En) : pRep ga fb δ = (ga δ).bd (pRep1 fb δ) := (rfl)
def pCk2 {α : Type} (m n : Nat) (ix : List Nat) (F : List D → Re α) (p q : List D) : Re α := if p.length = m ∧ q.length = n then F (pick ix (p ++ q)) else .bad
@[simp] theorem pCk2_ap {α : Type} (m n : Nat) (ix : List Nat) (F : List D → Re α) (p q : List D) : pCk2 m n ix F p q = if p.length = m ∧ q.length = n then F (pick ix (p ++ q)) else .bad := (rfl)
def pCk1 {α : Type} (m n : Nat) (ix : List Nat) (F : List D → Re α) (f2 : En → Re (List D)) (δ : En) (p : List D) : Re α := (f2 δ).bd (pCk2 m n ix F p)
@[simp] theorem pCk1_ap {α : Type} (m n : Nat) (ix : List Nat) (F : List D → Re α) (f2 : En → Re (List D)) (δ : En) (p : List D) : pCk1 m n ix F f2 δ p = (f2 δ).bd (pCk2 m n ix F p) := (rfl)
@[simp] theorem pCk_ap {α : Type} (m n : Nat) (ix : List Nat) (F : List D → Re α) (f1 f2 : En → Re (List D)) (δ : En) : pCk m n ix F f1 f2 δ = (f1 δ).bd (pCk1 m n ix F f2 δ) := (rfl)
@[simp] theorem pick_nil {α : Type} (l : List α) : pick [] l = [] := (rfl)
@[simp] theorem pick_0 {α : Type} (ix : List Nat) (a : α) (l : List α) : pick (0 :: ix) (a :: l) = a :: pick ix (a :: l) := (rfl)
@[simp] theorem pick_1 {α : Type} (ix : List Nat) (a b : α) (l : List α) : pick (1 :: ix) (a :: b :: l) = b :: pick ix (a :: b :: l) := (rfl)
@[simp] theorem pick_2 {α : Type} (ix : List Nat) (a b c : α) (l : List α) : pick (2 :: ix) (a :: b :: c :: l) = c :: pick ix (a :: b :: c :: l) := (rfl)
def borR : Re D → Re D
  | .ok d => if scal d then .ok d else .bad
  | _ => .bad
@[simp] theorem borR_ok (d : D) : borR (.ok d) = if scal d then .ok d else .bad := (rfl)
def lendA (is : List Nat) (k : Nat) : En → En
  | [] => []
  | s :: δ => lend1 is k s :: lendA is (k + 1) δ
theorem lendA_eq (is : List Nat) : ∀ (δ : En) (k : Nat), lendA is k δ = δ.mapIdx fun i s => lend1 is (k + i) s
  | [], k => rfl
  | s :: δ, k => by
    rw [List.mapIdx_cons, lendA, lendA_eq is δ (k + 1)]
    congr 1
    congr 1
    funext i s
    congr 1
    omega
theorem lend_A (is : List Nat) (δ : En) : lend is δ = lendA is 0 δ := by
  rw [lendA_eq]; unfold lend
  congr 1
  funext i s
  rw [Nat.zero_add]
@[simp] theorem lendA_nil (is : List Nat) (k : Nat) : lendA is k [] = [] := (rfl)
@[simp] theorem lendA_cons (is : List Nat) (k : Nat) (s : Sl) (δ : En) : lendA is k (s :: δ) = lend1 is k s :: lendA is (k + 1) δ := (rfl)
@[simp] theorem lend1_o (is : List Nat) (i : Nat) (ds : List D) : lend1 is i (.ow ds) = if i ∈ is then .sh (.list ds) else .no := (rfl)
@[simp] theorem lend1_s (is : List Nat) (i : Nat) (d : D) : lend1 is i (.sh d) = .sh d := (rfl)
@[simp] theorem lend1_n (is : List Nat) (i : Nat) : lend1 is i .no = .no := (rfl)
@[simp] theorem bor_ap (is : List Nat) (f : En → Re D) (δ : En) : bor is f δ = borR (f (lendA is 0 δ)) := by
  unfold bor borR; rw [lend_A]; try (cases f (lendA is 0 δ) <;> rfl)
@[simp] theorem scal_b (b : Bool) : scal (.bool b) = true := by simp only [scal]
@[simp] theorem scal_s (b : Str) : scal (.str b) = true := by simp only [scal]
@[simp] theorem scal_i (b : Int) : scal (.int b) = true := by simp only [scal]
@[simp] theorem scal_n : scal .none = true := by simp only [scal]
@[simp] theorem scal_t (ds : List D) : scal (.tuple ds) = ds.all scal := by simp only [scal, scalA_all]
def paFF2 (i j : Nat) (p q : List D × En) : Re Fl := .ok (.nx ((q.2.set i (.ow p.1)).set j (.ow q.1)))
@[simp] theorem paFF2_ap (i j : Nat) (p q : List D × En) : paFF2 i j p q = .ok (.nx ((q.2.set i (.ow p.1)).set j (.ow q.1))) := (rfl)
def paFF1 (i j : Nat) (gb : En → Re (List D × En)) (p : List D × En) : Re Fl := (gb p.2).bd (paFF2 i j p)
@[simp] theorem paFF1_ap (i j : Nat) (gb : En → Re (List D × En)) (l : List D) (δ : En) : paFF1 i j gb (l, δ) = (gb δ).bd (paFF2 i j (l, δ)) := (rfl)
@[simp] theorem paFF_ap (i j : Nat) (ga gb : En → Re (List D × En)) (δ : En) : paFF i j ga gb δ = (ga δ).bd (paFF1 i j gb) := (rfl)
@[simp] theorem mClr_ap (ds : List D) : mClr ds [] = some ([], .none) := (rfl)
@[simp] theorem mRev_ap (ds : List D) : mRev ds [] = some (ds.reverse, .none) := (rfl)
/-! texts -/
theorem gJoin_strs (a : Str) (ys : List Str) (h : (ys.map (·.length)).sum + ys.length * a.length ≤ 16777216) : gJoin a (.list (ys.map .str)) = some (.str (Txt.join a ys)) := by
  simp only [gJoin, strsOf_map]
  exact if_pos h
theorem gSplit_str (a b : Str) (h1 : (b.length == 0) = false) (h : a.length + 2 ≤ 1000000) : gSplit a (.str b) = some ((Txt.split a b).map .str) := if_pos ⟨h1, h⟩
@[simp] theorem gEq_str (x y : Str) : gEq (.str x) (.str y) = some (.bool (decide (x = y))) := (rfl)
@[simp] theorem gNe_str (x y : Str) : gNe (.str x) (.str y) = some (.bool (!decide (x = y))) := (rfl)
theorem gAdd_str {x y : Str} (h : x.length + y.length ≤ 1000000) : gAdd (.str x) (.str y) = some (.str (x ++ y)) := if_pos h
@[simp] theorem isi_str (x : Str) : isiD (.str x) "str" = true := (rfl)
theorem gLen_str {z : Str} (h : z.length ≤ 1000000) : gLen [.str z] = some (.int z.length) := if_pos h
theorem gIn_sign (k : Nat) (z : Str) : gIn (.str ⟨#[k]⟩) (.str z) = some (.bool (decide (k ∈ z.cps.toList))) := (rfl)
theorem gIx_str {z : Str} (h : z.length ≤ 1000000) (i : Int) : gIx (.str z) (.int i) = (atI z.cps.toList i).map fun k => .str ⟨#[k]⟩ := if_pos h
@[simp] theorem gEnum_l (xs : List D) : gEnum [.list xs] = some (xs.mapIdx fun i x => .tuple [.int (i : Nat), x]) := (rfl)
theorem mapIdx_map {α : Type} (f : α → D) (l : List α) : ((l.map f).mapIdx fun i x => PyData.tuple [.int (i : Nat), x]) = l.zipIdx.map fun p => PyData.tuple [.int (p.2 : Nat), f p.1] := by
  rw [List.mapIdx_eq_zipIdx_map, List.zipIdx_map, List.map_map]; rfl
end DL

/-! DL15: len(set(xs)) of texts -/
namespace DL
open PySem PySem.Spec PyProof.Rows
/-- how many different texts stand among the first i -/
def met (xs : List Str) : Nat → Nat
  | 0 => 0
  | i + 1 => if (xs.take i).any (· == xs.getD i Str.empty) then met xs i else met xs i + 1
theorem met_le (xs : List Str) : ∀ i, met xs i ≤ i
  | 0 => Nat.le_refl _
  | i + 1 => by
    have := met_le xs i
    unfold met
    split <;> omega
section
variable {prog : Program} {w : World} {A : Around} {R : Result → Shared → Prop} {I : Addr} {fp wr : List Addr} {G : Array GenState → Array GenState → Prop} {n : Nat} {P : Nat → Value → Prop} {St : Nat → Shared → Prop}
def TxtSet (prog : Program) (w : World) (h : Heap) (S : Addr) (xs : List Str) (i : Nat) : Prop := h.SetOf (PySem.strKind prog w) S (fun y => (xs.take i).any (· == y)) (met xs i)
theorem loopTxt (W : WalksS prog w A.in1 I fp wr G n P St) (S : Addr) (off : S ∉ fp) (xs : List Str) (num : xs.length = n) (few : n + 1 < scanBound) (texts : ∀ i v, P i v → ∃ t, v = .str (xs.getD i Str.empty) t) :
    ∀ (k i : Nat) (s : Shared), n - i = k → i ≤ n → St i s → TxtSet prog w s.heap S xs i → (∀ s', Moved (S :: wr) G s s' → TxtSet prog w s'.heap S xs n → R (.ok (.ret .none)) s') →
      codeAny (model prog w) A (.builtin "set.update.loop" ⟨[.ref S, .ref I], []⟩) R s
  | 0, i, s, hk, hi, st, hS, fin => by
    have noS : S ∉ wr := fun z => off (W.sub _ z)
    obtain rfl : i = n := by omega
    refine codeAny_builtin PyProof.Rows.F.entry_set_update_loop ?_
    rw [Around.under_plainId PyProof.Rows.F.plain_set_update_loop _]
    show wpAny _ A.in1 (pyNext (.ref I) >>= _) _ _ s
    refine wpAny_bind (W.done s _ _ st fun s' mv => wpAny_pure ?_)
    obtain ⟨o, es, ep, t, ho, more⟩ := hS
    exact fin s' (mv.mono fun b hb => List.mem_cons_of_mem _ hb) ⟨o, es, ep, t, mv.heap S _ noS ho, more⟩
  | k + 1, i, s, hk, hi, st, hS, fin => by
    have noS : S ∉ wr := fun z => off (W.sub _ z)
    have lt : i < n := by omega
    have lt' : i < xs.length := by omega
    refine codeAny_builtin PyProof.Rows.F.entry_set_update_loop ?_
    rw [Around.under_plainId PyProof.Rows.F.plain_set_update_loop _]
    show wpAny _ A.in1 (pyNext (.ref I) >>= _) _ _ s
    refine wpAny_bind (W.item i s _ _ lt st fun v s' pv st' mv => ?_)
    obtain ⟨t, rfl⟩ := texts i v pv
    have hS' : TxtSet prog w s'.heap S xs i := by
      obtain ⟨o, es, ep, tb, ho, more⟩ := hS
      exact ⟨o, es, ep, tb, mv.heap S _ noS ho, more⟩
    show wpAny _ A.in1 (holding [Value.str (xs.getD i Str.empty) t] (setAdd S (.str (xs.getD i Str.empty) t)) >>= _) _ _ s'
    refine wpAny_bind (wpAny_holding ?_)
    unfold setAdd
    refine wpAny_holding (wpAny_bind ((PySem.strKind prog w).pyHash (k := xs.getD i Str.empty) (strKind_is _ _ _ _) ?_))
    have small := met_le xs i
    refine wpAny_setAddHashed_of (knd := PySem.strKind prog w) (s := { s' with toks := s'.toks + 1 }) (strKind_is _ _ _ _) rfl hS' (by omega) fun h' but grown => ?_
    have next : TxtSet prog w h' S xs (i + 1) := by
      refine SetOf_congr grown (fun y => ?_) rfl
      have et : xs.take (i + 1) = xs.take i ++ [xs.getD i Str.empty] := by
        rw [List.take_succ, List.getElem?_eq_getElem lt', List.getD_eq_getElem?_getD, List.getElem?_eq_getElem lt']; rfl
      rw [et, List.any_append]
      congr 1
      by_cases z : y = xs.getD i Str.empty
      · rw [z]; simp
      · have z' : (xs.getD i Str.empty == y) = false := by
          rw [beq_eq_false_iff_ne]; exact fun q => z q.symm
        simp only [List.any_cons, List.any_nil, z', Bool.or_false, decide_eq_false z]
    refine wpAny_pure ⟨plainId_quiet PyProof.Rows.F.plain_set_update_loop _, loopTxt W S off xs num few texts k (i + 1) _ (by omega) lt (W.frame _ s' _ _ st' (Nat.le_succ _) fun b hb o z => ?_) next fun s2 mv2 hS2 => ?_⟩
    · rw [but.2 b (fun q : b = S => off (by rw [← q]; exact hb))]; exact z
    · refine fin s2 (Moved.trans W.gtrans ((mv.mono fun b hb => List.mem_cons_of_mem _ hb).then_heap (Nat.le_succ _) fun b o hb z => ?_) mv2) hS2
      rw [but.2 b (fun q : b = S => hb (by rw [q]; exact List.mem_cons_self))]; exact z
end
section
variable {prog : Program} {w : World} {A : Around} {E : Value → Shared → Prop} {s : Shared}
def set0 (led : Bool) : Obj := { cls := .type "set", dict := none, data := .set #[] 0 (.fresh 0 0 led) }
theorem set_texts {l : Addr} {items : Array Value} {xs : List Str} {Q : Value → Shared → Prop} (free : A.handled = none) (isl : s.heap.IsList l items) (are : PyProof.Rows.StrsAre items.toList xs) (num : xs.length = items.size) (few : items.size + 1 < scanBound)
    (out : ∀ (h' : Heap) (tk : Nat), TxtSet prog w h' s.heap.objs.size xs items.size → (∀ b o, b < s.heap.objs.size → s.heap.get? b = some o → h'.get? b = some o) → Q (.ref s.heap.objs.size) { s with heap := h', toks := tk }) :
    wpAny (model prog w) A (call (.type "set") [.ref l]) Q E s := by
  obtain ⟨c, tl, mro⟩ := PySem.F.called_set.mro
  have made := PySem.F.called_set.made
  have subs := PySem.F.called_set.sub
  refine wpAny_call (codeAny_of_tree ?_)
  show wpAny _ _ (callAny (.type "set") _) _ _ _
  refine wpAny_pure ⟨Code.quiet_builtin _ (by decide +kernel), codeAny_builtin PySem.F.entry_type_call ?_⟩
  rw [Around.under_plain (weight_type_call_type "set" [.ref l] []) rfl]
  have f1 := PySem.F.called_set.notType
  have f2 := PySem.F.called_set.canCreate
  have f3 := PySem.F.typeCall_set_1 (.ref l)
  repeat (any_goals (first | assumption | wp_step))

  refine codeAny_mono (code_set_new_1 (.ref l) (E := E) (Q₁ := fun obj t => ∃ led : Bool, obj = .ref s.heap.objs.size ∧ t = { s with heap := s.heap.push (set0 led) }) fun led => ⟨led, rfl, rfl⟩) fun r t hr => ?_
  cases r with
  | error e => exact hr
  | ok fl =>
    cases fl with
    | ret obj =>
      obtain ⟨led, rfl, rfl⟩ := hr
      have at0 : (s.heap.push (set0 led)).get? s.heap.objs.size = some (set0 led) := Heap.get?_push_size _ rfl
      have ty : Shared.TypeIs { s with heap := s.heap.push (set0 led) } (.ref s.heap.objs.size) "set" := ⟨_, at0, rfl⟩
      have g1 := PySem.F.called_set.init.lookup
      have g2 := PySem.F.called_set.init.bind (.ref s.heap.objs.size)
      repeat (any_goals (first | assumption | wp_step))

      refine codeAny_mono (codeAny_call_builtin (R := wants (fun r u => r = .none ∧ ∃ h' tk, u = { s with heap := h', toks := tk } ∧ TxtSet prog w h' s.heap.objs.size xs items.size ∧ (∀ b o, b < s.heap.objs.size → s.heap.get? b = some o → h'.get? b = some o)) E) PySem.F.called_set.init.plain PySem.F.entry_set_init (check_set_init_1 ty ?_)) fun r2 u hr2 => ?_
      · obtain ⟨ol, hol, hcl, nl, hdl⟩ := isl
        obtain ⟨ocls, odict, odata, oslots⟩ := ol
        simp only at hcl hdl
        subst hcl hdl
        have at1 : (s.heap.push (set0 led)).get? l = some { cls := .type "list", dict := odict, data := .seq items nl, slots := oslots } := Heap.get?_push_of_some _ hol
        have n1 := PySem.F.sub_list_set
        have n2 := PySem.F.sub_list_frozenset
        have n3 : (Value.type "list" == Value.type "dict") = false := by decide
        have il : (s.heap.push (set0 led)).IsList l items := ⟨_, at1, rfl, nl, rfl⟩
        unfold Builtin.«set.__init__» noKeywords Builtin.Frozenset.updateFrom
        generalize hPI : pyIter = PI
        wp_walk
        subst hPI

        refine wpAny_pyIter_list il (wpAny_bind (wpAny_runValue ?_))
        have ls : l < s.heap.objs.size := Heap.lt_size hol
        have free3 : A.in1.in1.in1.handled = none := by simp [free]
        have ne1 : l ≠ (s.heap.push (set0 led)).objs.size := by
          rw [Heap.size_push]; exact Nat.ne_of_lt (Nat.lt_succ_of_lt ls)
        have off : s.heap.objs.size ∉ [(s.heap.push (set0 led)).objs.size, l] := by
          rw [Heap.size_push]
          simp only [List.mem_cons, List.not_mem_nil, or_false, not_or]
          exact ⟨Nat.ne_of_lt (Nat.lt_succ_self _), Nat.ne_of_gt ls⟩
        have texts : ∀ (i : Nat) (v : Value), items[i]? = some v → ∃ t, v = .str (xs.getD i Str.empty) t := fun i v hv => SS.strs_at are i v (by rw [Array.getElem?_toList]; exact hv)
        refine loopTxt ((Walks.list free3 _ l ne1 items).toS) s.heap.objs.size off xs num few texts (items.size - 0) 0 _ (by omega) (Nat.zero_le _) ⟨⟨_, Heap.get?_push_size _ rfl, rfl, rfl⟩, (il.push _)⟩ ?hS0 ?hR
        case hS0 =>
          have at2 : ((s.heap.push (set0 led)).push { cls := .type "list_iterator", data := .fields #[.ref l, .int 0 0] }).get? s.heap.objs.size = some (set0 led) := Heap.get?_push_of_some _ at0
          exact SetOf_congr ((setObjOf_fresh (knd := PySem.strKind prog w) led).setOf at2 (by unfold scanBound; omega)) (fun _ => rfl) rfl
        case hR =>
          rintro ⟨h', g', d', tk', os'⟩ mv hS'
          cases (show g' = s.gens from mv.gens)
          cases (show d' = s.drawn from mv.drawn)
          cases (show os' = s.os from mv.os)
          show wpAny _ _ _ _ _ _
          refine wpAny_pure ?_
          show wpAny _ _ (ret Value.none) _ _ _
          refine wpAny_pure ⟨rfl, h', tk', rfl, hS', fun b o hb z => mv.heap b o ?_ (Heap.get?_push_of_some _ (Heap.get?_push_of_some _ z))⟩
          simp only [List.mem_cons, List.not_mem_nil, or_false, not_or]
          exact ⟨Nat.ne_of_lt hb, by rw [Heap.size_push]; exact Nat.ne_of_lt (Nat.lt_succ_of_lt hb)⟩
      · cases r2 with
        | error e => exact hr2
        | ok fl2 =>
          cases fl2 with
          | ret r =>
            obtain ⟨rfl, h', tk, rfl, hS', kept⟩ := hr2
            repeat (any_goals (first | assumption | wp_step))
            exact out _ _ hS' kept
          | _ => exact hr2.elim
    | _ => exact hr.elim
end
end DL

/-! DL16: len(set(xs)) of texts, over data -/
namespace DL
open PySem L2
def gLenSet : D → Option D
  | .list ds => match strsOf ds with
    | some ys => if ys.length ≤ 4000 then some (.int (met ys ys.length)) else none
    | none => none
  | _ => none
section
variable {X : Cx} {c : DC} {E : XK} {a : Expr} {p p2 q pos : Pos} {fa : En → Re (D × En)}
theorem pe_lenSetTxt {ta : TE} (hc : X.calm = true) (hg : Gl X "len") (hm : X.mg "len" = none) (hg2 : Gl X "set") (hm2 : X.mg "set" = none) (ha : PE X a ta) (na : starEach [a] X.env = (false, eval a X.env) :: starEach [] X.env := by rfl) :
    PE X (.Call (.Name "len" p) [.Call (.Name "set" p2) [a] [] q] [] pos) (fun σ H Q => ta σ H fun x H1 => ∃ (l : Addr) (xs : List Str), x = .ref l ∧ SqL X.K H1 l (xs.map V.str) ∧ xs.length ≤ 4000 ∧ Q (.int (met xs xs.length)) H1) where
  run := fun pins s σ H Q I h => by
    refine PyProof.Rows.Call_ (ld_blt I hg hm boot_len (PyProof.Rows.callWith_builtin1 (PyProof.Rows.args_cons ?_ rfl) rfl rfl))
    refine PyProof.Rows.Call_ (ld_blt I hg2 hm2 PyProof.Rows.boot_set ?_)
    refine PyProof.Rows.callWith_type1 (PyProof.Rows.args_cons (thn (ha.run pins s σ H _ I h) fun v s1 ⟨x, H1, I1, r1, q1⟩ => PyProof.Rows.args_nil ?_) na) na rfl
    obtain ⟨l, xs, rfl, sq, few, q1⟩ := q1
    cases r1
    obtain ⟨its, r, pl, _⟩ := I1.list sq
    have num : its.toArray.size = xs.length := by rw [List.size_toArray, ← r.length, List.length_map]
    refine set_texts (I1.ok.hd hc) pl.isList (xs := xs) (by simpa using strsAre_of r) num.symm (by unfold PySem.scanBound; omega) fun h' tk hS kept => PyProof.Rows.args_nil ?_
    rw [num] at hS
    obtain ⟨o, es, ep, t, ho, hex, hd, _, _, _, hf, hn⟩ := hS
    have I2 : Inv X pins σ H1 { s1 with heap := h', toks := tk } := I1.kept fun b o z => kept b o (Heap.lt_size z) z
    have small := met_le xs xs.length
    exact call_len_set ho hex hd hf (by rw [hn]; omega) ⟨.int (met xs xs.length), H1, I2.tok _, ⟨_, by rw [hn]⟩, q1⟩
theorem e_lenSet (hm : X.mg "len" = none) (hm2 : X.mg "set" = none) (ha : PE X a (tD c E fa)) (hc : X.calm = true := by rfl) (hK : c.K = X.K := by rfl) (hg : Gl X "len" := by rfl) (hg2 : Gl X "set" := by rfl) (na : starEach [a] X.env = (false, eval a X.env) :: starEach [] X.env := by rfl) :
    PE X (.Call (.Name "len" p) [.Call (.Name "set" p2) [a] [] q] [] pos) (tD c E (eUn gLenSet fa)) := PE.imp (pe_lenSetTxt hc hg hm hg2 hm2 ha na) fun σ H Q ⟨Hs, G, δ, S, q⟩ =>
  ⟨Hs, G, δ, S, PoG.seq q fun d δ1 Hs1 H1 s1 q1 v S1 r1 => by
    obtain ⟨d2, hd, q3⟩ := PoG.last (k := fun d => (d, δ1)) q1
    unfold gLenSet at hd
    cases r1 with
    | @lst l vs ds h1 h2 =>
      simp only at hd
      cases hy : strsOf ds with
      | none => rw [hy] at hd; cases hd
      | some ys =>
        rw [hy] at hd
        simp only at hd
        split at hd
        · rename_i few
          cases hd
          have e := rpa_strsOf h2 hy
          subst e
          exact ⟨l, ys, rfl, by rw [← hK]; exact same_l S1.sh h1, few, q3 Hs1 H1 (Same.refl _) _ S1 (.int _)⟩
        · cases hd
    | _ => cases hd⟩
end
end DL

/-! EV3: equations for simp: sets of texts, repr, upper, [::-1] -/
namespace DL
open PySem L2
@[simp] theorem pUnF_ap (g : D → Option (List D)) (fa : En → Re D) (δ : En) : pUnF g fa δ = (fa δ).bd fun p => opt (g p) := (rfl)
@[simp] theorem eUnF_ap (g : D → Option (List D)) (fa : En → Re (D × En)) (δ : En) : eUnF g fa δ = (fa δ).bd fun p => (opt (g p.1)).bd fun d => .ok (d, p.2) := (rfl)
@[simp] theorem gRevL_l (ds : List D) : gRevL (.list ds) = some ds.reverse := (rfl)
theorem gUpper_s {a : Str} (h : a.length ≤ 1000000) : gUpper (.str a) = some (.str (Txt.upper a)) := if_pos h
theorem gRepr_ok {d : D} (h : rpOk d = true) : gRepr [d] = some (.str d.shown) := if_pos h
theorem gLenSet_strs {ys : List Str} (h : ys.length ≤ 4000) : gLenSet (.list (ys.map .str)) = some (.int (met ys ys.length)) := by
  simp only [gLenSet, strsOf_map]
  exact if_pos h
/-- all different: exactly if as many as there are -/
theorem met_full (xs : List Str) : ∀ i, i ≤ xs.length → (met xs i = i ↔ (xs.take i).Nodup)
  | 0, _ => by simp [met]
  | i + 1, h => by
    have ih := met_full xs i (by omega)
    have le := met_le xs i
    have lt : i < xs.length := by omega
    have et : xs.take (i + 1) = xs.take i ++ [xs[i]] := by rw [List.take_succ, List.getElem?_eq_getElem lt]; rfl
    have eg : xs.getD i Str.empty = xs[i] := by rw [List.getD_eq_getElem?_getD, List.getElem?_eq_getElem lt]; rfl
    unfold met
    rw [et, List.nodup_append, eg]
    have any_iff : (xs.take i).any (· == xs[i]) = true ↔ xs[i] ∈ xs.take i := by
      rw [List.any_eq_true]
      exact ⟨fun ⟨x, hx, e⟩ => (beq_iff_eq.mp e) ▸ hx, fun h => ⟨_, h, by simp⟩⟩
    by_cases c : (xs.take i).any (· == xs[i]) = true
    · rw [if_pos c]
      refine ⟨fun e => by omega, fun ⟨_, _, z⟩ => absurd rfl (z _ (any_iff.mp c) _ (List.mem_singleton_self _))⟩
    · rw [if_neg c]
      refine ⟨fun e => ⟨ih.mp (by omega), by simp, fun a ha b hb e => ?_⟩, fun ⟨z, _, _⟩ => by rw [ih.mpr z]⟩
      rw [List.mem_singleton] at hb
      subst hb e
      exact c (any_iff.mpr ha)
end DL

/-! TD: tame data (depth, weight, texts of true signs, numbers of few digits): repr, ==, in need it -/
namespace DL
open PySem L2
structure Td (k w : Nat) (d : D) : Prop where
  can : d.canLay0 = true
  shw : d.showable = true
  lvs : d.leavesShort 80 = true
  dep : d.depth ≤ k
  wgt : d.weight ≤ w
theorem Td.mono {k w k' w' : Nat} {d : D} (h : Td k w d) (hk : k ≤ k') (hw : w ≤ w') : Td k' w' d := ⟨h.can, h.shw, h.lvs, Nat.le_trans h.dep hk, Nat.le_trans h.wgt hw⟩
structure TdA (k w : Nat) (xs : List D) : Prop where
  can : PyData.canLayAll0 xs = true
  shw : PyData.showableAll xs = true
  lvs : PyData.leavesShortAll 80 xs = true
  dep : PyData.depthAll xs ≤ k
  wgt : PyData.weightAll xs ≤ xs.length * (w + 1)
theorem tdA {k w : Nat} : ∀ {xs : List D}, (∀ x ∈ xs, Td k w x) → TdA k w xs
  | [], _ => ⟨rfl, rfl, rfl, Nat.zero_le _, Nat.zero_le _⟩
  | x :: xs, h => by
    have h1 := h x (List.mem_cons_self ..)
    have h2 := tdA (xs := xs) fun y hy => h y (List.mem_cons_of_mem _ hy)
    refine ⟨?_, ?_, ?_, ?_, ?_⟩
    · simp only [PyData.canLayAll0, h1.can, h2.can, Bool.and_self]
    · simp only [PyData.showableAll, h1.shw, h2.shw, Bool.and_self]
    · simp only [PyData.leavesShortAll, h1.lvs, h2.lvs, Bool.and_self]
    · simp only [PyData.depthAll]; exact Nat.max_le.mpr ⟨h1.dep, h2.dep⟩
    · simp only [PyData.weightAll, List.length_cons]
      have := h1.wgt
      have := h2.wgt
      rw [Nat.add_mul]; omega
theorem td_list {k w n : Nat} {xs : List D} (h : ∀ x ∈ xs, Td k w x) (hl : xs.length ≤ n) : Td (k + 1) (n * (w + 1)) (.list xs) := by
  have a := tdA h
  refine ⟨by simp only [PyData.canLay0, a.can], by simp only [PyData.showable, a.shw], by simp only [PyData.leavesShort, a.lvs], by simp only [PyData.depth]; exact Nat.succ_le_succ a.dep, ?_⟩
  simp only [PyData.weight]
  exact Nat.le_trans a.wgt (Nat.mul_le_mul_right _ hl)
theorem td_tuple {k w n : Nat} {xs : List D} (h : ∀ x ∈ xs, Td k w x) (hl : xs.length ≤ n) : Td (k + 1) (n * (w + 1)) (.tuple xs) := by
  have a := tdA h
  refine ⟨by simp only [PyData.canLay0, a.can], by simp only [PyData.showable, a.shw], by simp only [PyData.leavesShort, a.lvs], by simp only [PyData.depth]; exact Nat.succ_le_succ a.dep, ?_⟩
  simp only [PyData.weight]
  exact Nat.le_trans a.wgt (Nat.mul_le_mul_right _ hl)
theorem td_none (k w : Nat) : Td k w .none := ⟨rfl, rfl, rfl, Nat.zero_le _, Nat.zero_le _⟩
theorem td_bool (k w : Nat) (b : Bool) : Td k w (.bool b) := ⟨rfl, rfl, rfl, Nat.zero_le _, Nat.zero_le _⟩
theorem td_str {w : Nat} {x : Str} (k : Nat) (h : x.length ≤ w) (c : ∀ s ∈ x.cps.toList, s < 1114112) : Td k w (.str x) := by
  refine ⟨?_, rfl, ?_, Nat.zero_le _, h⟩
  · show x.cps.all (· < 0x110000) = true
    rw [Array.all_eq_true']
    intro s hs
    exact decide_eq_true (c s (Array.mem_toList_iff.mpr hs))
  · show (x.cps.toList.all fun c => decide (c < 16 ^ 8)) = true
    rw [List.all_eq_true]
    intro s hs
    have := c s hs
    exact decide_eq_true (by omega)
theorem td_int {i : Int} (k : Nat) (h : i.natAbs < 10 ^ 60) : Td k 200 (.int i) := by
  have hl : i.natAbs.log2 < 200 := by
    by_cases z : i.natAbs = 0
    · rw [z]; decide
    · exact (Nat.log2_lt z).mpr (Nat.lt_of_lt_of_le h (by decide +kernel))
  refine ⟨rfl, ?_, ?_, Nat.zero_le _, ?_⟩
  · simp only [PyData.showable]; exact decide_eq_true (by omega)
  · simp only [PyData.leavesShort, PyData.shown]
    have := int_text_length_le10 (a := i) (k := 60) (by decide) h
    refine decide_eq_true ?_
    show (Str.ofString (toString i)).length ≤ 80
    rw [ofString_length]; omega
  · simp only [PyData.weight]
    split
    · exact Nat.zero_le _
    · omega
theorem Td.rp {k w : Nat} {d : D} (h : Td k w d) (hk : k ≤ 60) (hw : w ≤ 190000) : rpOk d = true := by
  unfold rpOk
  have a := PyData.shown_le 80 (by decide) d h.lvs
  have b := h.wgt
  have c := h.dep
  rw [h.shw, PyData.hasDict_of_canLay d h.can]
  simp only [Bool.not_false, Bool.and_self, Bool.true_and, Bool.and_eq_true, decide_eq_true_eq]
  omega
theorem Td.shaped {k w : Nat} {d : D} (h : Td k w d) (hk : k ≤ 60) : SeqAt.shaped d = true := by
  unfold SeqAt.shaped
  have := h.dep
  rw [h.can, Bool.true_and]
  exact decide_eq_true (by omega)
theorem tdA_mem {k w : Nat} : ∀ {xs : List D}, PyData.canLayAll0 xs = true → PyData.showableAll xs = true → PyData.leavesShortAll 80 xs = true → PyData.depthAll xs ≤ k → PyData.weightAll xs ≤ w → ∀ x ∈ xs, Td k w x
  | [], _, _, _, _, _, x, hx => by cases hx
  | y :: xs, h1, h2, h3, h4, h5, x, hx => by
    simp only [PyData.canLayAll0, Bool.and_eq_true] at h1
    simp only [PyData.showableAll, Bool.and_eq_true] at h2
    simp only [PyData.leavesShortAll, Bool.and_eq_true] at h3
    simp only [PyData.depthAll] at h4
    simp only [PyData.weightAll] at h5
    rcases List.mem_cons.mp hx with e | e
    · subst e; exact ⟨h1.1, h2.1, h3.1, by omega, by omega⟩
    · exact tdA_mem h1.2 h2.2 h3.2 (by omega) (by omega) x e
theorem weightAll_len : ∀ xs : List D, xs.length ≤ PyData.weightAll xs
  | [] => Nat.le_refl _
  | x :: xs => by
    have := weightAll_len xs
    simp only [PyData.weightAll, List.length_cons]; omega
theorem Td.list {k w : Nat} {xs : List D} (h : Td k w (.list xs)) : (∀ x ∈ xs, Td k w x) ∧ xs.length ≤ w := by
  obtain ⟨h1, h2, h3, h4, h5⟩ := h
  simp only [PyData.canLay0] at h1
  simp only [PyData.showable] at h2
  simp only [PyData.leavesShort] at h3
  simp only [PyData.depth] at h4
  simp only [PyData.weight] at h5
  exact ⟨tdA_mem h1 h2 h3 (by omega) h5, Nat.le_trans (weightAll_len xs) h5⟩
theorem Td.tuple {k w : Nat} {xs : List D} (h : Td k w (.tuple xs)) : (∀ x ∈ xs, Td k w x) ∧ xs.length ≤ w := by
  obtain ⟨h1, h2, h3, h4, h5⟩ := h
  simp only [PyData.canLay0] at h1
  simp only [PyData.showable] at h2
  simp only [PyData.leavesShort] at h3
  simp only [PyData.depth] at h4
  simp only [PyData.weight] at h5
  exact ⟨tdA_mem h1 h2 h3 (by omega) h5, Nat.le_trans (weightAll_len xs) h5⟩
theorem Td.str {k w : Nat} {x : Str} (h : Td k w (.str x)) : x.length ≤ w ∧ (PyData.str x).canLay0 = true := ⟨h.wgt, h.can⟩
theorem Td.gRepr {k w : Nat} {d : D} (h : Td k w d) (hk : k ≤ 60 := by omega) (hw : w ≤ 190000 := by omega) : gRepr [d] = some (.str d.shown) := gRepr_ok (h.rp hk hw)
/-- one of the entries -/
theorem Wr_at {β : Type} {xs : List D} {r : Nat} {P : D → Prop} {K : D → Re β} {Q : β → Prop} (h : r < xs.length) (a : ∀ x ∈ xs, P x) (k : ∀ x, P x → Wr (K x) Q) : Wr ((opt xs[r]?).bd K) Q := by
  rw [List.getElem?_eq_getElem h]
  exact k _ (a _ (List.getElem_mem h))
theorem any_at {xs : List D} {r : Nat} {P : D → Prop} (h : r < xs.length) (a : ∀ x ∈ xs, P x) : ∃ x, xs[r]? = some x ∧ P x := ⟨_, List.getElem?_eq_getElem h, a _ (List.getElem_mem h)⟩
def tdb (k w : Nat) (d : D) : Bool := d.canLay0 && d.showable && d.leavesShort 80 && decide (d.depth ≤ k) && decide (d.weight ≤ w)
theorem td0 {k w : Nat} {d : D} (h : tdb k w d = true) : Td k w d := by
  unfold tdb at h
  simp only [Bool.and_eq_true, decide_eq_true_eq] at h
  exact ⟨h.1.1.1.1, h.1.1.1.2, h.1.1.2, h.1.2, h.2⟩
theorem td0s {k w : Nat} {xs : List D} (h : xs.all (tdb k w) = true) : ∀ x ∈ xs, Td k w x := fun x hx => td0 (List.all_eq_true.mp h x hx)
theorem Wr_add {A B : List D} {P : D → Prop} {Q : D → Prop} (h : A.length + B.length ≤ 1000000) (a : ∀ x ∈ A, P x) (b : ∀ x ∈ B, P x) (k : ∀ C : List D, C.length = A.length + B.length → (∀ x ∈ C, P x) → Q (.list C)) : Wr (opt (gAdd (.list A) (.list B))) Q := by
  rw [gAdd_list h, opt_some, Wr_ok]
  refine k _ (by simp) fun x hx => ?_
  rcases List.mem_append.mp hx with z | z
  · exact a x z
  · exact b x z
theorem Wr_ix {A : List D} {r : Nat} {P : D → Prop} {Q : D → Prop} (h : r < A.length) (a : ∀ x ∈ A, P x) (k : ∀ x : D, P x → Q x) : Wr (opt (gIx (.list A) (.int (r : Int)))) Q := by
  rw [gIx_list, atI_k, List.getElem?_eq_getElem h, opt_some, Wr_ok]
  exact k _ (a _ (List.getElem_mem h))
theorem Wr_ix' {A : List D} {r : Nat} {P : D → Prop} {Q : D → Prop} (h : r < A.length) (a : ∀ x ∈ A, P x) (k : ∀ x : D, P x → Q x) : Wr (opt A[r]?) Q := by
  rw [List.getElem?_eq_getElem h, opt_some, Wr_ok]
  exact k _ (a _ (List.getElem_mem h))
theorem add_all {A B : List D} {P : D → Prop} {n m : Nat} (hA : ∀ x ∈ A, P x) (hB : ∀ x ∈ B, P x) (lA : A.length ≤ n) (lB : B.length ≤ m) (h : n + m ≤ 1000000 := by omega) : ∃ C, gAdd (.list A) (.list B) = some (.list C) ∧ (∀ x ∈ C, P x) ∧ C.length ≤ n + m :=
  ⟨A ++ B, gAdd_list (by omega), fun x hx => (List.mem_append.mp hx).elim (hA x) (hB x), by rw [List.length_append]; omega⟩
theorem app_cps (x y : Str) : (x ++ y).cps = x.cps ++ y.cps := rfl
theorem app_len (x y : Str) : (x ++ y).length = x.length + y.length := by
  show (x.cps ++ y.cps).size = _
  rw [Array.size_append]; rfl
theorem txt_join_fold (a x : Str) (r : List Str) : Txt.join a (x :: r) = r.foldl (fun p w => p ++ a ++ w) x := by
  show (⟨r.foldl (fun acc p => acc ++ a.cps ++ p.cps) x.cps⟩ : Str) = _
  induction r generalizing x with
  | nil => rfl
  | cons w r ih =>
    rw [List.foldl_cons, List.foldl_cons, ← ih]; rfl
theorem fold_bound {a : Str} {m : Nat} (la : a.length ≤ 1) : ∀ (r : List Str) (x : Str), (∀ w ∈ r, w.length ≤ m) → (r.foldl (fun p w => p ++ a ++ w) x).length ≤ x.length + r.length * (m + 1)
  | [], x, _ => by simp
  | w :: r, x, h => by
    have ih := fold_bound la r (x ++ a ++ w) fun y hy => h y (List.mem_cons_of_mem _ hy)
    have hw := h w (List.mem_cons_self ..)
    rw [app_len, app_len] at ih
    rw [List.foldl_cons, List.length_cons, Nat.add_mul]
    omega
theorem fold_signs {a : Str} {P : Nat → Prop} (ha : ∀ k ∈ a.cps.toList, P k) : ∀ (r : List Str) (x : Str), (∀ k ∈ x.cps.toList, P k) → (∀ w ∈ r, ∀ k ∈ w.cps.toList, P k) → ∀ k ∈ (r.foldl (fun p w => p ++ a ++ w) x).cps.toList, P k
  | [], x, hx, _ => hx
  | w :: r, x, hx, h => by
    rw [List.foldl_cons]
    refine fold_signs ha r _ (fun k hk => ?_) fun y hy => h y (List.mem_cons_of_mem _ hy)
    rw [app_cps, app_cps, Array.toList_append, Array.toList_append, List.mem_append, List.mem_append] at hk
    rcases hk with (z | z) | z
    · exact hx k z
    · exact ha k z
    · exact h w (List.mem_cons_self ..) k z
theorem join_len {a : Str} {m : Nat} (la : a.length ≤ 1) (ys : List Str) (h : ∀ w ∈ ys, w.length ≤ m) : (Txt.join a ys).length ≤ ys.length * (m + 1) := by
  cases ys with
  | nil => exact Nat.zero_le _
  | cons x r =>
    rw [txt_join_fold]
    have := fold_bound la r x fun w hw => h w (List.mem_cons_of_mem _ hw)
    have := h x (List.mem_cons_self ..)
    rw [List.length_cons, Nat.add_mul]; omega
theorem join_signs {a : Str} {P : Nat → Prop} (ha : ∀ k ∈ a.cps.toList, P k) (ys : List Str) (h : ∀ w ∈ ys, ∀ k ∈ w.cps.toList, P k) : ∀ k ∈ (Txt.join a ys).cps.toList, P k := by
  cases ys with
  | nil => intro k hk; cases hk
  | cons x r =>
    rw [txt_join_fold]
    exact fold_signs ha r x (h x (List.mem_cons_self ..)) fun w hw => h w (List.mem_cons_of_mem _ hw)
theorem sum_len {m : Nat} : ∀ l : List Str, (∀ w ∈ l, w.length ≤ m) → (l.map (·.length)).sum ≤ m * l.length
  | [], _ => by simp
  | a :: l, h => by
    have := sum_len l fun w hw => h w (List.mem_cons_of_mem _ hw)
    have := h a (List.mem_cons_self ..)
    simp only [List.map_cons, List.sum_cons, List.length_cons, Nat.mul_add]
    omega
theorem join_td {a : Str} {m n : Nat} (la : a.length ≤ 1) (ha : ∀ k ∈ a.cps.toList, k < 1114112) (ys : List Str) (h : ∀ w ∈ ys, w.length ≤ m) (h2 : ∀ w ∈ ys, ∀ k ∈ w.cps.toList, k < 1114112) (hn : ys.length ≤ n) (hm : n * (m + 1) ≤ 1000000) :
    gJoin a (.list (ys.map .str)) = some (.str (Txt.join a ys)) ∧ Td 0 (n * (m + 1)) (.str (Txt.join a ys)) := by
  have q : ys.length * (m + 1) ≤ n * (m + 1) := Nat.mul_le_mul_right _ hn
  refine ⟨gJoin_strs _ _ ?_, td_str 0 (Nat.le_trans (join_len la ys h) q) (join_signs ha ys h2)⟩
  have e := sum_len ys h
  have e2 : m * ys.length = ys.length * m := Nat.mul_comm ..
  have e3 : ys.length * a.length ≤ ys.length * 1 := Nat.mul_le_mul_left _ la
  rw [Nat.mul_add] at q
  omega
/-! weights -/
theorem Td.wt {k w w' : Nat} {d : D} (h : Td k w d) (e : d.weight ≤ w') : Td k w' d := ⟨h.can, h.shw, h.lvs, h.dep, e⟩
theorem tdl {k w : Nat} {xs : List D} (h : ∀ x ∈ xs, Td k w x) : Td (k + 1) (PyData.weightAll xs) (.list xs) := (td_list h (Nat.le_refl _)).wt (by simp only [PyData.weight]; exact Nat.le_refl _)
theorem tdt {k w : Nat} {xs : List D} (h : ∀ x ∈ xs, Td k w x) : Td (k + 1) (PyData.weightAll xs) (.tuple xs) := (td_tuple h (Nat.le_refl _)).wt (by simp only [PyData.weight]; exact Nat.le_refl _)
theorem wA_app : ∀ xs ys : List D, PyData.weightAll (xs ++ ys) = PyData.weightAll xs + PyData.weightAll ys
  | [], ys => by simp [PyData.weightAll]
  | x :: xs, ys => by
    rw [List.cons_append]
    simp only [PyData.weightAll, wA_app xs ys]; omega
theorem wA_take (xs : List D) (k : Nat) : PyData.weightAll (xs.take k) ≤ PyData.weightAll xs := by
  have := wA_app (xs.take k) (xs.drop k)
  rw [List.take_append_drop] at this; omega
theorem wA_drop (xs : List D) (k : Nat) : PyData.weightAll (xs.drop k) ≤ PyData.weightAll xs := by
  have := wA_app (xs.take k) (xs.drop k)
  rw [List.take_append_drop] at this; omega
theorem wA_td (xs : List D) (k : Nat) : PyData.weightAll (xs.take k) + PyData.weightAll (xs.drop k) = PyData.weightAll xs := by
  have := wA_app (xs.take k) (xs.drop k)
  rw [List.take_append_drop] at this; omega
theorem wA_one (x : D) : PyData.weightAll [x] = x.weight + 1 := by simp [PyData.weightAll]
theorem wA_rev : ∀ xs : List D, PyData.weightAll xs.reverse = PyData.weightAll xs
  | [] => rfl
  | x :: xs => by
    rw [List.reverse_cons, wA_app, wA_rev xs, wA_one]
    simp only [PyData.weightAll]; omega
theorem wA_set : ∀ (xs : List D) (k : Nat) (y : D), PyData.weightAll (xs.set k y) ≤ PyData.weightAll xs + y.weight
  | [], k, y => by simp [PyData.weightAll]
  | x :: xs, 0, y => by simp only [List.set_cons_zero, PyData.weightAll]; omega
  | x :: xs, k + 1, y => by
    have := wA_set xs k y
    simp only [List.set_cons_succ, PyData.weightAll]; omega
theorem wA_mul {k w n : Nat} {xs : List D} (h : ∀ x ∈ xs, Td k w x) (hl : xs.length ≤ n) : PyData.weightAll xs ≤ n * (w + 1) := Nat.le_trans (tdA h).wgt (Nat.mul_le_mul_right _ hl)
theorem wA_mem : ∀ {xs : List D} {x : D}, x ∈ xs → x.weight + 1 ≤ PyData.weightAll xs
  | y :: xs, x, h => by
    simp only [PyData.weightAll]
    rcases List.mem_cons.mp h with e | e
    · subst e; omega
    · have := wA_mem e; omega
theorem td_nat {n : Nat} (k : Nat) {b : Nat} (h : n < 2 ^ b) (hb : b ≤ 60) : Td k b (.int (n : Int)) := by
  refine (td_int k (i := (n : Int)) ?_).wt ?_
  · have : (2 : Nat) ^ b ≤ 2 ^ 60 := Nat.pow_le_pow_right (by decide) hb
    have e : (2 : Nat) ^ 60 < 10 ^ 60 := by decide +kernel
    show n < 10 ^ 60
    omega
  · simp only [PyData.weight]
    split
    · omega
    · rename_i z
      have : n ≠ 0 := fun e => z (by subst e; rfl)
      have : n.log2 < b := (Nat.log2_lt this).mpr h
      show n.log2 + 1 ≤ b
      omega
theorem Wr_addW {A B : List D} {k w1 w2 w : Nat} {Q : D → Prop} (h : A.length + B.length ≤ 1000000) (a : ∀ x ∈ A, Td k w1 x) (b : ∀ x ∈ B, Td k w2 x) (e1 : w1 ≤ w) (e2 : w2 ≤ w)
    (K : ∀ C : List D, C.length = A.length + B.length → (∀ x ∈ C, Td k w x) → PyData.weightAll C ≤ A.length * (w1 + 1) + B.length * (w2 + 1) → Q (.list C)) : Wr (opt (gAdd (.list A) (.list B))) Q := by
  rw [gAdd_list h, opt_some, Wr_ok]
  refine K _ (by simp) (fun x hx => ?_) ?_
  · rcases List.mem_append.mp hx with z | z
    · exact (a x z).mono (Nat.le_refl _) e1
    · exact (b x z).mono (Nat.le_refl _) e2
  · rw [wA_app]
    exact Nat.add_le_add (wA_mul a (Nat.le_refl _)) (wA_mul b (Nat.le_refl _))
theorem Wr_forI {g : D → En → Option En} {F : En → Re Fl} {Q : Fl → Prop} {l : List D} {δ : En} (I : Nat → En → Prop) (h0 : I 0 δ)
    (hs : ∀ i a δ, l[i]? = some a → I i δ → Wr (opt (g a δ)) fun δ1 => Wr (F δ1) (InL (I (i + 1)) Q)) (hq : ∀ δ, I l.length δ → Q (.nx δ)) : Wr (forL g F l δ) Q := by
  have := Wr_for0 (f := fun x : D => x) (g := g) (F := F) (Q := Q) (l := l) I h0 hs hq
  rwa [List.map_id'] at this
end DL

/-! EV4: equations for simp: lists of owned lists-/
namespace DL
open PySem L2
@[simp] theorem tw2_ow2 (dss : List (List D)) : tw2 (some (.ow2 dss)) = .ok dss := (rfl)
@[simp] theorem eRw_ap (f : En → Re (List D × En)) (δ : En) : eRw f δ = (f δ).bd fun p => (opt (rowsOf p.1)).bd fun dss => .ok (dss, p.2) := (rfl)
@[simp] theorem owS2_ap (i : Nat) (f : En → Re (List (List D) × En)) (δ : En) : owS2 i f δ = (f δ).bd fun p => .ok (.nx (p.2.set i (.ow2 p.1))) := (rfl)
@[simp] theorem eMu2_ap (i : Nat) (m : List D → List D → Option (List D × D)) (fi : En → Re D) (fr : En → Re (List D)) (δ : En) : eMu2 i m fi fr δ = (tw2 δ[i]?).bd fun dss => nb ((fi δ).bd intOf) fun k =>
    (opt (ixN dss.length k)).bd fun j => nb (fr (lendA [] 0 δ)) fun es => (opt (dss[j]?)).bd fun ds => (opt (m ds es)).bd fun z => .ok (z.2, δ.set i (.ow2 (dss.set j z.1))) := by
  unfold eMu2
  rw [lend_A]
  cases tw2 δ[i]? with
  | ok dss =>
    simp only [Re.bd_ok]
    cases fi δ with
    | ok x => cases x <;> rfl
    | _ => rfl
  | _ => rfl
@[simp] theorem lend1_o2 (is : List Nat) (i : Nat) (ds : List (List D)) : lend1 is i (.ow2 ds) = if i ∈ is then .sh (.list (ds.map .list)) else .no := (rfl)
@[simp] theorem lend1_d (is : List Nat) (i : Nat) (k : List (Key × D)) : lend1 is i (.dk k) = .no := (rfl)
@[simp] theorem fzE_ow2 {δ : En} {i : Nat} {ds : List (List D)} (h : δ[i]? = some (.ow2 ds)) : fzE i δ = δ.set i (.sh (.list (ds.map .list))) := by unfold fzE; rw [h]
def borRF : Re (List D) → Re (List D)
  | .ok ds => if ds.all scal then .ok ds else .bad
  | _ => .bad
@[simp] theorem borRF_ok (ds : List D) : borRF (.ok ds) = if ds.all scal then .ok ds else .bad := (rfl)
@[simp] theorem borF_ap (is : List Nat) (f : En → Re (List D)) (δ : En) : borF is f δ = borRF (f (lendA is 0 δ)) := by
  unfold borF borRF; rw [lend_A]; try (cases f (lendA is 0 δ) <;> rfl)
end DL

/-! EV5: equations for simp: results that are lists of new lists, defs that change any argument -/
namespace DL
open PySem L2
@[simp] theorem rf2S_ap (fr : En → Re (List (List D) × En)) (δ : En) : rf2S fr δ = (fr δ).bd fun p => .ok (.rf2 p.1 p.2) := (rfl)
@[simp] theorem ro2S_ap (i : Nat) (δ : En) : ro2S i δ = (tw2 δ[i]?).bd fun dss => .ok (.rf2 dss (δ.set i .no)) := (rfl)
def resPF2 : Re Fl → Re (List (List D))
  | .er e => .er e
  | .ok (.rf2 d _) => .ok d
  | _ => .bad
@[simp] theorem resPF2_er (e : Er) : resPF2 (.er e) = .er e := (rfl)
@[simp] theorem resPF2_f (d : List (List D)) (δ : En) : resPF2 (.ok (.rf2 d δ)) = .ok d := (rfl)
theorem dfPF2_eq (np n : Nat) (F : En → Re Fl) (ds : List D) : dfPF2 np n F ds = if ds.length = np then resPF2 (F (en0 n ds)) else .bad := by
  unfold dfPF2 resPF2
  cases F (en0 n ds) with
  | ok fl => cases fl <;> rfl
  | _ => rfl
theorem Wr_PF2 {np n : Nat} {F : En → Re Fl} {ds : List D} {Q : List (List D) → Prop} (hl : ds.length = np) (h : Wr (F (en0 n ds)) fun fl => match fl with
    | .rf2 d _ => Q d
    | _ => False) : Wr (dfPF2 np n F ds) Q := by
  rw [dfPF2_eq, if_pos hl]
  obtain ⟨fl, e, q⟩ := h
  rw [e]
  cases fl with
  | rf2 d δ => exact ⟨d, rfl, q⟩
  | _ => exact q.elim
def bor2R : Re (List (List D)) → Re (List (List D))
  | .ok dss => if dss.all fun ds => ds.all scal then .ok dss else .bad
  | _ => .bad
@[simp] theorem bor2R_ok (dss : List (List D)) : bor2R (.ok dss) = if dss.all fun ds => ds.all scal then .ok dss else .bad := (rfl)
@[simp] theorem bor2_ap (is : List Nat) (f : En → Re (List (List D))) (δ : En) : bor2 is f δ = bor2R (f (lendA is 0 δ)) := by
  unfold bor2 bor2R; rw [lend_A]; try (cases f (lendA is 0 δ) <;> rfl)
def borTR : Re Bool → Re Bool
  | .ok b => .ok b
  | _ => .bad
@[simp] theorem borTR_ok (b : Bool) : borTR (.ok b) = .ok b := (rfl)
@[simp] theorem borT_ap (is : List Nat) (f : En → Re Bool) (δ : En) : borT is f δ = borTR (f (lendA is 0 δ)) := by
  unfold borT borTR; rw [lend_A]; try (cases f (lendA is 0 δ) <;> rfl)
@[simp] theorem pFz2_ap (f : En → Re (List (List D))) (δ : En) : pFz2 f δ = (f δ).bd fun d => .ok (.list (d.map .list)) := (rfl)
@[simp] theorem fz2_ap (f : En → Re (List (List D) × En)) (δ : En) : fz2 f δ = (f δ).bd fun p => .ok (.list (p.1.map .list), p.2) := (rfl)
@[simp] theorem eCx_ap {α : Type} (sh : List (Option Nat)) (F : En → Re (α × En)) (fr : En → Re (List D × En)) (δ : En) : eCx sh F fr δ = (fr δ).bd fun p => if p.1.length = sh.length ∧ owA sh p.2 = true then nb (F (arX sh p.1 p.2)) fun q => if q.2.length = sh.length then .ok (q.1, putX sh q.2 p.2) else .bad else .bad := (rfl)
@[simp] theorem eXo_ap (i : Nat) (fr : En → Re (List D × En)) (δ : En) : eXo i fr δ = if ownd δ[i]? = true then (fr δ).bd fun p => .ok (.none :: p.1, p.2) else .bad := (rfl)
@[simp] theorem ownd_ow (ds : List D) : ownd (some (.ow ds)) = true := (rfl)
@[simp] theorem ownd_ow2 (ds : List (List D)) : ownd (some (.ow2 ds)) = true := (rfl)
@[simp] theorem ownd_dk (ds : List (Key × D)) : ownd (some (.dk ds)) = true := (rfl)
@[simp] theorem owA_nil (δ : En) : owA [] δ = true := (rfl)
@[simp] theorem owA_n (sh : List (Option Nat)) (δ : En) : owA (none :: sh) δ = owA sh δ := (rfl)
@[simp] theorem owA_s (i : Nat) (sh : List (Option Nat)) (δ : En) : owA (some i :: sh) δ = (ownd δ[i]? && owA sh δ) := (rfl)
@[simp] theorem arX_nil (ds : List D) (δ : En) : arX [] ds δ = [] := by cases ds <;> rfl
@[simp] theorem arX_n (sh : List (Option Nat)) (d : D) (ds : List D) (δ : En) : arX (none :: sh) (d :: ds) δ = .sh d :: arX sh ds δ := (rfl)
@[simp] theorem arX_s (i : Nat) (sh : List (Option Nat)) (d : D) (ds : List D) (δ : En) : arX (some i :: sh) (d :: ds) δ = δ.getD i .no :: arX sh ds δ := (rfl)
@[simp] theorem putX_nil (r δ : En) : putX [] r δ = δ := by cases r <;> rfl
@[simp] theorem putX_n (sh : List (Option Nat)) (x : Sl) (r δ : En) : putX (none :: sh) (x :: r) δ = putX sh r δ := (rfl)
@[simp] theorem putX_s (i : Nat) (sh : List (Option Nat)) (x : Sl) (r δ : En) : putX (some i :: sh) (x :: r) δ = putX sh r (δ.set i x) := (rfl)
@[simp] theorem own1_ow (ds : List D) : own1 (.ow ds) = .ow ds := (rfl)
@[simp] theorem own1_ow2 (ds : List (List D)) : own1 (.ow2 ds) = .ow2 ds := (rfl)
@[simp] theorem own1_dk (ds : List (Key × D)) : own1 (.dk ds) = .dk ds := (rfl)
/-- what such a def hands back, its arguments behind it -/
theorem Wr_XD {mi : List Nat} {np n : Nat} {F : En → Re Fl} {ars : En} {Q : D × En → Prop} (hl : ars.length = np) (h : Wr (F (ars ++ List.replicate (n - np) .no)) fun fl => match fl with
    | .nx δ => Q (.none, finX mi np δ)
    | .rt d δ => Q (d, finX mi np δ)
    | _ => False) : Wr (dfXD mi np n F ars) Q := by
  unfold dfXD
  rw [if_pos hl]
  obtain ⟨fl, e, q⟩ := h
  rw [e]
  cases fl with
  | nx δ => exact ⟨_, rfl, q⟩
  | rt d δ => exact ⟨_, rfl, q⟩
  | _ => exact q.elim
theorem Wr_XF {mi : List Nat} {np n : Nat} {F : En → Re Fl} {ars : En} {Q : List D × En → Prop} (hl : ars.length = np) (h : Wr (F (ars ++ List.replicate (n - np) .no)) fun fl => match fl with
    | .rf d δ => Q (d, finX mi np δ)
    | _ => False) : Wr (dfXF mi np n F ars) Q := by
  unfold dfXF
  rw [if_pos hl]
  obtain ⟨fl, e, q⟩ := h
  rw [e]
  cases fl with
  | rf d δ => exact ⟨_, rfl, q⟩
  | _ => exact q.elim
end DL

/-! EV6: equations for simp: dicts, swaps, moving lists, displays of new lists -/
namespace DL
open PySem L2
@[simp] theorem keyOf_i (i : Int) : keyOf (.int i) = some (.inl i) := (rfl)
@[simp] theorem keyOf_s (s : Str) : keyOf (.str s) = some (.inr s) := (rfl)
@[simp] theorem nwS_ap (i : Nat) (δ : En) : nwS i δ = .ok (.nx (δ.set i (.dk []))) := (rfl)
@[simp] theorem pDg_ap (i : Nat) (fi : En → Re D) (δ : En) : pDg i fi δ = (tdk δ[i]?).bd fun kvs => (fi δ).bd fun q => opt ((keyOf q).bind (valD kvs)) := (rfl)
@[simp] theorem pDin_ap (neg : Bool) (fi : En → Re D) (i : Nat) (δ : En) : pDin neg fi i δ = (tdk δ[i]?).bd fun kvs => (fi δ).bd fun q => (opt (keyOf q)).bd fun z => .ok (.bool (xor neg (valD kvs z).isSome)) := (rfl)
@[simp] theorem dpS_ap (j : Nat) (fi fe : En → Re (D × En)) (δ : En) : dpS j fi fe δ = (fe δ).bd fun p => (tdk p.2[j]?).bd fun _ => (fi p.2).bd fun q => (tdk q.2[j]?).bd fun kvs => (opt (keyOf q.1)).bd fun z => if kvs.length < 1000000 then .ok (.nx (q.2.set j (.dk (putD kvs z p.1)))) else .bad := (rfl)
@[simp] theorem dcS_ap (i : Nat) (f : En → Re (List (Key × D) × En)) (δ : En) : dcS i f δ = (f δ).bd fun p => .ok (.nx (p.2.set i (.dk p.1))) := (rfl)
@[simp] theorem eDk_ap (f : En → Re (List D × En)) (δ : En) : eDk f δ = (f δ).bd fun p => (opt (dictFrom [] p.1)).bd fun kvs => .ok (kvs, p.2) := (rfl)
@[simp] theorem pPr_ap (fk fv : En → Re D) (δ : En) : pPr fk fv δ = (fk δ).bd fun p => (fv δ).bd fun q => .ok (.tuple [p, q]) := (rfl)
@[simp] theorem swS_ap (k : Nat) (f1 f2 : En → Re D) (fe : En → Re (D × En)) (δ : En) : swS k f1 f2 fe δ = (fe δ).bd fun p => (opt (pairOf p.1)).bd fun d => (tow p.2[k]?).bd fun ds => (f1 p.2).bd fun x1 => (opt (ixI ds.length x1)).bd fun j =>
  (f2 (p.2.set k (.ow (ds.set j d.1)))).bd fun x2 => (opt (ixI ds.length x2)).bd fun j2 => .ok (.nx (p.2.set k (.ow ((ds.set j d.1).set j2 d.2)))) := (rfl)
@[simp] theorem pairOf_t (a b : D) : pairOf (.tuple [a, b]) = some (a, b) := (rfl)
@[simp] theorem ixI_i (n : Nat) (i : Int) : ixI n (.int i) = ixN n i := (rfl)
@[simp] theorem lstO_l (ds : List D) : lstO (.list ds) = some ds := (rfl)
@[simp] theorem pIdx_ap (fo fe : En → Re D) (δ : En) : pIdx fo fe δ = (fo δ).bd fun p => (opt (lstO p)).bd fun ds => (fe δ).bd fun q => opt (gIdx ds q) := (rfl)
@[simp] theorem eIdx_ap (fo fe : En → Re (D × En)) (δ : En) : eIdx fo fe δ = (fo δ).bd fun p => (opt (lstO p.1)).bd fun ds => (fe p.2).bd fun q => (opt (gIdx ds q.1)).bd fun d => .ok (d, q.2) := (rfl)
@[simp] theorem eMv2_ap (i j : Nat) (δ : En) : eMv2 i j δ = (tw2 δ[i]?).bd fun dss => (tow δ[j]?).bd fun ds => if dss.length < 1000000 then .ok (.none, (δ.set j .no).set i (.ow2 (dss ++ [ds]))) else .bad := (rfl)
@[simp] theorem eAp2_ap (i : Nat) (fr : En → Re (List D × En)) (δ : En) : eAp2 i fr δ = (tw2 δ[i]?).bd fun _ => (fr δ).bd fun p => (tw2 p.2[i]?).bd fun dss => if dss.length < 1000000 then .ok (.none, p.2.set i (.ow2 (dss ++ [p.1]))) else .bad := (rfl)
@[simp] theorem eFl_ap (fa : En → Re (List D × En)) (fr : En → Re (List (List D) × En)) (δ : En) : eFl fa fr δ = (fa δ).bd fun p => (fr p.2).bd fun q => .ok (p.1 :: q.1, q.2) := (rfl)
@[simp] theorem eL2_ap (fl : En → Re (List (List D) × En)) (δ : En) : eL2 fl δ = (fl δ).bd fun p => if p.1.length ≤ 1000000 then .ok (p.1, p.2) else .bad := (rfl)
@[simp] theorem eIx2_ap (f2 : En → Re (List (List D) × En)) (fi : En → Re (D × En)) (δ : En) : eIx2 f2 fi δ = (f2 δ).bd fun p => (fi p.2).bd fun q => (opt (ixI p.1.length q.1)).bd fun j => (opt (p.1[j]?)).bd fun ds => .ok (ds, q.2) := (rfl)
@[simp] theorem paF2F2_ap (i j : Nat) (ga gb : En → Re (List (List D) × En)) (δ : En) : paF2F2 i j ga gb δ = (ga δ).bd fun p => (gb p.2).bd fun q => .ok (.nx ((q.2.set i (.ow2 p.1)).set j (.ow2 q.1))) := (rfl)
/-! dicts -/
@[simp] theorem valD_nil (k : Key) : valD [] k = none := (rfl)
theorem valD_put (kvs : List (Key × D)) (k j : Key) (v : D) : valD (putD kvs k v) j = if j = k then some v else valD kvs j := by
  unfold valD putD
  by_cases h : (kvs.any fun kv => decide (kv.1 = k)) = true
  · rw [if_pos h]
    by_cases e : j = k
    · subst e
      rw [if_pos rfl]
      induction kvs with
      | nil => simp at h
      | cons p r ih =>
        by_cases hp : p.1 = j
        · simp [hp]
        · have : (r.any fun kv => decide (kv.1 = j)) = true := by simpa [hp] using h
          simp only [List.map_cons, if_neg hp, List.find?_cons, decide_eq_false hp]
          exact ih this
    · rw [if_neg e]
      clear h
      induction kvs with
      | nil => rfl
      | cons p r ih =>
        by_cases hp : p.1 = k
        · have hj : ¬ p.1 = j := fun z => e (z.symm.trans hp)
          simp only [List.map_cons, if_pos hp, List.find?_cons, decide_eq_false hj]
          exact ih
        · simp only [List.map_cons, if_neg hp, List.find?_cons]
          by_cases hj : p.1 = j
          · simp [hj]
          · simp only [decide_eq_false hj]; exact ih
  · rw [if_neg h, List.find?_append]
    have hn : kvs.find? (fun kv => decide (kv.1 = k)) = none := by
      rw [List.find?_eq_none]
      intro p hp z
      exact h (List.any_eq_true.mpr ⟨p, hp, z⟩)
    by_cases e : j = k
    · subst e
      rw [hn]; simp
    · have : ¬ k = j := fun z => e z.symm
      rw [if_neg e]
      simp [this]
@[simp] theorem whS_ap (n : En → Nat) (t : En → Re (Bool × En)) (F : En → Re Fl) (δ : En) : whS n t F δ = whL t F (n δ) δ := (rfl)
/-- a loop with a measure -/
theorem Wr_wh {t : En → Re (Bool × En)} {F : En → Re Fl} {Q : Fl → Prop} (I : Nat → En → Prop)
    (hs : ∀ k δ, I k δ → Wr (t δ) fun p => if p.1 = true then 0 < k ∧ Wr (F p.2) (InL (I (k - 1)) Q) else Q (.nx p.2)) : ∀ (fuel k : Nat) (δ : En), I k δ → k < fuel → Wr (whL t F fuel δ) Q
  | 0, k, δ, _, h => absurd h (Nat.not_lt_zero k)
  | n + 1, k, δ, hI, h => by
    obtain ⟨⟨b, δ1⟩, e, q⟩ := hs k δ hI
    unfold whL
    rw [e]
    simp only [Re.bd_ok]
    cases b with
    | false =>
      rw [if_neg Bool.false_ne_true] at q
      exact ⟨_, rfl, q⟩
    | true =>
      rw [if_pos rfl] at q
      obtain ⟨hk, fl, e2, q2⟩ := q
      simp only at e2
      rw [e2]
      cases fl with
      | nx δ2 => exact Wr_wh I hs n (k - 1) δ2 q2 (by omega)
      | ct δ2 => exact Wr_wh I hs n (k - 1) δ2 q2 (by omega)
      | bk δ2 => exact ⟨_, rfl, q2⟩
      | _ => exact ⟨_, rfl, q2⟩
theorem putD_len (kvs : List (Key × D)) (k : Key) (v : D) : (putD kvs k v).length ≤ kvs.length + 1 := by
  unfold putD
  split <;> simp
end DL

/-! EV7: equations for simp: rows walked and changed, sums of lists -/
namespace DL
open PySem L2
@[simp] theorem rwS_ap (i r : Nat) (m : List D → List D → Option (List D × D)) (δ : En) : rwS i r m δ = (tw2 δ[i]?).bd fun dss => (opt (rowAll m dss)).bd fun ess => if r < δ.length then .ok (.nx ((δ.set r .no).set i (.ow2 ess))) else .bad := (rfl)
@[simp] theorem pRw_ap (f : En → Re (List D)) (δ : En) : pRw f δ = (f δ).bd fun p => opt (rowsOf p) := (rfl)
theorem Wr_XF2 {mi : List Nat} {np n : Nat} {F : En → Re Fl} {ars : En} {Q : List (List D) × En → Prop} (hl : ars.length = np) (h : Wr (F (ars ++ List.replicate (n - np) .no)) fun fl => match fl with
    | .rf2 d δ => Q (d, finX mi np δ)
    | _ => False) : Wr (dfXF2 mi np n F ars) Q := by
  unfold dfXF2
  rw [if_pos hl]
  obtain ⟨fl, e, q⟩ := h
  rw [e]
  cases fl with
  | rf2 d δ => exact ⟨_, rfl, q⟩
  | _ => exact q.elim
theorem rowAll_rev : ∀ dss : List (List D), rowAll mRev dss = some (dss.map List.reverse)
  | [] => rfl
  | d :: r => by
    unfold rowAll
    rw [mRev_ap, Option.bind_some, rowAll_rev r]; rfl
theorem gCat_list {xs ys : List D} (h : xs.length + ys.length ≤ 1000000) : gCat (.list xs) (.list ys) = some (xs ++ ys) := if_pos h
end DL

/-! EV8: equations for simp: augmented assignments, dicts that are read, conversions -/
namespace DL
open PySem L2
@[simp] theorem auS_ap (i : Nat) (g : D → D → Option D) (fe : En → Re (D × En)) (δ : En) : auS i g fe δ = (pV i δ).bd fun x => (fe δ).bd fun p => (opt (g x p.1)).bd fun d => .ok (.nx (p.2.set i (.sh d))) := (rfl)
@[simp] theorem auB_ap (k : Nat) (g : D → D → Option D) (fi fe : En → Re (D × En)) (δ : En) : auB k g fi fe δ = (tow δ[k]?).bd fun _ => (fi δ).bd fun q => (intOf q.1).bd fun i => (tow q.2[k]?).bd fun ds => (opt (atI ds i)).bd fun x => (fe q.2).bd fun p => (opt (g x p.1)).bd fun d => (tow p.2[k]?).bd fun ds' => (opt (ixN ds'.length i)).bd fun j => .ok (.nx (p.2.set k (.ow (ds'.set j d)))) := by
  unfold auB
  cases tow δ[k]? with
  | ok ds =>
    simp only [Re.bd_ok]
    cases fi δ with
    | ok x =>
      obtain ⟨d, δ'⟩ := x
      cases d <;> rfl
    | _ => rfl
  | _ => rfl
@[simp] theorem gIAdd_int (i j : Int) : gIAdd (.int i) (.int j) = some (.int (i + j)) := (rfl)
@[simp] theorem gISub_int (i j : Int) : gISub (.int i) (.int j) = some (.int (i - j)) := (rfl)
@[simp] theorem eUpd_ap (i : Nat) (f : En → Re (List (Key × D) × En)) (δ : En) : eUpd i f δ = (tdk δ[i]?).bd fun _ => (f δ).bd fun p => (tdk p.2[i]?).bd fun kvs => if kvs.length + p.1.length ≤ 1000000 then .ok (.none, p.2.set i (.dk (mergeD kvs p.1))) else .bad := (rfl)
@[simp] theorem fzE_dk {δ : En} {i : Nat} {kvs : List (Key × D)} (h : δ[i]? = some (.dk kvs)) : fzE i δ = δ.set i (.sh (dkD kvs)) := by unfold fzE; rw [h]
theorem dicGet_i (kvs : List (Key × D)) (i : Int) : dicGet (dkD kvs) (.int i) = valD kvs (.inl i) := dicGet_dk kvs (.int i)
theorem dicGet_s (kvs : List (Key × D)) (s : Str) : dicGet (dkD kvs) (.str s) = valD kvs (.inr s) := dicGet_dk kvs (.str s)
@[simp] theorem eP0_ap (δ : En) : eP0 δ = .ok ([], δ) := (rfl)
@[simp] theorem ePc_ap (fk fv : En → Re (D × En)) (fr : En → Re (List (D × D) × En)) (δ : En) : ePc fk fv fr δ = (fk δ).bd fun p => (fv p.2).bd fun q => (fr q.2).bd fun r => .ok ((p.1, q.1) :: r.1, r.2) := (rfl)
@[simp] theorem eDsp_ap (fr : En → Re (List (D × D) × En)) (δ : En) : eDsp fr δ = (fr δ).bd fun p => (opt (keysOf p.1)).bd fun kvs => if kvs.length ≤ 15 then .ok (mergeD [] kvs, p.2) else .bad := (rfl)
@[simp] theorem keysOf_nil : keysOf [] = some [] := (rfl)
@[simp] theorem keysOf_i (i : Int) (v : D) (r : List (D × D)) : keysOf ((.int i, v) :: r) = (keysOf r).map fun l => (.inl i, v) :: l := (rfl)
@[simp] theorem keysOf_s (s : Str) (v : D) (r : List (D × D)) : keysOf ((.str s, v) :: r) = (keysOf r).map fun l => (.inr s, v) :: l := (rfl)
@[simp] theorem fzK_ap (f : En → Re (List (Key × D) × En)) (δ : En) : fzK f δ = (f δ).bd fun p => .ok (dkD p.1, p.2) := (rfl)
def dicOf : D → Re D
  | .dict ps => .ok (.dict ps)
  | _ => .bad
@[simp] theorem dicOf_dk (kvs : List (Key × D)) : dicOf (dkD kvs) = .ok (dkD kvs) := (rfl)
@[simp] theorem pGet3_ap (fo fa fb : En → Re D) (δ : En) : pGet3 fo fa fb δ = ((fo δ).bd dicOf).bd fun p => (fa δ).bd fun q => (fb δ).bd fun r => opt (dicGetOr p q r) := by
  unfold pGet3
  cases fo δ with
  | ok d => cases d <;> rfl
  | _ => rfl
theorem dicGetOr_s (kvs : List (Key × D)) (s : Str) (v : D) : dicGetOr (dkD kvs) (.str s) v = some ((valD kvs (.inr s)).getD v) := by
  show (keyOf (.str s)).map (fun _ => (dicGet (dkD kvs) (.str s)).getD v) = _
  rw [dicGet_s]; rfl
theorem dicGetOr_i (kvs : List (Key × D)) (i : Int) (v : D) : dicGetOr (dkD kvs) (.int i) v = some ((valD kvs (.inl i)).getD v) := by
  show (keyOf (.int i)).map (fun _ => (dicGet (dkD kvs) (.int i)).getD v) = _
  rw [dicGet_i]; rfl
@[simp] theorem gInt_i (i : Int) : gInt [.int i] = some (.int i) := (rfl)
@[simp] theorem gInt_b (b : Bool) : gInt [.bool b] = some (.int (if b then 1 else 0)) := (rfl)
@[simp] theorem tow_ow2 (ds : List D) : tow (some (.ow ds)) = .ok ds := (rfl)
end DL

/-! EV9: equations for DL37 -/
namespace DL
open PySem L2
@[simp] theorem eCmT_ap (F : List D → List D → Re (D × List D)) (f0 fr : En → Re (List D × En)) (δ : En) : eCmT F f0 fr δ = (f0 δ).bd fun p => (fr p.2).bd fun q => nb (F p.1 q.1) fun z => .ok (z.1, q.2) := (rfl)
@[simp] theorem nwT_ap (i : Nat) (δ : En) : nwT i δ = .ok (.nx (δ.set i (.dt []))) := (rfl)
@[simp] theorem eTk_ap (fr : En → Re (List D × En)) (δ : En) : eTk fr δ = (fr δ).bd fun p => (opt (lst1 p.1)).bd fun ds => .ok (ds, p.2) := (rfl)
@[simp] theorem lst1_l (ds : List D) : lst1 [.list ds] = some ds := (rfl)
@[simp] theorem tpS_ap (j : Nat) (fk : En → Re (List D × En)) (fe : En → Re (D × En)) (δ : En) : tpS j fk fe δ = (fe δ).bd fun p => (tdT p.2[j]?).bd fun _ => (fk p.2).bd fun q => (tdT q.2[j]?).bd fun kvs => (opt (keysT q.1)).bd fun z => if kvs.length < 1000000 then .ok (.nx (q.2.set j (.dt (putT kvs z p.1)))) else .bad := (rfl)
@[simp] theorem pLenT_ap (i : Nat) (δ : En) : pLenT i δ = (tdT δ[i]?).bd fun kvs => .ok (.int kvs.length) := (rfl)
end DL

/-! EV10: equations for DL39 to DL41 -/
namespace DL
open PySem L2
@[simp] theorem erS_ap (x : Str) (δ : En) : erS x δ = .er ⟨x, none⟩ := (rfl)
@[simp] theorem noE_ok {α : Type} (a : α) : noE (.ok a) = .ok a := (rfl)
@[simp] theorem noE_bad {α : Type} : noE (.bad : Re α) = .bad := (rfl)
@[simp] theorem dT_ap (f : En → Re D) (δ : En) : dT f δ = noE (f δ) := (rfl)
@[simp] theorem crT_ap (F : List D → Re D) (fr : En → Re (List D)) (δ : En) : crT F fr δ = (noE (fr δ)).bd F := (rfl)
@[simp] theorem crTF_ap (F : List D → Re (List D)) (fr : En → Re (List D)) (δ : En) : crTF F fr δ = (noE (fr δ)).bd fun ds => (F ds).bd fun r => .ok (.list r) := (rfl)
@[simp] theorem opT_ap (g : D → D → Option D) (f h : En → Re D) (δ : En) : opT g f h δ = (f δ).bd fun y => (noE (h δ)).bd fun z => opt (g y z) := (rfl)
@[simp] theorem exB_ap (f : En → Re D) (δ : En) : exB f δ = (f δ).bd fun _ => .ok (.nx δ) := (rfl)
@[simp] theorem rtB_ap (f : En → Re D) (δ : En) : rtB f δ = (f δ).bd fun d => .ok (.rt d δ) := (rfl)
@[simp] theorem asB_ap (i : Nat) (f : En → Re D) (δ : En) : asB i f δ = (f δ).bd fun d => .ok (.nx (δ.set i (.sh d))) := (rfl)
@[simp] theorem ifB_ap (t : En → Re Bool) (A B : En → Re Fl) (δ : En) : ifB t A B δ = (noE (t δ)).bd fun b => match b with
  | true => A δ
  | false => B δ := (rfl)
@[simp] theorem nopB_ap (δ : En) : nopB δ = .ok (.nx δ) := (rfl)
@[simp] theorem noOwn_nil : noOwn [] = true := (rfl)
@[simp] theorem noOwn_sh (d : D) (δ : En) : noOwn (.sh d :: δ) = noOwn δ := by unfold noOwn; simp
@[simp] theorem noOwn_no (δ : En) : noOwn (.no :: δ) = noOwn δ := by unfold noOwn; simp
/-- what a clause makes of the body's end -/
def hndS (yes no : List Str) (A : En → Re Fl) (δ : En) : Re Fl → Re Fl
  | .er e => if e.cls ∈ yes then noE (A δ) else if e.cls ∈ no then .er e else .bad
  | r => r
@[simp] theorem hndS_ok (yes no : List Str) (A : En → Re Fl) (δ : En) (f : Fl) : hndS yes no A δ (.ok f) = .ok f := (rfl)
@[simp] theorem hndS_bad (yes no : List Str) (A : En → Re Fl) (δ : En) : hndS yes no A δ .bad = .bad := (rfl)
@[simp] theorem hndS_er (yes no : List Str) (A : En → Re Fl) (δ : En) (e : Er) : hndS yes no A δ (.er e) = if e.cls ∈ yes then noE (A δ) else if e.cls ∈ no then .er e else .bad := (rfl)
theorem tryS_ap' (yes no : List Str) (B A : En → Re Fl) (δ : En) : tryS yes no B A δ = if noOwn δ = true then hndS yes no A δ (B δ) else .bad := by
  unfold tryS hndS
  by_cases c : noOwn δ = true
  · simp only [if_pos c] <;> (cases B δ <;> rfl)
  · simp only [if_neg c]
@[simp] theorem tryS_ap (yes no : List Str) (B A : En → Re Fl) (δ : En) : tryS yes no B A δ = if noOwn δ = true then hndS yes no A δ (B δ) else .bad := tryS_ap' yes no B A δ
theorem runPe {np n : Nat} {F : En → Re Fl} {ds : List D} {e : Er} (h : ds.length = np) (w : (F (en0 n ds)).bd resP = .er e) : dfP np n F ds = .er e := by rw [dfP_ap _ _ _ _ h]; exact w
theorem runPFe {np n : Nat} {F : En → Re Fl} {ds : List D} {e : Er} (h : ds.length = np) (w : (F (en0 n ds)).bd resPF = .er e) : dfPF np n F ds = .er e := by rw [dfPF_ap _ _ _ _ h]; exact w
end DL

/-! printed by gen.py: the defs of the text over data -/
namespace Law
open PySem L2 DL
def top (i : Nat) : Stmt := PySem.Challenge.pw_onceswapped_k33_order_fits_any_object.main.body.getD i (.Pass ⟨0, 0, 0, 0⟩)
abbrev y_NoOrder : List Str := ["NoOrder"]
abbrev n_NoOrder : List Str := ["NoArrangement", "NoForest"]
structure Txt (K : PySem.W.Frag) (mg : Str → Option Value) : Prop where
  b_abs : mg "abs" = none
  b_all : mg "all" = none
  b_bool : mg "bool" = none
  b_enumerate : mg "enumerate" = none
  b_int : mg "int" = none
  b_isinstance : mg "isinstance" = none
  b_len : mg "len" = none
  b_list : mg "list" = none
  b_max : mg "max" = none
  b_min : mg "min" = none
  b_range : mg "range" = none
  b_repr : mg "repr" = none
  b_set : mg "set" = none
  b_sorted : mg "sorted" = none
  b_str : mg "str" = none
  b_tuple : mg "tuple" = none
  b_zip : mg "zip" = none
  g_LETTERS : ∃ t, mg "LETTERS" = some (.str "abcdefghijklmnopqrstuvwxyz" t)
  g_MOST_LETTERS : ∃ t, mg "MOST_LETTERS" = some (.int 8 t)
  g_MOST_POSITIONS : ∃ t, mg "MOST_POSITIONS" = some (.int 40 t)
  e_NoArrangement : ∃ C, ErC K mg "NoArrangement" C
  e_NoForest : ∃ C, ErC K mg "NoForest" C
  e_NoOrder : ∃ C, ErC K mg "NoOrder" C
  h_NoOrder : ∃ cv, mg "NoOrder" = some cv ∧ Hnd K mg cv y_NoOrder n_NoOrder
/-! is_integer -/
abbrev s_is_integer : Stmt := top 7
theorem sc_is_integer : FnScope ["thing", "least", "most"] ["thing", "least", "most"] (defScope s_is_integer) := ⟨rfl, rfl, rfl, by decide +kernel, rfl, by decide +kernel, by decide +kernel⟩
def F_is_integer : En → Re Fl := (rtS (Pu (pBo (pAnd (pTe (pIsi "int" (pV 0))) (pAnd (pTe (pBo (pNot (pTe (pIsi "bool" (pV 0)))))) (pTe (pCh gLe gLe (pV 1) (pV 0) (pV 2))))))))
def f_is_integer : List D → Re D := dfP 3 3 F_is_integer
theorem ok_is_integer {P : Program} {w : World} {K : PySem.W.Frag} {mg : Str → Option Value} {base : Heap} {f : Addr} {fd : FuncData} (T : Txt K mg) (F : Fun K "is_integer" "is_integer" s_is_integer f fd) : FnOkG P w K mg base (L2.CX P w) 1 f fd ["thing", "least", "most"] (spP K mg f_is_integer) :=
  fn_P (Fb := F_is_integer) F sc_is_integer fun cdv A outer s H E Hin Hb ma hr => by
  have hx : Passes (L2.CX P w) (cxOf (L2.CX P w) P w K mg base ["thing", "least", "most"] "is_integer" (defScope s_is_integer) f cdv A outer s H E) E := passes_call (takes_of rfl rfl rfl rfl) (fun _ _ _ _ h => h)
  exact (dss_one (ds_ret (uVa (de_vand (uIsi (de_isi (T := "int") (dp_var (pv 0)) (by decide +kernel) rfl rfl T.b_isinstance (by decide +kernel) rfl T.b_int (by decide +kernel))) (bBo (uVa (de_vand (uVn (de_vnot (uIsi (de_isi (T := "bool") (dp_var (pv 0)) (by decide +kernel) rfl rfl T.b_isinstance (by decide +kernel) rfl T.b_bool (by decide +kernel))))) (bBo (uVl (e_vl (uCh (e_lele (dp_var (pv 1)) (dp_var (pv 0)) (dp_var (pv 2))))))))))))))
/-! is_edge -/
abbrev s_is_edge : Stmt := top 8
theorem sc_is_edge : FnScope ["thing", "size", "one"] ["thing", "size"] (defScope s_is_edge) := ⟨rfl, rfl, rfl, by decide +kernel, rfl, by decide +kernel, by decide +kernel⟩
def F_is_edge : En → Re Fl := (seqS (ifS (Pu (pOr (pNot (pTe (pIsi "tuple" (pV 0)))) (pOr (pTe (pOp gNe (pCa gLen (pCons (pV 0) (pNil))) (pK (.int 2)))) (pNot (pTe (pCa gAll (pCons (pFz (pLc (pTi (pV 0)) [2] (gNm 2) (fun _ => .ok true) (pCr (noer f_is_integer) (pCons (pV 2) (pCons (pK (.int 0)) (pCons (pOp gSub (pV 1) (pK (.int 1))) (pNil))))))) (pNil)))))))) (rtS (Pu (pK (.bool false)))) nopS) (rtS (Pu (pOp gLt (pOp gIx (pV 0) (pK (.int 0))) (pOp gIx (pV 0) (pK (.int 1)))))))
def f_is_edge : List D → Re D := dfP 2 3 F_is_edge
theorem ok_is_edge {P : Program} {w : World} {K : PySem.W.Frag} {mg : Str → Option Value} {base : Heap} {f : Addr} {fd : FuncData} (T : Txt K mg) (D_is_integer : Dn P w K mg base 1 "is_integer" ["thing", "least", "most"] (spP K mg f_is_integer)) (F : Fun K "is_edge" "is_edge" s_is_edge f fd) : FnOkG P w K mg base (L2.CX P w) 2 f fd ["thing", "size"] (spP K mg f_is_edge) :=
  fn_P (Fb := F_is_edge) F sc_is_edge fun cdv A outer s H E Hin Hb ma hr => by
  have hx : Passes (L2.CX P w) (cxOf (L2.CX P w) P w K mg base ["thing", "size", "one"] "is_edge" (defScope s_is_edge) f cdv A outer s H E) E := passes_call (takes_of rfl rfl rfl rfl) (fun _ _ _ _ h => h)
  exact (dss_cons (ds_if (PW.pt (uOr (de_or (uNot (de_not (uTe (de_test (uIsi (de_isi (T := "tuple") (dp_var (pv 0)) (by decide +kernel) rfl rfl T.b_isinstance (by decide +kernel) rfl T.b_tuple (by decide +kernel))))))) (uOr (de_or (uTo (t_ne hr (uCa (e_len T.b_len (uCons (da_cons (dp_var (pv 0)) da_nil)))) dp_int)) (de_or1 (uNot (de_not (uTe (de_test (uCa (e_all T.b_all (uCons (da_cons (uFz (uLc (gok_nm (show 2 ∈ ([2] : List Nat) by decide)) (de_lc (own := [("one", 2)]) rfl sc_is_edge.nd (show ([2] : List Nat).Nodup by decide) (show ∀ v ∈ ([2] : List Nat), v ∉ ([] : List Nat) by decide) (show ∀ t ∈ ([2] : List Nat), t ∈ ([2] : List Nat) by decide) (uTi (di_tup rfl (dp_var (pv 0)))) (blkOk_by (by dsimp only [cxOf, L2.Cx.blk, relE, envE]; decide +kernel)) (fun _ _ _ _ _ => (dg_name (i := 2) (show 2 ∉ ([] : List Nat) by decide) sc_is_edge.nd rfl (Or.inl rfl))) (fun _ _ _ _ _ => dts_nil) (fun _ _ _ _ _ => (uCr (de_cr0 D_is_integer hr rfl rfl rfl (uCons (da_cons (dp_var (pv 2)) (uCons (da_cons dp_int (uCons (da_cons (uOp (e_sub (dp_var (pv 1)) dp_int)) da_nil)))))))))))) da_nil)))))))))))))) (dss_one (ds_ret dp_bl)) dss_nil) (dss_one (ds_ret (uOp (e_lt hr (uOp (e_ix (dp_var (pv 0)) dp_int)) (uOp (e_ix (dp_var (pv 0)) dp_int)))))))
/-! tree_labels -/
abbrev s_tree_labels : Stmt := top 9
theorem sc_tree_labels : FnScope ["size", "edges", "labels", "first", "second", "kept", "gone", "label"] ["size", "edges"] (defScope s_tree_labels) := ⟨rfl, rfl, rfl, by decide +kernel, rfl, by decide +kernel, by decide +kernel⟩
def F_tree_labels : En → Re Fl := (seqS (asS 2 (Pu (pFz (pCa gLr1 (pCons (pV 0) pNil))))) (seqS (forS (Pu (pLi (pV 1))) (gTpN 2 (gsCons (gNm 3) (gsCons (gNm 4) gsNil))) (seqS (ifS (Pu (pTe (pOp gEq (pOp gIx (pV 2) (pV 3)) (pOp gIx (pV 2) (pV 4))))) (rtS (Pu (pK .none))) nopS) (seqS (agS (gTpN 2 (gsCons (gNm 5) (gsCons (gNm 6) gsNil))) (Pu (pFz (pCa gSort (pCons (pTup (pCons (pOp gIx (pV 2) (pV 3)) (pCons (pOp gIx (pV 2) (pV 4)) (pNil)))) (pNil)))))) (asS 2 (fz (eLc (Pu (pLi (pV 2))) [7] (gNm 7) (Pu (fun _ => .ok true)) (Pu (pIf (pTe (pOp gEq (pV 7) (pV 6))) (pV 5) (pV 7))))))))) (rtS (Pu (pV 2)))))
def f_tree_labels : List D → Re D := dfP 2 8 F_tree_labels
theorem ok_tree_labels {P : Program} {w : World} {K : PySem.W.Frag} {mg : Str → Option Value} {base : Heap} {f : Addr} {fd : FuncData} (T : Txt K mg) (F : Fun K "tree_labels" "tree_labels" s_tree_labels f fd) : FnOkG P w K mg base (L2.CX P w) 1 f fd ["size", "edges"] (spP K mg f_tree_labels) :=
  fn_P (Fb := F_tree_labels) F sc_tree_labels fun cdv A outer s H E Hin Hb ma hr => by
  have hx : Passes (L2.CX P w) (cxOf (L2.CX P w) P w K mg base ["size", "edges", "labels", "first", "second", "kept", "gone", "label"] "tree_labels" (defScope s_tree_labels) f cdv A outer s H E) E := passes_call (takes_of rfl rfl rfl rfl) (fun _ _ _ _ h => h)
  exact (dss_cons (ds_set (i := 2) (show 2 ∉ ([] : List Nat) by decide) sc_tree_labels.nd rfl (Or.inl rfl) (uFz (uLr1 (e_lrg1 T.b_list T.b_range (dp_var (pv 0)))))) (dss_cons (ds_for (passes_of rfl) rfl (uLi (di_list rfl (dp_var (pv 1)))) (dg_tup rfl rfl (dgs_cons (dg_name (i := 3) (show 3 ∉ ([] : List Nat) by decide) sc_tree_labels.nd rfl (Or.inl rfl)) (dgs_cons (dg_name (i := 4) (show 4 ∉ ([] : List Nat) by decide) sc_tree_labels.nd rfl (Or.inl rfl)) dgs_nil))) (dss_cons (ds_if (uTo (t_eq hr (uOp (e_ix (dp_var (pv 2)) (dp_var (pv 3)))) (uOp (e_ix (dp_var (pv 2)) (dp_var (pv 4)))))) (dss_one (ds_ret dp_non)) dss_nil) (dss_cons (ds_asg (uFz (uCaF (e_sorted hr T.b_sorted (uCons (da_cons (uTup (de_tup (uCons (da_cons (uOp (e_ix (dp_var (pv 2)) (dp_var (pv 3)))) (uCons (da_cons (uOp (e_ix (dp_var (pv 2)) (dp_var (pv 4)))) da_nil)))))) da_nil))))) (dg_tup rfl rfl (dgs_cons (dg_name (i := 5) (show 5 ∉ ([] : List Nat) by decide) sc_tree_labels.nd rfl (Or.inr rfl)) (dgs_cons (dg_name (i := 6) (show 6 ∉ ([] : List Nat) by decide) sc_tree_labels.nd rfl (Or.inr rfl)) dgs_nil)))) (dss_one (ds_setLc (i := 2) (own := [("label", 7)]) (show 2 ∉ ([] : List Nat) by decide) rfl sc_tree_labels.nd rfl rfl (sw_true rfl rfl rfl (by decide +kernel)) (show ([7] : List Nat).Nodup by decide) (show ∀ v ∈ ([7] : List Nat), v ∉ ([] : List Nat) by decide) (show ∀ t ∈ ([7] : List Nat), t ∈ ([7] : List Nat) by decide) (uLi (di_list rfl (dp_var (pv 2)))) (blkOk_by (by dsimp only [cxOf, L2.Cx.blk, relE, envE]; decide +kernel)) (fun _ _ _ _ _ => (dg_name (i := 7) (show 7 ∉ ([] : List Nat) by decide) sc_tree_labels.nd rfl (Or.inl rfl))) (fun _ _ _ _ _ => dts_nil) (fun _ _ _ _ _ => (uIf (de_ifExp (uTo (t_eq hr (dp_var (pv 7)) (dp_var (pv 6)))) (dp_var (pv 5)) (dp_var (pv 7)))))))))) (dss_one (ds_ret (dp_var (pv 2))))))
/-! is_forest -/
abbrev s_is_forest : Stmt := top 10
theorem sc_is_forest : FnScope ["thing", "size", "edges", "edge", "one", "other"] ["thing"] (defScope s_is_forest) := ⟨rfl, rfl, rfl, by decide +kernel, rfl, by decide +kernel, by decide +kernel⟩
def F_is_forest : En → Re Fl := (seqS (ifS (Pu (pOr (pNot (pTe (pIsi "tuple" (pV 0)))) (pOr (pTe (pOp gNe (pCa gLen (pCons (pV 0) (pNil))) (pK (.int 2)))) (pNot (pTe (pCr f_is_integer (pCons (pOp gIx (pV 0) (pK (.int 0))) (pCons (pK (.int 1)) (pCons (pK (.int 40)) (pNil)))))))))) (rtS (Pu (pK (.bool false)))) nopS) (seqS (agS (gTpN 2 (gsCons (gNm 1) (gsCons (gNm 2) gsNil))) (Pu (pV 0))) (seqS (ifS (Pu (pOr (pNot (pTe (pIsi "list" (pV 2)))) (pNot (pTe (pCa gAll (pCons (pFz (pLc (pLi (pV 2)) [3] (gNm 3) (fun _ => .ok true) (pCr (noer f_is_edge) (pCons (pV 3) (pCons (pV 1) (pNil)))))) (pNil))))))) (rtS (Pu (pK (.bool false)))) nopS) (seqS (ifS (Pu (pNot (pTe (pCa gAll (pCons (pFz (pLc (pCa gZip (pCons (pV 2) (pCons (pSl gSl (pV 2) (pSoP (pK (.int 1))) (pNoP)) (pNil)))) [4, 5] (gTpN 2 (gsCons (gNm 4) (gsCons (gNm 5) gsNil))) (fun _ => .ok true) (pOp gLt (pV 4) (pV 5)))) (pNil)))))) (rtS (Pu (pK (.bool false)))) nopS) (rtS (Pu (pOp gIsN (pCr f_tree_labels (pCons (pV 1) (pCons (pV 2) (pNil)))) (pK .none))))))))
def f_is_forest : List D → Re D := dfP 1 6 F_is_forest
theorem ok_is_forest {P : Program} {w : World} {K : PySem.W.Frag} {mg : Str → Option Value} {base : Heap} {f : Addr} {fd : FuncData} (T : Txt K mg) (D_is_integer : Dn P w K mg base 1 "is_integer" ["thing", "least", "most"] (spP K mg f_is_integer)) (D_is_edge : Dn P w K mg base 2 "is_edge" ["thing", "size"] (spP K mg f_is_edge)) (D_tree_labels : Dn P w K mg base 1 "tree_labels" ["size", "edges"] (spP K mg f_tree_labels)) (F : Fun K "is_forest" "is_forest" s_is_forest f fd) : FnOkG P w K mg base (L2.CX P w) 3 f fd ["thing"] (spP K mg f_is_forest) :=
  fn_P (Fb := F_is_forest) F sc_is_forest fun cdv A outer s H E Hin Hb ma hr => by
  have hx : Passes (L2.CX P w) (cxOf (L2.CX P w) P w K mg base ["thing", "size", "edges", "edge", "one", "other"] "is_forest" (defScope s_is_forest) f cdv A outer s H E) E := passes_call (takes_of rfl rfl rfl rfl) (fun _ _ _ _ h => h)
  exact (dss_cons (ds_if (PW.pt (uOr (de_or (uNot (de_not (uTe (de_test (uIsi (de_isi (T := "tuple") (dp_var (pv 0)) (by decide +kernel) rfl rfl T.b_isinstance (by decide +kernel) rfl T.b_tuple (by decide +kernel))))))) (uOr (de_or (uTo (t_ne hr (uCa (e_len T.b_len (uCons (da_cons (dp_var (pv 0)) da_nil)))) dp_int)) (de_or1 (uNot (de_not (uTe (de_test (uCr (de_cr D_is_integer (hr.mono (show 1 ≤ 2 by decide)) rfl hx rfl rfl (uCons (da_cons (uOp (e_ix (dp_var (pv 0)) dp_int)) (uCons (da_cons dp_int (uCons (da_cons (e_globI rfl T.g_MOST_POSITIONS) da_nil)))))))))))))))))) (dss_one (ds_ret dp_bl)) dss_nil) (dss_cons (ds_asg (dp_var (pv 0)) (dg_tup rfl rfl (dgs_cons (dg_name (i := 1) (show 1 ∉ ([] : List Nat) by decide) sc_is_forest.nd rfl (Or.inr rfl)) (dgs_cons (dg_name (i := 2) (show 2 ∉ ([] : List Nat) by decide) sc_is_forest.nd rfl (Or.inl rfl)) dgs_nil)))) (dss_cons (ds_if (PW.pt (uOr (de_or (uNot (de_not (uTe (de_test (uIsi (de_isi (T := "list") (dp_var (pv 2)) (by decide +kernel) rfl rfl T.b_isinstance (by decide +kernel) rfl T.b_list (by decide +kernel))))))) (de_or1 (uNot (de_not (uTe (de_test (uCa (e_all T.b_all (uCons (da_cons (uFz (uLc (gok_nm (show 3 ∈ ([3] : List Nat) by decide)) (de_lc (own := [("edge", 3)]) rfl sc_is_forest.nd (show ([3] : List Nat).Nodup by decide) (show ∀ v ∈ ([3] : List Nat), v ∉ ([] : List Nat) by decide) (show ∀ t ∈ ([3] : List Nat), t ∈ ([3] : List Nat) by decide) (uLi (di_list rfl (dp_var (pv 2)))) (blkOk_by (by dsimp only [cxOf, L2.Cx.blk, relE, envE]; decide +kernel)) (fun _ _ _ _ _ => (dg_name (i := 3) (show 3 ∉ ([] : List Nat) by decide) sc_is_forest.nd rfl (Or.inl rfl))) (fun _ _ _ _ _ => dts_nil) (fun _ _ _ _ _ => (uCr (de_cr0 D_is_edge hr rfl rfl rfl (uCons (da_cons (dp_var (pv 3)) (uCons (da_cons (dp_var (pv 1)) da_nil)))))))))) da_nil)))))))))))) (dss_one (ds_ret dp_bl)) dss_nil) (dss_cons (ds_if (uNot (de_not (uTe (de_test (uCa (e_all T.b_all (uCons (da_cons (uFz (uLc (gok_tp (gsok_cons (gok_nm (show 4 ∈ ([4, 5] : List Nat) by decide)) (gsok_cons (gok_nm (show 5 ∈ ([4, 5] : List Nat) by decide)) gsok_nil))) (de_lc (own := [("one", 4), ("other", 5)]) rfl sc_is_forest.nd (show ([4, 5] : List Nat).Nodup by decide) (show ∀ v ∈ ([4, 5] : List Nat), v ∉ ([] : List Nat) by decide) (show ∀ t ∈ ([4, 5] : List Nat), t ∈ ([4, 5] : List Nat) by decide) (uCi (di_zip rfl rfl T.b_zip (uCons (da_cons (dp_var (pv 2)) (uCons (da_cons (uSl (de_sl (dp_var (pv 2)) (uSo (do_some dp_int)) do_none rfl)) da_nil)))))) (blkOk_by (by dsimp only [cxOf, L2.Cx.blk, relE, envE]; decide +kernel)) (fun _ _ _ _ _ => (dg_tup rfl rfl (dgs_cons (dg_name (i := 4) (show 4 ∉ ([] : List Nat) by decide) sc_is_forest.nd rfl (Or.inl rfl)) (dgs_cons (dg_name (i := 5) (show 5 ∉ ([] : List Nat) by decide) sc_is_forest.nd rfl (Or.inl rfl)) dgs_nil)))) (fun _ _ _ _ _ => dts_nil) (fun _ _ _ _ _ => (uOp (e_lt hr (dp_var (pv 4)) (dp_var (pv 5)))))))) da_nil)))))))) (dss_one (ds_ret dp_bl)) dss_nil) (dss_one (ds_ret (uOp (e_isn (uCr (de_cr D_tree_labels (hr.mono (show 1 ≤ 2 by decide)) rfl hx rfl rfl (uCons (da_cons (dp_var (pv 1)) (uCons (da_cons (dp_var (pv 2)) da_nil)))))) dp_non))))))))
/-! need_forest -/
abbrev s_need_forest : Stmt := top 11
theorem sc_need_forest : FnScope ["forest"] ["forest"] (defScope s_need_forest) := ⟨rfl, rfl, rfl, by decide +kernel, rfl, by decide +kernel, by decide +kernel⟩
def F_need_forest : En → Re Fl := (ifS (Pu (pNot (pTe (pCr f_is_forest (pCons (pV 0) (pNil)))))) (erS "NoForest") nopS)
def f_need_forest : List D → Re D := dfP 1 1 F_need_forest
theorem ok_need_forest {P : Program} {w : World} {K : PySem.W.Frag} {mg : Str → Option Value} {base : Heap} {f : Addr} {fd : FuncData} (T : Txt K mg) (D_is_forest : Dn P w K mg base 3 "is_forest" ["thing"] (spP K mg f_is_forest)) (F : Fun K "need_forest" "need_forest" s_need_forest f fd) : FnOkG P w K mg base (L2.CX P w) 4 f fd ["forest"] (spP K mg f_need_forest) :=
  fn_P (Fb := F_need_forest) F sc_need_forest fun cdv A outer s H E Hin Hb ma hr => by
  have hx : Passes (L2.CX P w) (cxOf (L2.CX P w) P w K mg base ["forest"] "need_forest" (defScope s_need_forest) f cdv A outer s H E) E := passes_call (takes_of rfl rfl rfl rfl) (fun _ _ _ _ h => h)
  exact (dss_one (ds_if (uNot (de_not (uTe (de_test (uCr (de_cr D_is_forest hr rfl hx rfl rfl (uCons (da_cons (dp_var (pv 0)) da_nil)))))))) (dss_one (ds_raise T.e_NoForest (takes_of rfl rfl rfl rfl))) dss_nil))
/-! is_item -/
abbrev s_is_item : Stmt := top 15
theorem sc_is_item : FnScope ["thing", "letter"] ["thing"] (defScope s_is_item) := ⟨rfl, rfl, rfl, by decide +kernel, rfl, by decide +kernel, by decide +kernel⟩
def F_is_item : En → Re Fl := (seqS (ifS (Pu (pOr (pNot (pTe (pIsi "str" (pV 0)))) (pNot (pTe (pCh gLe gLe (pK (.int 1)) (pCa gLen (pCons (pV 0) (pNil))) (pK (.int 8))))))) (rtS (Pu (pK (.bool false)))) nopS) (rtS (Pu (pCa gAll (pCons (pFz (pLc (pSi (pV 0)) [1] (gNm 1) (fun _ => .ok true) (pOp gIn (pV 1) (pK (.str "abcdefghijklmnopqrstuvwxyz"))))) (pNil))))))
def f_is_item : List D → Re D := dfP 1 2 F_is_item
theorem ok_is_item {P : Program} {w : World} {K : PySem.W.Frag} {mg : Str → Option Value} {base : Heap} {f : Addr} {fd : FuncData} (T : Txt K mg) (F : Fun K "is_item" "is_item" s_is_item f fd) : FnOkG P w K mg base (L2.CX P w) 1 f fd ["thing"] (spP K mg f_is_item) :=
  fn_P (Fb := F_is_item) F sc_is_item fun cdv A outer s H E Hin Hb ma hr => by
  have hx : Passes (L2.CX P w) (cxOf (L2.CX P w) P w K mg base ["thing", "letter"] "is_item" (defScope s_is_item) f cdv A outer s H E) E := passes_call (takes_of rfl rfl rfl rfl) (fun _ _ _ _ h => h)
  exact (dss_cons (ds_if (PW.pt (uOr (de_or (uNot (de_not (uTe (de_test (uIsi (de_isi (T := "str") (dp_var (pv 0)) (by decide +kernel) rfl rfl T.b_isinstance (by decide +kernel) rfl T.b_str (by decide +kernel))))))) (de_or1 (uNot (de_not (uTh (t_lele dp_int (uCa (e_len T.b_len (uCons (da_cons (dp_var (pv 0)) da_nil)))) (e_globI rfl T.g_MOST_LETTERS))))))))) (dss_one (ds_ret dp_bl)) dss_nil) (dss_one (ds_ret (uCa (e_all T.b_all (uCons (da_cons (uFz (uLc (gok_nm (show 1 ∈ ([1] : List Nat) by decide)) (de_lc (own := [("letter", 1)]) rfl sc_is_item.nd (show ([1] : List Nat).Nodup by decide) (show ∀ v ∈ ([1] : List Nat), v ∉ ([] : List Nat) by decide) (show ∀ t ∈ ([1] : List Nat), t ∈ ([1] : List Nat) by decide) (uSi (di_str (dp_var (pv 0)))) (blkOk_by (by dsimp only [cxOf, L2.Cx.blk, relE, envE]; decide +kernel)) (fun _ _ _ _ _ => (dg_name (i := 1) (show 1 ∉ ([] : List Nat) by decide) sc_is_item.nd rfl (Or.inl rfl))) (fun _ _ _ _ _ => dts_nil) (fun _ _ _ _ _ => (uOp (e_in hr (dp_var (pv 1)) (e_globS rfl T.g_LETTERS))))))) da_nil)))))))
/-! is_arrangement -/
abbrev s_is_arrangement : Stmt := top 16
theorem sc_is_arrangement : FnScope ["n", "thing", "item"] ["n", "thing"] (defScope s_is_arrangement) := ⟨rfl, rfl, rfl, by decide +kernel, rfl, by decide +kernel, by decide +kernel⟩
def F_is_arrangement : En → Re Fl := (seqS (ifS (Pu (pOr (pNot (pTe (pIsi "list" (pV 1)))) (pOr (pTe (pOp gNe (pCa gLen (pCons (pV 1) (pNil))) (pV 0))) (pNot (pTe (pCa gAll (pCons (pFz (pLc (pLi (pV 1)) [2] (gNm 2) (fun _ => .ok true) (pCr (noer f_is_item) (pCons (pV 2) (pNil))))) (pNil)))))))) (rtS (Pu (pK (.bool false)))) nopS) (rtS (Pu (pOp gEq (pUn gLenSet (pV 1)) (pV 0)))))
def f_is_arrangement : List D → Re D := dfP 2 3 F_is_arrangement
theorem ok_is_arrangement {P : Program} {w : World} {K : PySem.W.Frag} {mg : Str → Option Value} {base : Heap} {f : Addr} {fd : FuncData} (T : Txt K mg) (D_is_item : Dn P w K mg base 1 "is_item" ["thing"] (spP K mg f_is_item)) (F : Fun K "is_arrangement" "is_arrangement" s_is_arrangement f fd) : FnOkG P w K mg base (L2.CX P w) 2 f fd ["n", "thing"] (spP K mg f_is_arrangement) :=
  fn_P (Fb := F_is_arrangement) F sc_is_arrangement fun cdv A outer s H E Hin Hb ma hr => by
  have hx : Passes (L2.CX P w) (cxOf (L2.CX P w) P w K mg base ["n", "thing", "item"] "is_arrangement" (defScope s_is_arrangement) f cdv A outer s H E) E := passes_call (takes_of rfl rfl rfl rfl) (fun _ _ _ _ h => h)
  exact (dss_cons (ds_if (PW.pt (uOr (de_or (uNot (de_not (uTe (de_test (uIsi (de_isi (T := "list") (dp_var (pv 1)) (by decide +kernel) rfl rfl T.b_isinstance (by decide +kernel) rfl T.b_list (by decide +kernel))))))) (uOr (de_or (uTo (t_ne hr (uCa (e_len T.b_len (uCons (da_cons (dp_var (pv 1)) da_nil)))) (dp_var (pv 0)))) (de_or1 (uNot (de_not (uTe (de_test (uCa (e_all T.b_all (uCons (da_cons (uFz (uLc (gok_nm (show 2 ∈ ([2] : List Nat) by decide)) (de_lc (own := [("item", 2)]) rfl sc_is_arrangement.nd (show ([2] : List Nat).Nodup by decide) (show ∀ v ∈ ([2] : List Nat), v ∉ ([] : List Nat) by decide) (show ∀ t ∈ ([2] : List Nat), t ∈ ([2] : List Nat) by decide) (uLi (di_list rfl (dp_var (pv 1)))) (blkOk_by (by dsimp only [cxOf, L2.Cx.blk, relE, envE]; decide +kernel)) (fun _ _ _ _ _ => (dg_name (i := 2) (show 2 ∉ ([] : List Nat) by decide) sc_is_arrangement.nd rfl (Or.inl rfl))) (fun _ _ _ _ _ => dts_nil) (fun _ _ _ _ _ => (uCr (de_cr0 D_is_item hr rfl rfl rfl (uCons (da_cons (dp_var (pv 2)) da_nil)))))))) da_nil)))))))))))))) (dss_one (ds_ret dp_bl)) dss_nil) (dss_one (ds_ret (uOp (e_eq hr (uUn (e_lenSet T.b_len T.b_set (dp_var (pv 1)))) (dp_var (pv 0)))))))
/-! need_items -/
abbrev s_need_items : Stmt := top 17
theorem sc_need_items : FnScope ["forest", "items"] ["forest", "items"] (defScope s_need_items) := ⟨rfl, rfl, rfl, by decide +kernel, rfl, by decide +kernel, by decide +kernel⟩
def F_need_items : En → Re Fl := (ifS (Pu (pNot (pTe (pCr f_is_arrangement (pCons (pOp gIx (pV 0) (pK (.int 0))) (pCons (pV 1) (pNil))))))) (erS "NoArrangement") nopS)
def f_need_items : List D → Re D := dfP 2 2 F_need_items
theorem ok_need_items {P : Program} {w : World} {K : PySem.W.Frag} {mg : Str → Option Value} {base : Heap} {f : Addr} {fd : FuncData} (T : Txt K mg) (D_is_arrangement : Dn P w K mg base 2 "is_arrangement" ["n", "thing"] (spP K mg f_is_arrangement)) (F : Fun K "need_items" "need_items" s_need_items f fd) : FnOkG P w K mg base (L2.CX P w) 3 f fd ["forest", "items"] (spP K mg f_need_items) :=
  fn_P (Fb := F_need_items) F sc_need_items fun cdv A outer s H E Hin Hb ma hr => by
  have hx : Passes (L2.CX P w) (cxOf (L2.CX P w) P w K mg base ["forest", "items"] "need_items" (defScope s_need_items) f cdv A outer s H E) E := passes_call (takes_of rfl rfl rfl rfl) (fun _ _ _ _ h => h)
  exact (dss_one (ds_if (uNot (de_not (uTe (de_test (uCr (de_cr D_is_arrangement hr rfl hx rfl rfl (uCons (da_cons (uOp (e_ix (dp_var (pv 0)) dp_int)) (uCons (da_cons (dp_var (pv 1)) da_nil)))))))))) (dss_one (ds_raise T.e_NoArrangement (takes_of rfl rfl rfl rfl))) dss_nil))
/-! need_both -/
abbrev s_need_both : Stmt := top 18
theorem sc_need_both : FnScope ["forest", "before", "after"] ["forest", "before", "after"] (defScope s_need_both) := ⟨rfl, rfl, rfl, by decide +kernel, rfl, by decide +kernel, by decide +kernel⟩
def F_need_both : En → Re Fl := (seqS (exS (Pu (pCr f_need_forest (pCons (pV 0) (pNil))))) (seqS (exS (Pu (pCr f_need_items (pCons (pV 0) (pCons (pV 1) (pNil)))))) (seqS (exS (Pu (pCr f_need_items (pCons (pV 0) (pCons (pV 2) (pNil)))))) (ifS (Pu (pTe (pOp gNe (pFz (pCa gSort (pCons (pV 1) (pNil)))) (pFz (pCa gSort (pCons (pV 2) (pNil))))))) (erS "NoArrangement") nopS))))
def f_need_both : List D → Re D := dfP 3 3 F_need_both
theorem ok_need_both {P : Program} {w : World} {K : PySem.W.Frag} {mg : Str → Option Value} {base : Heap} {f : Addr} {fd : FuncData} (T : Txt K mg) (D_need_forest : Dn P w K mg base 4 "need_forest" ["forest"] (spP K mg f_need_forest)) (D_need_items : Dn P w K mg base 3 "need_items" ["forest", "items"] (spP K mg f_need_items)) (F : Fun K "need_both" "need_both" s_need_both f fd) : FnOkG P w K mg base (L2.CX P w) 5 f fd ["forest", "before", "after"] (spP K mg f_need_both) :=
  fn_P (Fb := F_need_both) F sc_need_both fun cdv A outer s H E Hin Hb ma hr => by
  have hx : Passes (L2.CX P w) (cxOf (L2.CX P w) P w K mg base ["forest", "before", "after"] "need_both" (defScope s_need_both) f cdv A outer s H E) E := passes_call (takes_of rfl rfl rfl rfl) (fun _ _ _ _ h => h)
  exact (dss_cons (ds_expr (uCr (de_cr D_need_forest hr rfl hx rfl rfl (uCons (da_cons (dp_var (pv 0)) da_nil))))) (dss_cons (ds_expr (uCr (de_cr D_need_items (hr.mono (show 3 ≤ 4 by decide)) rfl hx rfl rfl (uCons (da_cons (dp_var (pv 0)) (uCons (da_cons (dp_var (pv 1)) da_nil))))))) (dss_cons (ds_expr (uCr (de_cr D_need_items (hr.mono (show 3 ≤ 4 by decide)) rfl hx rfl rfl (uCons (da_cons (dp_var (pv 0)) (uCons (da_cons (dp_var (pv 2)) da_nil))))))) (dss_one (ds_if (uTo (t_ne hr (uFz (uCaF (e_sorted hr T.b_sorted (uCons (da_cons (dp_var (pv 1)) da_nil))))) (uFz (uCaF (e_sorted hr T.b_sorted (uCons (da_cons (dp_var (pv 2)) da_nil))))))) (dss_one (ds_raise T.e_NoArrangement (takes_of rfl rfl rfl rfl))) dss_nil)))))
/-! is_order -/
abbrev s_is_order : Stmt := top 19
theorem sc_is_order : FnScope ["forest", "thing", "size", "edges", "edge"] ["forest", "thing"] (defScope s_is_order) := ⟨rfl, rfl, rfl, by decide +kernel, rfl, by decide +kernel, by decide +kernel⟩
def F_is_order : En → Re Fl := (seqS (agS (gTpN 2 (gsCons (gNm 2) (gsCons (gNm 3) gsNil))) (Pu (pV 0))) (rtS (Pu (pBo (pAnd (pTe (pIsi "list" (pV 1))) (pAnd (pTe (pCa gAll (pCons (pFz (pLc (pLi (pV 1)) [4] (gNm 4) (fun _ => .ok true) (pCr (noer f_is_edge) (pCons (pV 4) (pCons (pV 2) (pNil)))))) (pNil)))) (pTe (pOp gEq (pFz (pCa gSort (pCons (pV 1) (pNil)))) (pV 3)))))))))
def f_is_order : List D → Re D := dfP 2 5 F_is_order
theorem ok_is_order {P : Program} {w : World} {K : PySem.W.Frag} {mg : Str → Option Value} {base : Heap} {f : Addr} {fd : FuncData} (T : Txt K mg) (D_is_edge : Dn P w K mg base 2 "is_edge" ["thing", "size"] (spP K mg f_is_edge)) (F : Fun K "is_order" "is_order" s_is_order f fd) : FnOkG P w K mg base (L2.CX P w) 3 f fd ["forest", "thing"] (spP K mg f_is_order) :=
  fn_P (Fb := F_is_order) F sc_is_order fun cdv A outer s H E Hin Hb ma hr => by
  have hx : Passes (L2.CX P w) (cxOf (L2.CX P w) P w K mg base ["forest", "thing", "size", "edges", "edge"] "is_order" (defScope s_is_order) f cdv A outer s H E) E := passes_call (takes_of rfl rfl rfl rfl) (fun _ _ _ _ h => h)
  exact (dss_cons (ds_asg (dp_var (pv 0)) (dg_tup rfl rfl (dgs_cons (dg_name (i := 2) (show 2 ∉ ([] : List Nat) by decide) sc_is_order.nd rfl (Or.inr rfl)) (dgs_cons (dg_name (i := 3) (show 3 ∉ ([] : List Nat) by decide) sc_is_order.nd rfl (Or.inl rfl)) dgs_nil)))) (dss_one (ds_ret (uVa (de_vand (uIsi (de_isi (T := "list") (dp_var (pv 1)) (by decide +kernel) rfl rfl T.b_isinstance (by decide +kernel) rfl T.b_list (by decide +kernel))) (bBo (uVa (de_vand (uCa (e_all T.b_all (uCons (da_cons (uFz (uLc (gok_nm (show 4 ∈ ([4] : List Nat) by decide)) (de_lc (own := [("edge", 4)]) rfl sc_is_order.nd (show ([4] : List Nat).Nodup by decide) (show ∀ v ∈ ([4] : List Nat), v ∉ ([] : List Nat) by decide) (show ∀ t ∈ ([4] : List Nat), t ∈ ([4] : List Nat) by decide) (uLi (di_list rfl (dp_var (pv 1)))) (blkOk_by (by dsimp only [cxOf, L2.Cx.blk, relE, envE]; decide +kernel)) (fun _ _ _ _ _ => (dg_name (i := 4) (show 4 ∉ ([] : List Nat) by decide) sc_is_order.nd rfl (Or.inl rfl))) (fun _ _ _ _ _ => dts_nil) (fun _ _ _ _ _ => (uCr (de_cr0 D_is_edge hr rfl rfl rfl (uCons (da_cons (dp_var (pv 4)) (uCons (da_cons (dp_var (pv 2)) da_nil)))))))))) da_nil)))) (bBo (uVl (e_vl (uOp (e_eq hr (uFz (uCaF (e_sorted hr T.b_sorted (uCons (da_cons (dp_var (pv 1)) da_nil))))) (dp_var (pv 3)))))))))))))))
/-! need_order -/
abbrev s_need_order : Stmt := top 20
theorem sc_need_order : FnScope ["forest", "order"] ["forest", "order"] (defScope s_need_order) := ⟨rfl, rfl, rfl, by decide +kernel, rfl, by decide +kernel, by decide +kernel⟩
def F_need_order : En → Re Fl := (ifS (Pu (pNot (pTe (pCr f_is_order (pCons (pV 0) (pCons (pV 1) (pNil))))))) (erS "NoOrder") nopS)
def f_need_order : List D → Re D := dfP 2 2 F_need_order
theorem ok_need_order {P : Program} {w : World} {K : PySem.W.Frag} {mg : Str → Option Value} {base : Heap} {f : Addr} {fd : FuncData} (T : Txt K mg) (D_is_order : Dn P w K mg base 3 "is_order" ["forest", "thing"] (spP K mg f_is_order)) (F : Fun K "need_order" "need_order" s_need_order f fd) : FnOkG P w K mg base (L2.CX P w) 4 f fd ["forest", "order"] (spP K mg f_need_order) :=
  fn_P (Fb := F_need_order) F sc_need_order fun cdv A outer s H E Hin Hb ma hr => by
  have hx : Passes (L2.CX P w) (cxOf (L2.CX P w) P w K mg base ["forest", "order"] "need_order" (defScope s_need_order) f cdv A outer s H E) E := passes_call (takes_of rfl rfl rfl rfl) (fun _ _ _ _ h => h)
  exact (dss_one (ds_if (uNot (de_not (uTe (de_test (uCr (de_cr D_is_order hr rfl hx rfl rfl (uCons (da_cons (dp_var (pv 0)) (uCons (da_cons (dp_var (pv 1)) da_nil)))))))))) (dss_one (ds_raise T.e_NoOrder (takes_of rfl rfl rfl rfl))) dss_nil))
/-! swapped -/
abbrev s_swapped : Stmt := top 21
theorem sc_swapped : FnScope ["items", "order", "found", "first", "second"] ["items", "order"] (defScope s_swapped) := ⟨rfl, rfl, rfl, by decide +kernel, rfl, by decide +kernel, by decide +kernel⟩
def F_swapped : En → Re Fl := (seqS (owS 2 (Pu (pCa gList (pCons (pV 0) (pNil))))) (seqS (forS (Pu (pLi (pV 1))) (gTpN 2 (gsCons (gNm 3) (gsCons (gNm 4) gsNil))) (swS 2 (pV 3) (pV 4) (Pu (pTup (pCons (pIxB 2 (pV 4)) (pCons (pIxB 2 (pV 3)) (pNil))))))) (fzS 2 (rtS (Pu (pV 2))))))
def f_swapped : List D → Re D := dfP 2 5 F_swapped
theorem ok_swapped {P : Program} {w : World} {K : PySem.W.Frag} {mg : Str → Option Value} {base : Heap} {f : Addr} {fd : FuncData} (T : Txt K mg) (F : Fun K "swapped" "swapped" s_swapped f fd) : FnOkG P w K mg base (L2.CX P w) 1 f fd ["items", "order"] (spP K mg f_swapped) :=
  fn_P (Fb := F_swapped) F sc_swapped fun cdv A outer s H E Hin Hb ma hr => by
  have hx : Passes (L2.CX P w) (cxOf (L2.CX P w) P w K mg base ["items", "order", "found", "first", "second"] "swapped" (defScope s_swapped) f cdv A outer s H E) E := passes_call (takes_of rfl rfl rfl rfl) (fun _ _ _ _ h => h)
  exact (dss_cons (ds_own (i := 2) (show 2 ∉ ([] : List Nat) by decide) sc_swapped.nd rfl (Or.inl rfl) (uCaF (e_list T.b_list (uCons (da_cons (dp_var (pv 0)) da_nil))))) (dss_cons (ds_for (passes_of rfl) rfl (uLi (di_list rfl (dp_var (pv 1)))) (dg_tup rfl rfl (dgs_cons (dg_name (i := 3) (show 3 ∉ ([] : List Nat) by decide) sc_swapped.nd rfl (Or.inl rfl)) (dgs_cons (dg_name (i := 4) (show 4 ∉ ([] : List Nat) by decide) sc_swapped.nd rfl (Or.inl rfl)) dgs_nil))) (dss_one (ds_swap rfl (pv 2) (pv 2) (dp_var (pv 3)) (dp_var (pv 4)) (uTup (de_tup (uCons (da_cons (e_ixB (pv 2) (dp_var (pv 4))) (uCons (da_cons (e_ixB (pv 2) (dp_var (pv 3))) da_nil))))))))) (dss_fz (show 2 ∉ ([] : List Nat) by decide) (dss_one (ds_ret (dp_var (pv 2)))))))
/-! apply_order -/
abbrev s_apply_order : Stmt := top 22
theorem sc_apply_order : FnScope ["forest", "items", "order"] ["forest", "items", "order"] (defScope s_apply_order) := ⟨rfl, rfl, rfl, by decide +kernel, rfl, by decide +kernel, by decide +kernel⟩
def F_apply_order : En → Re Fl := (seqS (exS (Pu (pCr f_need_forest (pCons (pV 0) (pNil))))) (seqS (exS (Pu (pCr f_need_items (pCons (pV 0) (pCons (pV 1) (pNil)))))) (seqS (exS (Pu (pCr f_need_order (pCons (pV 0) (pCons (pV 2) (pNil)))))) (rtS (Pu (pCr f_swapped (pCons (pV 1) (pCons (pV 2) (pNil)))))))))
def f_apply_order : List D → Re D := dfP 3 3 F_apply_order
theorem ok_apply_order {P : Program} {w : World} {K : PySem.W.Frag} {mg : Str → Option Value} {base : Heap} {f : Addr} {fd : FuncData} (T : Txt K mg) (D_need_forest : Dn P w K mg base 4 "need_forest" ["forest"] (spP K mg f_need_forest)) (D_need_items : Dn P w K mg base 3 "need_items" ["forest", "items"] (spP K mg f_need_items)) (D_need_order : Dn P w K mg base 4 "need_order" ["forest", "order"] (spP K mg f_need_order)) (D_swapped : Dn P w K mg base 1 "swapped" ["items", "order"] (spP K mg f_swapped)) (F : Fun K "apply_order" "apply_order" s_apply_order f fd) : FnOkG P w K mg base (L2.CX P w) 5 f fd ["forest", "items", "order"] (spP K mg f_apply_order) :=
  fn_P (Fb := F_apply_order) F sc_apply_order fun cdv A outer s H E Hin Hb ma hr => by
  have hx : Passes (L2.CX P w) (cxOf (L2.CX P w) P w K mg base ["forest", "items", "order"] "apply_order" (defScope s_apply_order) f cdv A outer s H E) E := passes_call (takes_of rfl rfl rfl rfl) (fun _ _ _ _ h => h)
  exact (dss_cons (ds_expr (uCr (de_cr D_need_forest hr rfl hx rfl rfl (uCons (da_cons (dp_var (pv 0)) da_nil))))) (dss_cons (ds_expr (uCr (de_cr D_need_items (hr.mono (show 3 ≤ 4 by decide)) rfl hx rfl rfl (uCons (da_cons (dp_var (pv 0)) (uCons (da_cons (dp_var (pv 1)) da_nil))))))) (dss_cons (ds_expr (uCr (de_cr D_need_order hr rfl hx rfl rfl (uCons (da_cons (dp_var (pv 0)) (uCons (da_cons (dp_var (pv 2)) da_nil))))))) (dss_one (ds_ret (uCr (de_cr D_swapped (hr.mono (show 1 ≤ 4 by decide)) rfl hx rfl rfl (uCons (da_cons (dp_var (pv 1)) (uCons (da_cons (dp_var (pv 2)) da_nil)))))))))))
/-! moves_between -/
abbrev s_moves_between : Stmt := top 23
theorem sc_moves_between : FnScope ["before", "after", "places", "position", "item"] ["before", "after"] (defScope s_moves_between) := ⟨rfl, rfl, rfl, by decide +kernel, rfl, by decide +kernel, by decide +kernel⟩
def F_moves_between : En → Re Fl := (seqS (dcS 2 (eDk (eLc (Pu (pCa gEnum (pCons (pV 1) (pNil)))) [3, 4] (gTpN 2 (gsCons (gNm 3) (gsCons (gNm 4) gsNil))) (Pu (fun _ => .ok true)) (ePr (Pu (pV 4)) (Pu (pV 3)))))) (rtS (Pu (pFz (pLc (pLi (pV 0)) [4] (gNm 4) (fun _ => .ok true) (pDg 2 (pV 4)))))))
def f_moves_between : List D → Re D := dfP 2 5 F_moves_between
theorem ok_moves_between {P : Program} {w : World} {K : PySem.W.Frag} {mg : Str → Option Value} {base : Heap} {f : Addr} {fd : FuncData} (T : Txt K mg) (F : Fun K "moves_between" "moves_between" s_moves_between f fd) : FnOkG P w K mg base (L2.CX P w) 1 f fd ["before", "after"] (spP K mg f_moves_between) :=
  fn_P (Fb := F_moves_between) F sc_moves_between fun cdv A outer s H E Hin Hb ma hr => by
  have hx : Passes (L2.CX P w) (cxOf (L2.CX P w) P w K mg base ["before", "after", "places", "position", "item"] "moves_between" (defScope s_moves_between) f cdv A outer s H E) E := passes_call (takes_of rfl rfl rfl rfl) (fun _ _ _ _ h => h)
  exact (dss_cons (ds_ownD (i := 2) (show 2 ∉ ([] : List Nat) by decide) sc_moves_between.nd rfl (Or.inr rfl) (de_dc (own := [("position", 3), ("item", 4)]) rfl sc_moves_between.nd (show ([3, 4] : List Nat).Nodup by decide) (show ∀ v ∈ ([3, 4] : List Nat), v ∉ ([] : List Nat) by decide) (show ∀ t ∈ ([3, 4] : List Nat), t ∈ ([3, 4] : List Nat) by decide) (uCi (di_enum rfl rfl T.b_enumerate (uCons (da_cons (dp_var (pv 1)) da_nil)))) (blkOk_by (by dsimp only [cxOf, L2.Cx.blk, relE, envE]; decide +kernel)) (fun _ _ _ _ _ => (dg_tup rfl rfl (dgs_cons (dg_name (i := 3) (show 3 ∉ ([] : List Nat) by decide) sc_moves_between.nd rfl (Or.inl rfl)) (dgs_cons (dg_name (i := 4) (show 4 ∉ ([] : List Nat) by decide) sc_moves_between.nd rfl (Or.inl rfl)) dgs_nil)))) (fun _ _ _ _ _ => dts_nil) (fun _ _ _ _ _ => (dp_var (pv 4))) (fun _ _ _ _ _ => (dp_var (pv 3))))) (dss_one (ds_ret (uFz (uLc (gok_nm (show 4 ∈ ([4] : List Nat) by decide)) (de_lc (own := [("item", 4)]) rfl sc_moves_between.nd (show ([4] : List Nat).Nodup by decide) (show ∀ v ∈ ([4] : List Nat), v ∉ ([] : List Nat) by decide) (show ∀ t ∈ ([4] : List Nat), t ∈ ([4] : List Nat) by decide) (uLi (di_list rfl (dp_var (pv 0)))) (blkOk_by (by dsimp only [cxOf, L2.Cx.blk, relE, envE]; decide +kernel)) (fun _ _ _ _ _ => (dg_name (i := 4) (show 4 ∉ ([] : List Nat) by decide) sc_moves_between.nd rfl (Or.inl rfl))) (fun _ _ _ _ _ => dts_nil) (fun _ _ _ _ _ => (e_dg hr (pv 2) (dp_var (pv 4))))))))))
/-! moves -/
abbrev s_moves : Stmt := top 24
theorem sc_moves : FnScope ["forest", "before", "after"] ["forest", "before", "after"] (defScope s_moves) := ⟨rfl, rfl, rfl, by decide +kernel, rfl, by decide +kernel, by decide +kernel⟩
def F_moves : En → Re Fl := (seqS (exS (Pu (pCr f_need_both (pCons (pV 0) (pCons (pV 1) (pCons (pV 2) (pNil))))))) (rtS (Pu (pCr f_moves_between (pCons (pV 1) (pCons (pV 2) (pNil)))))))
def f_moves : List D → Re D := dfP 3 3 F_moves
theorem ok_moves {P : Program} {w : World} {K : PySem.W.Frag} {mg : Str → Option Value} {base : Heap} {f : Addr} {fd : FuncData} (T : Txt K mg) (D_need_both : Dn P w K mg base 5 "need_both" ["forest", "before", "after"] (spP K mg f_need_both)) (D_moves_between : Dn P w K mg base 1 "moves_between" ["before", "after"] (spP K mg f_moves_between)) (F : Fun K "moves" "moves" s_moves f fd) : FnOkG P w K mg base (L2.CX P w) 6 f fd ["forest", "before", "after"] (spP K mg f_moves) :=
  fn_P (Fb := F_moves) F sc_moves fun cdv A outer s H E Hin Hb ma hr => by
  have hx : Passes (L2.CX P w) (cxOf (L2.CX P w) P w K mg base ["forest", "before", "after"] "moves" (defScope s_moves) f cdv A outer s H E) E := passes_call (takes_of rfl rfl rfl rfl) (fun _ _ _ _ h => h)
  exact (dss_cons (ds_expr (uCr (de_cr D_need_both hr rfl hx rfl rfl (uCons (da_cons (dp_var (pv 0)) (uCons (da_cons (dp_var (pv 1)) (uCons (da_cons (dp_var (pv 2)) da_nil))))))))) (dss_one (ds_ret (uCr (de_cr D_moves_between (hr.mono (show 1 ≤ 5 by decide)) rfl hx rfl rfl (uCons (da_cons (dp_var (pv 1)) (uCons (da_cons (dp_var (pv 2)) da_nil)))))))))
/-! order_fits -/
abbrev s_order_fits : Stmt := top 26
theorem sc_order_fits : FnScope ["forest", "before", "after", "thing"] ["forest", "before", "after", "thing"] (defScope s_order_fits) := ⟨rfl, rfl, rfl, by decide +kernel, rfl, by decide +kernel, by decide +kernel⟩
def F_order_fits : En → Re Fl := (seqS (exS (Pu (pCr f_moves (pCons (pV 0) (pCons (pV 1) (pCons (pV 2) (pNil))))))) (tryS y_NoOrder n_NoOrder (rtB (opT gEq (crT f_apply_order (pCons (pV 0) (pCons (pV 1) (pCons (pV 3) (pNil))))) (pV 2))) (rtS (Pu (pK (.bool false))))))
def f_order_fits : List D → Re D := dfP 4 4 F_order_fits
theorem ok_order_fits {P : Program} {w : World} {K : PySem.W.Frag} {mg : Str → Option Value} {base : Heap} {f : Addr} {fd : FuncData} (T : Txt K mg) (D_moves : Dn P w K mg base 6 "moves" ["forest", "before", "after"] (spP K mg f_moves)) (D_apply_order : Dn P w K mg base 5 "apply_order" ["forest", "items", "order"] (spP K mg f_apply_order)) (F : Fun K "order_fits" "order_fits" s_order_fits f fd) : FnOkG P w K mg base (L2.CX P w) 7 f fd ["forest", "before", "after", "thing"] (spP K mg f_order_fits) :=
  fn_P (Fb := F_order_fits) F sc_order_fits fun cdv A outer s H E Hin Hb ma hr => by
  have hx : Passes (L2.CX P w) (cxOf (L2.CX P w) P w K mg base ["forest", "before", "after", "thing"] "order_fits" (defScope s_order_fits) f cdv A outer s H E) E := passes_call (takes_of rfl rfl rfl rfl) (fun _ _ _ _ h => h)
  exact (dss_cons (ds_expr (uCr (de_cr D_moves hr rfl hx rfl rfl (uCons (da_cons (dp_var (pv 0)) (uCons (da_cons (dp_var (pv 1)) (uCons (da_cons (dp_var (pv 2)) da_nil))))))))) (dss_one (ds_tryE T.h_NoOrder (takes_of rfl rfl rfl rfl) (fun W pn xe tk => (dB_one (dB_ret (dT_eq hr (de_crT D_apply_order (hr.mono (show 5 ≤ 6 by decide)) tk (uCons (da_cons (dp_var (pv 0)) (uCons (da_cons (dp_var (pv 1)) (uCons (da_cons (dp_var (pv 3)) da_nil))))))) (dp_var (pv 2)))))) (fun a oe pn => (dss_one (ds_ret dp_bl))))))
/-! _law_source -/
abbrev s__law_source : Stmt := top 28
theorem sc__law_source : FnScope ["script", "digits", "state", "cell"] ["script"] (defScope s__law_source) := ⟨rfl, rfl, rfl, by decide +kernel, rfl, by decide +kernel, by decide +kernel⟩
def F__law_source : En → Re Fl := (seqS (agS (gTpN 2 (gsCons (gNm 1) (gsCons (gNm 2) gsNil))) (Pu (pTup (pCons (pK (.int 0)) (pCons (pK (.int 65537)) (pNil)))))) (seqS (forS (Pu (pLi (pSl gSl (pV 0) (pNoP) (pSoP (pK (.int 60)))))) (gNm 3) (seqS (ifS (Pu (pTe (pOp gGe (pCa gAbs (pCons (pV 3) (pNil))) (pOp gPow (pK (.int 10)) (pK (.int 18)))))) (asS 1 (Pu (pOp gAdd (pOp gMul (pV 1) (pOp gPow (pOp gPow (pK (.int 10)) (pK (.int 60))) (pK (.int 5)))) (pOp gMod (pCa gAbs (pCons (pV 3) (pNil))) (pOp gPow (pOp gPow (pK (.int 10)) (pK (.int 60))) (pK (.int 5))))))) nopS) (asS 2 (Pu (pOp gMod (pOp gAdd (pOp gAdd (pOp gMul (pV 2) (pK (.int 48271))) (pOp gMod (pV 3) (pK (.int 2147483629)))) (pK (.int 1))) (pK (.int 2305843009213693951))))))) (rfS (Pu (pLst (pCons (pV 1) (pCons (pV 2) (pCons (pK (.int 0)) (pNil)))))))))
def f__law_source : List D → Re (List D) := dfPF 1 4 F__law_source
theorem ok__law_source {P : Program} {w : World} {K : PySem.W.Frag} {mg : Str → Option Value} {base : Heap} {f : Addr} {fd : FuncData} (T : Txt K mg) (F : Fun K "_law_source" "_law_source" s__law_source f fd) : FnOkG P w K mg base (L2.CX P w) 1 f fd ["script"] (spPF K mg f__law_source) :=
  fn_PF (Fb := F__law_source) F sc__law_source fun cdv A outer s H E Hin Hb ma hr => by
  have hx : Passes (L2.CX P w) (cxOf (L2.CX P w) P w K mg base ["script", "digits", "state", "cell"] "_law_source" (defScope s__law_source) f cdv A outer s H E) E := passes_call (takes_of rfl rfl rfl rfl) (fun _ _ _ _ h => h)
  exact (dss_cons (ds_asg (uTup (de_tup (uCons (da_cons dp_int (uCons (da_cons dp_int da_nil)))))) (dg_tup rfl rfl (dgs_cons (dg_name (i := 1) (show 1 ∉ ([] : List Nat) by decide) sc__law_source.nd rfl (Or.inl rfl)) (dgs_cons (dg_name (i := 2) (show 2 ∉ ([] : List Nat) by decide) sc__law_source.nd rfl (Or.inl rfl)) dgs_nil)))) (dss_cons (ds_for (passes_of rfl) rfl (uLi (di_list rfl (uSl (de_sl (dp_var (pv 0)) do_none (uSo (do_some dp_int)) rfl)))) (dg_name (i := 3) (show 3 ∉ ([] : List Nat) by decide) sc__law_source.nd rfl (Or.inl rfl)) (dss_cons (ds_if (uTo (t_ge (uCa (e_abs T.b_abs (uCons (da_cons (dp_var (pv 3)) da_nil)))) (uOp (e_pow dp_int dp_int)))) (dss_one (ds_set (i := 1) (show 1 ∉ ([] : List Nat) by decide) sc__law_source.nd rfl (Or.inl rfl) (uOp (e_add (uOp (e_mul (dp_var (pv 1)) (uOp (e_pow (uOp (e_pow dp_int dp_int)) dp_int)))) (uOp (e_mod (uCa (e_abs T.b_abs (uCons (da_cons (dp_var (pv 3)) da_nil)))) (uOp (e_pow (uOp (e_pow dp_int dp_int)) dp_int)))))))) dss_nil) (dss_one (ds_set (i := 2) (show 2 ∉ ([] : List Nat) by decide) sc__law_source.nd rfl (Or.inl rfl) (uOp (e_mod (uOp (e_add (uOp (e_add (uOp (e_mul (dp_var (pv 2)) dp_int)) (uOp (e_mod (dp_var (pv 3)) dp_int)))) dp_int)) dp_int)))))) (dss_one (ds_retF (uLst (de_lst (uCons (da_cons (dp_var (pv 1)) (uCons (da_cons (dp_var (pv 2)) (uCons (da_cons dp_int da_nil))))))))))))
/-! _law_draw -/
abbrev s__law_draw : Stmt := top 29
theorem sc__law_draw : FnScope ["source", "wide", "digit", "mixed"] ["source", "wide"] (defScope s__law_draw) := ⟨rfl, rfl, rfl, by decide +kernel, rfl, by decide +kernel, by decide +kernel⟩
def F__law_draw : En → Re Fl := (seqS (ifS (Pu (pTe (pOp gGt (pIxB 0 (pK (.int 0))) (pK (.int 0))))) (seqS (asS 2 (Pu (pOp gMod (pIxB 0 (pK (.int 0))) (pV 1)))) (seqS (stS 0 (Pu (pK (.int 0))) (Pu (pOp gDiv (pIxB 0 (pK (.int 0))) (pV 1)))) (rtS (Pu (pV 2))))) nopS) (seqS (stS 0 (Pu (pK (.int 2))) (Pu (pOp gAdd (pIxB 0 (pK (.int 2))) (pK (.int 1))))) (seqS (asS 3 (Pu (pOp gMod (pOp gAdd (pIxB 0 (pK (.int 1))) (pOp gMul (pK (.int 1103515245)) (pIxB 0 (pK (.int 2))))) (pK (.int 2305843009213693951))))) (seqS (asS 3 (Pu (pOp gMod (pOp gMul (pV 3) (pV 3)) (pK (.int 2305843009213693951))))) (seqS (asS 3 (Pu (pOp gMod (pOp gAdd (pOp gMul (pV 3) (pK (.int 69069))) (pIxB 0 (pK (.int 2)))) (pK (.int 2305843009213693951))))) (rtS (Pu (pOp gMod (pOp gDiv (pOp gMod (pOp gMul (pV 3) (pV 3)) (pK (.int 2305843009213693951))) (pK (.int 1048583))) (pV 1)))))))))
def f__law_draw : List D → List D → Re (D × List D) := dfM 1 4 F__law_draw
theorem ok__law_draw {P : Program} {w : World} {K : PySem.W.Frag} {mg : Str → Option Value} {base : Heap} {f : Addr} {fd : FuncData} (T : Txt K mg) (F : Fun K "_law_draw" "_law_draw" s__law_draw f fd) : FnOkG P w K mg base (L2.CX P w) 1 f fd ["source", "wide"] (spM K mg f__law_draw) :=
  fn_M (Fb := F__law_draw) F sc__law_draw fun cdv A outer s H E Hin Hb ma hr => by
  have hx : Passes (L2.CX P w) (cxOf (L2.CX P w) P w K mg base ["source", "wide", "digit", "mixed"] "_law_draw" (defScope s__law_draw) f cdv A outer s H E) E := passes_call (takes_of rfl rfl rfl rfl) (fun _ _ _ _ h => h)
  exact (dss_cons (ds_if (uTo (t_gt (e_ixB (pv 0) dp_int) dp_int)) (dss_cons (ds_set (i := 2) (show 2 ∉ ([0] : List Nat) by decide) sc__law_draw.nd rfl (Or.inl rfl) (uOp (e_mod (e_ixB (pv 0) dp_int) (dp_var (pv 1))))) (dss_cons (ds_store (pv 0) dp_int (uOp (e_div (e_ixB (pv 0) dp_int) (dp_var (pv 1))))) (dss_one (ds_ret (dp_var (pv 2)))))) dss_nil) (dss_cons (ds_store (pv 0) dp_int (uOp (e_add (e_ixB (pv 0) dp_int) dp_int))) (dss_cons (ds_set (i := 3) (show 3 ∉ ([0] : List Nat) by decide) sc__law_draw.nd rfl (Or.inl rfl) (uOp (e_mod (uOp (e_add (e_ixB (pv 0) dp_int) (uOp (e_mul dp_int (e_ixB (pv 0) dp_int))))) dp_int))) (dss_cons (ds_set (i := 3) (show 3 ∉ ([0] : List Nat) by decide) sc__law_draw.nd rfl (Or.inl rfl) (uOp (e_mod (uOp (e_mul (dp_var (pv 3)) (dp_var (pv 3)))) dp_int))) (dss_cons (ds_set (i := 3) (show 3 ∉ ([0] : List Nat) by decide) sc__law_draw.nd rfl (Or.inl rfl) (uOp (e_mod (uOp (e_add (uOp (e_mul (dp_var (pv 3)) dp_int)) (e_ixB (pv 0) dp_int))) dp_int))) (dss_one (ds_ret (uOp (e_mod (uOp (e_div (uOp (e_mod (uOp (e_mul (dp_var (pv 3)) (dp_var (pv 3)))) dp_int)) dp_int)) (dp_var (pv 1)))))))))))
/-! _law_shuffled -/
abbrev s__law_shuffled : Stmt := top 30
theorem sc__law_shuffled : FnScope ["source", "values", "left", "value"] ["source", "values"] (defScope s__law_shuffled) := ⟨rfl, rfl, rfl, by decide +kernel, rfl, by decide +kernel, by decide +kernel⟩
def F__law_shuffled : En → Re Fl := (seqS (owS 2 (Pu (pCa gList (pCons (pV 1) (pNil))))) (rtS (fz (eLc (Pu (pLi (pV 1))) [3] (gNm 3) (Pu (fun _ => .ok true)) (eMu 2 mPopAt (eCons (eCm 0 (noer2 f__law_draw) (Pu (pCons (pLenB 2) (pNil)))) (Pu (pNil))))))))
def f__law_shuffled : List D → List D → Re (D × List D) := dfM 1 4 F__law_shuffled
theorem ok__law_shuffled {P : Program} {w : World} {K : PySem.W.Frag} {mg : Str → Option Value} {base : Heap} {f : Addr} {fd : FuncData} (T : Txt K mg) (D__law_draw : Dn P w K mg base 1 "_law_draw" ["source", "wide"] (spM K mg f__law_draw)) (F : Fun K "_law_shuffled" "_law_shuffled" s__law_shuffled f fd) : FnOkG P w K mg base (L2.CX P w) 2 f fd ["source", "values"] (spM K mg f__law_shuffled) :=
  fn_M (Fb := F__law_shuffled) F sc__law_shuffled fun cdv A outer s H E Hin Hb ma hr => by
  have hx : Passes (L2.CX P w) (cxOf (L2.CX P w) P w K mg base ["source", "values", "left", "value"] "_law_shuffled" (defScope s__law_shuffled) f cdv A outer s H E) E := passes_call (takes_of rfl rfl rfl rfl) (fun _ _ _ _ h => h)
  exact (dss_cons (ds_own (i := 2) (show 2 ∉ ([0] : List Nat) by decide) sc__law_shuffled.nd rfl (Or.inr rfl) (uCaF (e_list T.b_list (uCons (da_cons (dp_var (pv 1)) da_nil))))) (dss_one (ds_ret (de_frz (de_lc (own := [("value", 3)]) rfl sc__law_shuffled.nd (show ([3] : List Nat).Nodup by decide) (show ∀ v ∈ ([3] : List Nat), v ∉ ([0] : List Nat) by decide) (show ∀ t ∈ ([3] : List Nat), t ∈ ([3] : List Nat) by decide) (uLi (di_list rfl (dp_var (pv 1)))) (blkOk_by (by dsimp only [cxOf, L2.Cx.blk, relE, envE]; decide +kernel)) (fun _ _ _ _ _ => (dg_name (i := 3) (show 3 ∉ ([0] : List Nat) by decide) sc__law_shuffled.nd rfl (Or.inl rfl))) (fun _ _ _ _ _ => dts_nil) (fun _ _ _ _ _ => (de_mu PySem.F.slot_list_pop PySem.F.type_list_pop mt_popAt vPopAt (pv 2) (da_cons (de_cm0 D__law_draw hr rfl rfl rfl (pv 0) (uCons (da_cons (e_lenB T.b_len (pv 2)) da_nil))) da_nil))))))))
/-! _law_forest -/
abbrev s__law_forest : Stmt := top 31
theorem sc__law_forest : FnScope ["source", "most", "size", "places", "shape", "gaps", "edges", "k", "parent"] ["source", "most"] (defScope s__law_forest) := ⟨rfl, rfl, rfl, by decide +kernel, rfl, by decide +kernel, by decide +kernel⟩
def F__law_forest : En → Re Fl := (seqS (asS 2 (eOp gIx (fz (eLst (eCons (eOp gAdd (Pu (pK (.int 1))) (eCm 0 f__law_draw (Pu (pCons (pV 1) (pNil))))) (Pu (pCons (pV 1) (pNil)))))) (eOp gDiv (eCm 0 f__law_draw (Pu (pCons (pK (.int 4)) (pNil)))) (Pu (pK (.int 3)))))) (seqS (asS 3 (eCm 0 f__law_shuffled (Pu (pCons (pFz (pCa gLr1 (pCons (pV 2) pNil))) (pNil))))) (seqS (paS 4 5 (eCons (eCm 0 f__law_draw (Pu (pCons (pK (.int 4)) (pNil)))) (eCons (eOp gIx (Pu (pFz (pLst (pCons (pK (.int 1)) (pCons (pK (.int 9)) (pCons (pK (.int 3)) (pNil))))))) (eCm 0 f__law_draw (Pu (pCons (pK (.int 3)) (pNil))))) (Pu (pNil))))) (seqS (owS 6 (Pu (pLst (pNil)))) (seqS (forS (Pu (pCa gRg2 (pCons (pK (.int 1)) (pCons (pV 2) (pNil))))) (gNm 7) (seqS (asS 8 (eOp gIx (fz (eLst (eCons (Pu (pOp gSub (pV 7) (pK (.int 1)))) (eCons (Pu (pK (.int 0))) (eCons (eCm 0 f__law_draw (Pu (pCons (pV 7) (pNil)))) (eCons (eCa gMax (eCons (Pu (pK (.int 0))) (eCons (eOp gSub (Pu (pOp gSub (pV 7) (pK (.int 1)))) (eCm 0 f__law_draw (Pu (pCons (pK (.int 3)) (pNil))))) (Pu (pNil))))) (Pu (pNil)))))))) (Pu (pV 4)))) (ifS (eOr (Pu (pTe (pOp gEq (pV 5) (pK (.int 1))))) (eTe (eOp gGt (eCm 0 f__law_draw (Pu (pCons (pV 5) (pNil)))) (Pu (pK (.int 0)))))) (exS (eMu 6 mApp (Pu (pCons (pTup (pCons (pCa gMin (pCons (pOp gIx (pV 3) (pV 7)) (pCons (pOp gIx (pV 3) (pV 8)) (pNil)))) (pCons (pCa gMax (pCons (pOp gIx (pV 3) (pV 7)) (pCons (pOp gIx (pV 3) (pV 8)) (pNil)))) (pNil)))) (pNil))))) nopS))) (fzS 6 (rtS (Pu (pTup (pCons (pV 2) (pCons (pFz (pCa gSort (pCons (pV 6) (pNil)))) (pNil))))))))))))
def f__law_forest : List D → List D → Re (D × List D) := dfM 1 9 F__law_forest
theorem ok__law_forest {P : Program} {w : World} {K : PySem.W.Frag} {mg : Str → Option Value} {base : Heap} {f : Addr} {fd : FuncData} (T : Txt K mg) (D__law_draw : Dn P w K mg base 1 "_law_draw" ["source", "wide"] (spM K mg f__law_draw)) (D__law_shuffled : Dn P w K mg base 2 "_law_shuffled" ["source", "values"] (spM K mg f__law_shuffled)) (F : Fun K "_law_forest" "_law_forest" s__law_forest f fd) : FnOkG P w K mg base (L2.CX P w) 3 f fd ["source", "most"] (spM K mg f__law_forest) :=
  fn_M (Fb := F__law_forest) F sc__law_forest fun cdv A outer s H E Hin Hb ma hr => by
  have hx : Passes (L2.CX P w) (cxOf (L2.CX P w) P w K mg base ["source", "most", "size", "places", "shape", "gaps", "edges", "k", "parent"] "_law_forest" (defScope s__law_forest) f cdv A outer s H E) E := passes_call (takes_of rfl rfl rfl rfl) (fun _ _ _ _ h => h)
  exact (dss_cons (ds_set (i := 2) (show 2 ∉ ([0] : List Nat) by decide) sc__law_forest.nd rfl (Or.inl rfl) (e_ix (de_frz (de_lst (da_cons (e_add dp_int (de_cm D__law_draw (hr.mono (show 1 ≤ 2 by decide)) rfl hx rfl rfl (pv 0) (uCons (da_cons (dp_var (pv 1)) da_nil)))) (uCons (da_cons (dp_var (pv 1)) da_nil))))) (e_div (de_cm D__law_draw (hr.mono (show 1 ≤ 2 by decide)) rfl hx rfl rfl (pv 0) (uCons (da_cons dp_int da_nil))) dp_int))) (dss_cons (ds_set (i := 3) (show 3 ∉ ([0] : List Nat) by decide) sc__law_forest.nd rfl (Or.inl rfl) (de_cm D__law_shuffled hr rfl hx rfl rfl (pv 0) (uCons (da_cons (uFz (uLr1 (e_lrg1 T.b_list T.b_range (dp_var (pv 2))))) da_nil)))) (dss_cons (ds_par (i := 4) (j := 5) (show 4 ∉ ([0] : List Nat) by decide) (show 5 ∉ ([0] : List Nat) by decide) rfl sc__law_forest.nd rfl rfl (by decide) rfl rfl (da_cons (de_cm D__law_draw (hr.mono (show 1 ≤ 2 by decide)) rfl hx rfl rfl (pv 0) (uCons (da_cons dp_int da_nil))) (da_cons (e_ix (uFz (uLst (de_lst (uCons (da_cons dp_int (uCons (da_cons dp_int (uCons (da_cons dp_int da_nil))))))))) (de_cm D__law_draw (hr.mono (show 1 ≤ 2 by decide)) rfl hx rfl rfl (pv 0) (uCons (da_cons dp_int da_nil)))) da_nil)) (by rfl)) (dss_cons (ds_own (i := 6) (show 6 ∉ ([0] : List Nat) by decide) sc__law_forest.nd rfl (Or.inl rfl) (uLst (de_lst da_nil))) (dss_cons (ds_for (passes_of rfl) rfl (uCi (di_range2 rfl T.b_range (uCons (da_cons dp_int (uCons (da_cons (dp_var (pv 2)) da_nil)))))) (dg_name (i := 7) (show 7 ∉ ([0] : List Nat) by decide) sc__law_forest.nd rfl (Or.inl rfl)) (dss_cons (ds_set (i := 8) (show 8 ∉ ([0] : List Nat) by decide) sc__law_forest.nd rfl (Or.inl rfl) (e_ix (de_frz (de_lst (da_cons (uOp (e_sub (dp_var (pv 7)) dp_int)) (da_cons dp_int (da_cons (de_cm D__law_draw (hr.mono (show 1 ≤ 2 by decide)) rfl hx rfl rfl (pv 0) (uCons (da_cons (dp_var (pv 7)) da_nil))) (da_cons (e_max T.b_max (da_cons dp_int (da_cons (e_sub (uOp (e_sub (dp_var (pv 7)) dp_int)) (de_cm D__law_draw (hr.mono (show 1 ≤ 2 by decide)) rfl hx rfl rfl (pv 0) (uCons (da_cons dp_int da_nil)))) da_nil))) da_nil)))))) (dp_var (pv 4)))) (dss_one (ds_if (PW.pt (de_or (uTo (t_eq hr (dp_var (pv 5)) dp_int)) (de_or1 (t_gt (de_cm D__law_draw (hr.mono (show 1 ≤ 2 by decide)) rfl hx rfl rfl (pv 0) (uCons (da_cons (dp_var (pv 5)) da_nil))) dp_int)))) (dss_one (ds_expr (de_mu PySem.F.slot_list_append PySem.F.type_list_append mt_append vApp (pv 6) (uCons (da_cons (uTup (de_tup (uCons (da_cons (uCa (e_min T.b_min (uCons (da_cons (uOp (e_ix (dp_var (pv 3)) (dp_var (pv 7)))) (uCons (da_cons (uOp (e_ix (dp_var (pv 3)) (dp_var (pv 8)))) da_nil)))))) (uCons (da_cons (uCa (e_max T.b_max (uCons (da_cons (uOp (e_ix (dp_var (pv 3)) (dp_var (pv 7)))) (uCons (da_cons (uOp (e_ix (dp_var (pv 3)) (dp_var (pv 8)))) da_nil)))))) da_nil)))))) da_nil))))) dss_nil)))) (dss_fz (show 6 ∉ ([0] : List Nat) by decide) (dss_one (ds_ret (uTup (de_tup (uCons (da_cons (dp_var (pv 2)) (uCons (da_cons (uFz (uCaF (e_sorted hr T.b_sorted (uCons (da_cons (dp_var (pv 6)) da_nil))))) da_nil))))))))))))))
/-! _law_items -/
abbrev s__law_items : Stmt := top 32
theorem sc__law_items : FnScope ["source", "size", "letters", "style", "found", "k", "long"] ["source", "size"] (defScope s__law_items) := ⟨rfl, rfl, rfl, by decide +kernel, rfl, by decide +kernel, by decide +kernel⟩
def F__law_items : En → Re Fl := (seqS (asS 2 (Pu (pK (.str "abcdefghijklmnopqrstuvwxyz")))) (seqS (asS 3 (eCm 0 f__law_draw (Pu (pCons (pK (.int 3)) (pNil))))) (seqS (owS 4 (Pu (pLst (pNil)))) (seqS (forS (Pu (pCa gRg1 (pCons (pV 1) (pNil)))) (gNm 5) (seqS (asS 6 (Pu (pOp gAdd (pOp gIx (pV 2) (pOp gDiv (pV 5) (pK (.int 26)))) (pOp gIx (pV 2) (pOp gMod (pV 5) (pK (.int 26))))))) (exS (eMu 4 mApp (Pu (pCons (pOp gIx (pFz (pLst (pCons (pIf (pTe (pOp gLt (pV 5) (pK (.int 26)))) (pOp gIx (pV 2) (pV 5)) (pV 6)) (pCons (pV 6) (pCons (pOp gAdd (pV 6) (pK (.str "zzzzzz"))) (pNil)))))) (pV 3)) (pNil))))))) (fzS 4 (rtS (eCm 0 f__law_shuffled (Pu (pCons (pV 4) (pNil))))))))))
def f__law_items : List D → List D → Re (D × List D) := dfM 1 7 F__law_items
theorem ok__law_items {P : Program} {w : World} {K : PySem.W.Frag} {mg : Str → Option Value} {base : Heap} {f : Addr} {fd : FuncData} (T : Txt K mg) (D__law_draw : Dn P w K mg base 1 "_law_draw" ["source", "wide"] (spM K mg f__law_draw)) (D__law_shuffled : Dn P w K mg base 2 "_law_shuffled" ["source", "values"] (spM K mg f__law_shuffled)) (F : Fun K "_law_items" "_law_items" s__law_items f fd) : FnOkG P w K mg base (L2.CX P w) 3 f fd ["source", "size"] (spM K mg f__law_items) :=
  fn_M (Fb := F__law_items) F sc__law_items fun cdv A outer s H E Hin Hb ma hr => by
  have hx : Passes (L2.CX P w) (cxOf (L2.CX P w) P w K mg base ["source", "size", "letters", "style", "found", "k", "long"] "_law_items" (defScope s__law_items) f cdv A outer s H E) E := passes_call (takes_of rfl rfl rfl rfl) (fun _ _ _ _ h => h)
  exact (dss_cons (ds_set (i := 2) (show 2 ∉ ([0] : List Nat) by decide) sc__law_items.nd rfl (Or.inl rfl) dp_str) (dss_cons (ds_set (i := 3) (show 3 ∉ ([0] : List Nat) by decide) sc__law_items.nd rfl (Or.inl rfl) (de_cm D__law_draw (hr.mono (show 1 ≤ 2 by decide)) rfl hx rfl rfl (pv 0) (uCons (da_cons dp_int da_nil)))) (dss_cons (ds_own (i := 4) (show 4 ∉ ([0] : List Nat) by decide) sc__law_items.nd rfl (Or.inl rfl) (uLst (de_lst da_nil))) (dss_cons (ds_for (passes_of rfl) rfl (uCi (di_range1 rfl T.b_range (uCons (da_cons (dp_var (pv 1)) da_nil)))) (dg_name (i := 5) (show 5 ∉ ([0] : List Nat) by decide) sc__law_items.nd rfl (Or.inl rfl)) (dss_cons (ds_set (i := 6) (show 6 ∉ ([0] : List Nat) by decide) sc__law_items.nd rfl (Or.inl rfl) (uOp (e_add (uOp (e_ix (dp_var (pv 2)) (uOp (e_div (dp_var (pv 5)) dp_int)))) (uOp (e_ix (dp_var (pv 2)) (uOp (e_mod (dp_var (pv 5)) dp_int))))))) (dss_one (ds_expr (de_mu PySem.F.slot_list_append PySem.F.type_list_append mt_append vApp (pv 4) (uCons (da_cons (uOp (e_ix (uFz (uLst (de_lst (uCons (da_cons (uIf (de_ifExp (uTo (t_lt hr (dp_var (pv 5)) dp_int)) (uOp (e_ix (dp_var (pv 2)) (dp_var (pv 5)))) (dp_var (pv 6)))) (uCons (da_cons (dp_var (pv 6)) (uCons (da_cons (uOp (e_add (dp_var (pv 6)) dp_str)) da_nil))))))))) (dp_var (pv 3)))) da_nil))))))) (dss_fz (show 4 ∉ ([0] : List Nat) by decide) (dss_one (ds_ret (de_cm D__law_shuffled hr rfl hx rfl rfl (pv 0) (uCons (da_cons (dp_var (pv 4)) da_nil))))))))))
/-! _law_applied -/
abbrev s__law_applied : Stmt := top 33
theorem sc__law_applied : FnScope ["items", "order", "found", "p", "q"] ["items", "order"] (defScope s__law_applied) := ⟨rfl, rfl, rfl, by decide +kernel, rfl, by decide +kernel, by decide +kernel⟩
def F__law_applied : En → Re Fl := (seqS (owS 2 (Pu (pCa gList (pCons (pV 0) (pNil))))) (seqS (forS (Pu (pLi (pV 1))) (gTpN 2 (gsCons (gNm 3) (gsCons (gNm 4) gsNil))) (swS 2 (pV 3) (pV 4) (Pu (pTup (pCons (pIxB 2 (pV 4)) (pCons (pIxB 2 (pV 3)) (pNil))))))) (roS 2)))
def f__law_applied : List D → Re (List D) := dfPF 2 5 F__law_applied
theorem ok__law_applied {P : Program} {w : World} {K : PySem.W.Frag} {mg : Str → Option Value} {base : Heap} {f : Addr} {fd : FuncData} (T : Txt K mg) (F : Fun K "_law_applied" "_law_applied" s__law_applied f fd) : FnOkG P w K mg base (L2.CX P w) 1 f fd ["items", "order"] (spPF K mg f__law_applied) :=
  fn_PF (Fb := F__law_applied) F sc__law_applied fun cdv A outer s H E Hin Hb ma hr => by
  have hx : Passes (L2.CX P w) (cxOf (L2.CX P w) P w K mg base ["items", "order", "found", "p", "q"] "_law_applied" (defScope s__law_applied) f cdv A outer s H E) E := passes_call (takes_of rfl rfl rfl rfl) (fun _ _ _ _ h => h)
  exact (dss_cons (ds_own (i := 2) (show 2 ∉ ([] : List Nat) by decide) sc__law_applied.nd rfl (Or.inl rfl) (uCaF (e_list T.b_list (uCons (da_cons (dp_var (pv 0)) da_nil))))) (dss_cons (ds_for (passes_of rfl) rfl (uLi (di_list rfl (dp_var (pv 1)))) (dg_tup rfl rfl (dgs_cons (dg_name (i := 3) (show 3 ∉ ([] : List Nat) by decide) sc__law_applied.nd rfl (Or.inl rfl)) (dgs_cons (dg_name (i := 4) (show 4 ∉ ([] : List Nat) by decide) sc__law_applied.nd rfl (Or.inl rfl)) dgs_nil))) (dss_one (ds_swap rfl (pv 2) (pv 2) (dp_var (pv 3)) (dp_var (pv 4)) (uTup (de_tup (uCons (da_cons (e_ixB (pv 2) (dp_var (pv 4))) (uCons (da_cons (e_ixB (pv 2) (dp_var (pv 3))) da_nil))))))))) (dss_one (ds_retO (show 2 ∉ ([] : List Nat) by decide) (pv 2)))))
/-! _law_same_class -/
abbrev s__law_same_class : Stmt := top 34
theorem sc__law_same_class : FnScope ["source", "order", "found", "turn", "k", "p"] ["source", "order"] (defScope s__law_same_class) := ⟨rfl, rfl, rfl, by decide +kernel, rfl, by decide +kernel, by decide +kernel⟩
def F__law_same_class : En → Re Fl := (seqS (owS 2 (Pu (pCa gList (pCons (pV 1) (pNil))))) (seqS (forS (Pu (pCa gRg1 (pCons (pOp gMul (pK (.int 3)) (pCa gLen (pCons (pV 1) (pNil)))) (pNil)))) (gNm 3) (seqS (asS 4 (eCm 0 f__law_draw (Pu (pCons (pCa gMax (pCons (pK (.int 1)) (pCons (pOp gSub (pCa gLen (pCons (pV 1) (pNil))) (pK (.int 1))) (pNil)))) (pNil))))) (ifS (Pu (pAnd (pTe (pOp gLt (pOp gAdd (pV 4) (pK (.int 1))) (pCa gLen (pCons (pV 1) (pNil))))) (pTe (pOp gEq (pFz (pLc (pTi (pIxB 2 (pV 4))) [5] (gNm 5) (pTe (pOp gIn (pV 5) (pIxB 2 (pOp gAdd (pV 4) (pK (.int 1)))))) (pV 5))) (pFz (pLst (pNil))))))) (swS 2 (pV 4) (pOp gAdd (pV 4) (pK (.int 1))) (Pu (pTup (pCons (pIxB 2 (pOp gAdd (pV 4) (pK (.int 1)))) (pCons (pIxB 2 (pV 4)) (pNil)))))) nopS))) (fzS 2 (rtS (Pu (pV 2))))))
def f__law_same_class : List D → List D → Re (D × List D) := dfM 1 6 F__law_same_class
theorem ok__law_same_class {P : Program} {w : World} {K : PySem.W.Frag} {mg : Str → Option Value} {base : Heap} {f : Addr} {fd : FuncData} (T : Txt K mg) (D__law_draw : Dn P w K mg base 1 "_law_draw" ["source", "wide"] (spM K mg f__law_draw)) (F : Fun K "_law_same_class" "_law_same_class" s__law_same_class f fd) : FnOkG P w K mg base (L2.CX P w) 2 f fd ["source", "order"] (spM K mg f__law_same_class) :=
  fn_M (Fb := F__law_same_class) F sc__law_same_class fun cdv A outer s H E Hin Hb ma hr => by
  have hx : Passes (L2.CX P w) (cxOf (L2.CX P w) P w K mg base ["source", "order", "found", "turn", "k", "p"] "_law_same_class" (defScope s__law_same_class) f cdv A outer s H E) E := passes_call (takes_of rfl rfl rfl rfl) (fun _ _ _ _ h => h)
  exact (dss_cons (ds_own (i := 2) (show 2 ∉ ([0] : List Nat) by decide) sc__law_same_class.nd rfl (Or.inr rfl) (uCaF (e_list T.b_list (uCons (da_cons (dp_var (pv 1)) da_nil))))) (dss_cons (ds_for (passes_of rfl) rfl (uCi (di_range1 rfl T.b_range (uCons (da_cons (uOp (e_mul dp_int (uCa (e_len T.b_len (uCons (da_cons (dp_var (pv 1)) da_nil)))))) da_nil)))) (dg_name (i := 3) (show 3 ∉ ([0] : List Nat) by decide) sc__law_same_class.nd rfl (Or.inl rfl)) (dss_cons (ds_set (i := 4) (show 4 ∉ ([0] : List Nat) by decide) sc__law_same_class.nd rfl (Or.inr rfl) (de_cm D__law_draw hr rfl hx rfl rfl (pv 0) (uCons (da_cons (uCa (e_max T.b_max (uCons (da_cons dp_int (uCons (da_cons (uOp (e_sub (uCa (e_len T.b_len (uCons (da_cons (dp_var (pv 1)) da_nil)))) dp_int)) da_nil)))))) da_nil)))) (dss_one (ds_if (PW.pt (uAnd (de_and (uTo (t_lt hr (uOp (e_add (dp_var (pv 4)) dp_int)) (uCa (e_len T.b_len (uCons (da_cons (dp_var (pv 1)) da_nil)))))) (de_and1 (uTo (t_eq hr (uFz (uLc (gok_nm (show 5 ∈ ([5] : List Nat) by decide)) (de_lc (own := [("p", 5)]) rfl sc__law_same_class.nd (show ([5] : List Nat).Nodup by decide) (show ∀ v ∈ ([5] : List Nat), v ∉ ([0] : List Nat) by decide) (show ∀ t ∈ ([5] : List Nat), t ∈ ([5] : List Nat) by decide) (uTi (di_tup rfl (e_ixB (pv 2) (dp_var (pv 4))))) (blkOk_by (by dsimp only [cxOf, L2.Cx.blk, relE, envE]; decide +kernel)) (fun _ _ _ _ _ => (dg_name (i := 5) (show 5 ∉ ([0] : List Nat) by decide) sc__law_same_class.nd rfl (Or.inl rfl))) (fun _ _ _ _ _ => (dts_one (uTo (t_in hr (dp_var (pv 5)) (e_ixB (pv 2) (uOp (e_add (dp_var (pv 4)) dp_int))))))) (fun _ _ _ _ _ => (dp_var (pv 5)))))) (uFz (uLst (de_lst da_nil))))))))) (dss_one (ds_swap rfl (pv 2) (pv 2) (dp_var (pv 4)) (uOp (e_add (dp_var (pv 4)) dp_int)) (uTup (de_tup (uCons (da_cons (e_ixB (pv 2) (uOp (e_add (dp_var (pv 4)) dp_int))) (uCons (da_cons (e_ixB (pv 2) (dp_var (pv 4))) da_nil)))))))) dss_nil)))) (dss_fz (show 2 ∉ ([0] : List Nat) by decide) (dss_one (ds_ret (dp_var (pv 2)))))))
/-! _law_spoilt -/
abbrev s__law_spoilt : Stmt := top 35
theorem sc__law_spoilt : FnScope ["source", "order", "size", "k", "p", "q", "entry", "one", "other", "some"] ["source", "order", "size"] (defScope s__law_spoilt) := ⟨rfl, rfl, rfl, by decide +kernel, rfl, by decide +kernel, by decide +kernel⟩
def F__law_spoilt : En → Re Fl := (seqS (asS 3 (eCm 0 f__law_draw (Pu (pCons (pCa gMax (pCons (pK (.int 1)) (pCons (pCa gLen (pCons (pV 1) (pNil))) (pNil)))) (pNil))))) (seqS (agS (gTpN 2 (gsCons (gNm 4) (gsCons (gNm 5) gsNil))) (Pu (pIf (pTe (pOp gNe (pV 1) (pFz (pLst (pNil))))) (pOp gIx (pV 1) (pV 3)) (pTup (pCons (pK (.int 0)) (pCons (pK (.int 1)) (pNil))))))) (seqS (asS 6 (Pu (pFz (pLst (pCons (pTup (pCons (pV 5) (pCons (pV 4) (pNil)))) (pCons (pFz (pLst (pCons (pV 4) (pCons (pV 5) (pNil))))) (pCons (pTup (pCons (pV 4) (pCons (pV 5) (pCons (pV 5) (pNil))))) (pCons (pTup (pCons (pV 4) (pNil))) (pCons (pK .none) (pCons (pV 4) (pCons (pTup (pCons (pV 4) (pCons (pV 2) (pNil)))) (pCons (pTup (pCons (pUn gNeg (pK (.int 1))) (pCons (pV 5) (pNil)))) (pCons (pTup (pCons (pV 4) (pCons (pOp gAdd (pV 5) (pOp gPow (pK (.int 10)) (pK (.int 59)))) (pNil)))) (pCons (pK (.str "0-1")) (pNil))))))))))))))) (seqS (asS 6 (Pu (pOp gAdd (pV 6) (pFz (pLst (pCons (pTup (pCons (pOp gGt (pV 4) (pK (.int 0))) (pCons (pV 5) (pNil)))) (pCons (pTup (pCons (pK (.bool true)) (pCons (pK (.bool false)) (pNil)))) (pCons (pTup (pCons (pCa gStr (pCons (pV 4) (pNil))) (pCons (pV 5) (pNil)))) (pCons (pTup (pCons (pV 4) (pCons (pK .none) (pNil)))) (pCons (pTup (pCons (pTup (pCons (pV 4) (pCons (pV 5) (pNil)))) (pNil))) (pCons (pTup (pNil)) (pNil)))))))))))) (seqS (paS 7 8 (eCons (eCm 0 f__law_draw (Pu (pCons (pV 2) (pNil)))) (eCons (eCm 0 f__law_draw (Pu (pCons (pV 2) (pNil)))) (Pu (pNil))))) (seqS (asS 7 (eOp gIx (Pu (pOp gAdd (pV 6) (pFz (pRep (pLst (pCons (pTup (pCons (pCa gMin (pCons (pV 7) (pCons (pV 8) (pNil)))) (pCons (pCa gMax (pCons (pV 7) (pCons (pV 8) (pNil)))) (pNil)))) (pNil))) (pK (.int 3)))))) (eCm 0 f__law_draw (Pu (pCons (pK (.int 19)) (pNil)))))) (seqS (asS 9 (Pu (pFz (pLst (pCons (pCa gTuple (pCons (pV 1) (pNil))) (pCons (pOp gAdd (pSl gSl (pV 1) (pNoP) (pSoP (pV 3))) (pSl gSl (pV 1) (pSoP (pOp gAdd (pV 3) (pK (.int 1)))) (pNoP))) (pCons (pOp gAdd (pV 1) (pSl gSl (pV 1) (pSoP (pV 3)) (pSoP (pOp gAdd (pV 3) (pK (.int 1)))))) (pCons (pOp gAdd (pOp gAdd (pSl gSl (pV 1) (pNoP) (pSoP (pV 3))) (pFz (pLst (pCons (pV 7) (pNil))))) (pSl gSl (pV 1) (pSoP (pOp gAdd (pV 3) (pK (.int 1)))) (pNoP))) (pNil))))))))) (seqS (asS 9 (Pu (pOp gAdd (pV 9) (pFz (pLst (pCons (pOp gAdd (pOp gAdd (pSl gSl (pV 1) (pNoP) (pSoP (pV 3))) (pFz (pLst (pCons (pV 7) (pNil))))) (pSl gSl (pV 1) (pSoP (pV 3)) (pNoP))) (pCons (pK .none) (pCons (pK (.int 0)) (pCons (pK (.bool true)) (pCons (pK (.str "")) (pCons (pK (.str "0-1")) (pCons (pTup (pNil)) (pCons (pFz (pLst (pCons (pFz (pLst (pNil))) (pNil)))) (pCons (pFz (pLst (pCons (pK .none) (pNil)))) (pCons (pFz (pLst (pCons (pV 1) (pNil)))) (pNil)))))))))))))))) (seqS (asS 9 (Pu (pOp gAdd (pV 9) (pFz (pRep (pLst (pCons (pOp gAdd (pOp gAdd (pSl gSl (pV 1) (pNoP) (pSoP (pV 3))) (pSl gSl (pSl gSl (pV 1) (pSoP (pOp gSub (pV 3) (pK (.int 1)))) (pNoP)) (pNoP) (pSoP (pK (.int 1))))) (pSl gSl (pV 1) (pSoP (pOp gAdd (pV 3) (pK (.int 1)))) (pNoP))) (pNil))) (pK (.int 2))))))) (rtS (eOp gIx (Pu (pV 9)) (eCm 0 f__law_draw (Pu (pCons (pK (.int 16)) (pNil)))))))))))))))
def f__law_spoilt : List D → List D → Re (D × List D) := dfM 2 10 F__law_spoilt
theorem ok__law_spoilt {P : Program} {w : World} {K : PySem.W.Frag} {mg : Str → Option Value} {base : Heap} {f : Addr} {fd : FuncData} (T : Txt K mg) (D__law_draw : Dn P w K mg base 1 "_law_draw" ["source", "wide"] (spM K mg f__law_draw)) (F : Fun K "_law_spoilt" "_law_spoilt" s__law_spoilt f fd) : FnOkG P w K mg base (L2.CX P w) 2 f fd ["source", "order", "size"] (spM K mg f__law_spoilt) :=
  fn_M (Fb := F__law_spoilt) F sc__law_spoilt fun cdv A outer s H E Hin Hb ma hr => by
  have hx : Passes (L2.CX P w) (cxOf (L2.CX P w) P w K mg base ["source", "order", "size", "k", "p", "q", "entry", "one", "other", "some"] "_law_spoilt" (defScope s__law_spoilt) f cdv A outer s H E) E := passes_call (takes_of rfl rfl rfl rfl) (fun _ _ _ _ h => h)
  exact (dss_cons (ds_set (i := 3) (show 3 ∉ ([0] : List Nat) by decide) sc__law_spoilt.nd rfl (Or.inl rfl) (de_cm D__law_draw hr rfl hx rfl rfl (pv 0) (uCons (da_cons (uCa (e_max T.b_max (uCons (da_cons dp_int (uCons (da_cons (uCa (e_len T.b_len (uCons (da_cons (dp_var (pv 1)) da_nil)))) da_nil)))))) da_nil)))) (dss_cons (ds_asg (uIf (de_ifExp (uTo (t_ne hr (dp_var (pv 1)) (uFz (uLst (de_lst da_nil))))) (uOp (e_ix (dp_var (pv 1)) (dp_var (pv 3)))) (uTup (de_tup (uCons (da_cons dp_int (uCons (da_cons dp_int da_nil)))))))) (dg_tup rfl rfl (dgs_cons (dg_name (i := 4) (show 4 ∉ ([0] : List Nat) by decide) sc__law_spoilt.nd rfl (Or.inl rfl)) (dgs_cons (dg_name (i := 5) (show 5 ∉ ([0] : List Nat) by decide) sc__law_spoilt.nd rfl (Or.inl rfl)) dgs_nil)))) (dss_cons (ds_set (i := 6) (show 6 ∉ ([0] : List Nat) by decide) sc__law_spoilt.nd rfl (Or.inl rfl) (uFz (uLst (de_lst (uCons (da_cons (uTup (de_tup (uCons (da_cons (dp_var (pv 5)) (uCons (da_cons (dp_var (pv 4)) da_nil)))))) (uCons (da_cons (uFz (uLst (de_lst (uCons (da_cons (dp_var (pv 4)) (uCons (da_cons (dp_var (pv 5)) da_nil))))))) (uCons (da_cons (uTup (de_tup (uCons (da_cons (dp_var (pv 4)) (uCons (da_cons (dp_var (pv 5)) (uCons (da_cons (dp_var (pv 5)) da_nil)))))))) (uCons (da_cons (uTup (de_tup (uCons (da_cons (dp_var (pv 4)) da_nil)))) (uCons (da_cons dp_non (uCons (da_cons (dp_var (pv 4)) (uCons (da_cons (uTup (de_tup (uCons (da_cons (dp_var (pv 4)) (uCons (da_cons (dp_var (pv 2)) da_nil)))))) (uCons (da_cons (uTup (de_tup (uCons (da_cons (uUn (de_neg dp_int)) (uCons (da_cons (dp_var (pv 5)) da_nil)))))) (uCons (da_cons (uTup (de_tup (uCons (da_cons (dp_var (pv 4)) (uCons (da_cons (uOp (e_add (dp_var (pv 5)) (uOp (e_pow dp_int dp_int)))) da_nil)))))) (uCons (da_cons dp_str da_nil)))))))))))))))))))))))) (dss_cons (ds_set (i := 6) (show 6 ∉ ([0] : List Nat) by decide) sc__law_spoilt.nd rfl (Or.inl rfl) (uOp (e_add (dp_var (pv 6)) (uFz (uLst (de_lst (uCons (da_cons (uTup (de_tup (uCons (da_cons (uOp (e_gt (dp_var (pv 4)) dp_int)) (uCons (da_cons (dp_var (pv 5)) da_nil)))))) (uCons (da_cons (uTup (de_tup (uCons (da_cons dp_bl (uCons (da_cons dp_bl da_nil)))))) (uCons (da_cons (uTup (de_tup (uCons (da_cons (uCa (e_str T.b_str (uCons (da_cons (dp_var (pv 4)) da_nil)))) (uCons (da_cons (dp_var (pv 5)) da_nil)))))) (uCons (da_cons (uTup (de_tup (uCons (da_cons (dp_var (pv 4)) (uCons (da_cons dp_non da_nil)))))) (uCons (da_cons (uTup (de_tup (uCons (da_cons (uTup (de_tup (uCons (da_cons (dp_var (pv 4)) (uCons (da_cons (dp_var (pv 5)) da_nil)))))) da_nil)))) (uCons (da_cons (uTup (de_tup da_nil)) da_nil)))))))))))))))))) (dss_cons (ds_par (i := 7) (j := 8) (show 7 ∉ ([0] : List Nat) by decide) (show 8 ∉ ([0] : List Nat) by decide) rfl sc__law_spoilt.nd rfl rfl (by decide) rfl rfl (da_cons (de_cm D__law_draw hr rfl hx rfl rfl (pv 0) (uCons (da_cons (dp_var (pv 2)) da_nil))) (da_cons (de_cm D__law_draw hr rfl hx rfl rfl (pv 0) (uCons (da_cons (dp_var (pv 2)) da_nil))) da_nil)) (by rfl)) (dss_cons (ds_set (i := 7) (show 7 ∉ ([0] : List Nat) by decide) sc__law_spoilt.nd rfl (Or.inl rfl) (e_ix (uOp (e_add (dp_var (pv 6)) (uFz (uRep (de_rep (uLst (de_lst (uCons (da_cons (uTup (de_tup (uCons (da_cons (uCa (e_min T.b_min (uCons (da_cons (dp_var (pv 7)) (uCons (da_cons (dp_var (pv 8)) da_nil)))))) (uCons (da_cons (uCa (e_max T.b_max (uCons (da_cons (dp_var (pv 7)) (uCons (da_cons (dp_var (pv 8)) da_nil)))))) da_nil)))))) da_nil)))) dp_int))))) (de_cm D__law_draw hr rfl hx rfl rfl (pv 0) (uCons (da_cons dp_int da_nil))))) (dss_cons (ds_set (i := 9) (show 9 ∉ ([0] : List Nat) by decide) sc__law_spoilt.nd rfl (Or.inl rfl) (uFz (uLst (de_lst (uCons (da_cons (uCa (e_tuple T.b_tuple (uCons (da_cons (dp_var (pv 1)) da_nil)))) (uCons (da_cons (uOp (e_add (uSl (de_sl (dp_var (pv 1)) do_none (uSo (do_some (dp_var (pv 3)))) rfl)) (uSl (de_sl (dp_var (pv 1)) (uSo (do_some (uOp (e_add (dp_var (pv 3)) dp_int)))) do_none rfl)))) (uCons (da_cons (uOp (e_add (dp_var (pv 1)) (uSl (de_sl (dp_var (pv 1)) (uSo (do_some (dp_var (pv 3)))) (uSo (do_some (uOp (e_add (dp_var (pv 3)) dp_int)))) rfl)))) (uCons (da_cons (uOp (e_add (uOp (e_add (uSl (de_sl (dp_var (pv 1)) do_none (uSo (do_some (dp_var (pv 3)))) rfl)) (uFz (uLst (de_lst (uCons (da_cons (dp_var (pv 7)) da_nil))))))) (uSl (de_sl (dp_var (pv 1)) (uSo (do_some (uOp (e_add (dp_var (pv 3)) dp_int)))) do_none rfl)))) da_nil)))))))))))) (dss_cons (ds_set (i := 9) (show 9 ∉ ([0] : List Nat) by decide) sc__law_spoilt.nd rfl (Or.inl rfl) (uOp (e_add (dp_var (pv 9)) (uFz (uLst (de_lst (uCons (da_cons (uOp (e_add (uOp (e_add (uSl (de_sl (dp_var (pv 1)) do_none (uSo (do_some (dp_var (pv 3)))) rfl)) (uFz (uLst (de_lst (uCons (da_cons (dp_var (pv 7)) da_nil))))))) (uSl (de_sl (dp_var (pv 1)) (uSo (do_some (dp_var (pv 3)))) do_none rfl)))) (uCons (da_cons dp_non (uCons (da_cons dp_int (uCons (da_cons dp_bl (uCons (da_cons dp_str (uCons (da_cons dp_str (uCons (da_cons (uTup (de_tup da_nil)) (uCons (da_cons (uFz (uLst (de_lst (uCons (da_cons (uFz (uLst (de_lst da_nil))) da_nil))))) (uCons (da_cons (uFz (uLst (de_lst (uCons (da_cons dp_non da_nil))))) (uCons (da_cons (uFz (uLst (de_lst (uCons (da_cons (dp_var (pv 1)) da_nil))))) da_nil)))))))))))))))))))))))))) (dss_cons (ds_set (i := 9) (show 9 ∉ ([0] : List Nat) by decide) sc__law_spoilt.nd rfl (Or.inl rfl) (uOp (e_add (dp_var (pv 9)) (uFz (uRep (de_rep (uLst (de_lst (uCons (da_cons (uOp (e_add (uOp (e_add (uSl (de_sl (dp_var (pv 1)) do_none (uSo (do_some (dp_var (pv 3)))) rfl)) (uSl (de_sl (uSl (de_sl (dp_var (pv 1)) (uSo (do_some (uOp (e_sub (dp_var (pv 3)) dp_int)))) do_none rfl)) do_none (uSo (do_some dp_int)) rfl)))) (uSl (de_sl (dp_var (pv 1)) (uSo (do_some (uOp (e_add (dp_var (pv 3)) dp_int)))) do_none rfl)))) da_nil)))) dp_int)))))) (dss_one (ds_ret (e_ix (dp_var (pv 9)) (de_cm D__law_draw hr rfl hx rfl rfl (pv 0) (uCons (da_cons dp_int da_nil)))))))))))))))
/-! _law_is_order -/
abbrev s__law_is_order : Stmt := top 36
theorem sc__law_is_order : FnScope ["edges", "thing", "entry", "p"] ["edges", "thing"] (defScope s__law_is_order) := ⟨rfl, rfl, rfl, by decide +kernel, rfl, by decide +kernel, by decide +kernel⟩
def F__law_is_order : En → Re Fl := (seqS (ifS (Pu (pOr (pNot (pTe (pIsi "list" (pV 1)))) (pTe (pOp gNe (pCa gLen (pCons (pV 1) (pNil))) (pCa gLen (pCons (pV 0) (pNil))))))) (rtS (Pu (pK (.bool false)))) nopS) (seqS (forS (Pu (pLi (pV 1))) (gNm 2) (seqS (ifS (Pu (pOr (pNot (pTe (pIsi "tuple" (pV 2)))) (pTe (pOp gNe (pCa gLen (pCons (pV 2) (pNil))) (pK (.int 2)))))) (rtS (Pu (pK (.bool false)))) nopS) (ifS (Pu (pTe (pOp gNe (pFz (pLc (pTi (pV 2)) [3] (gNm 3) (pOr (pNot (pTe (pIsi "int" (pV 3)))) (pTe (pIsi "bool" (pV 3)))) (pV 3))) (pFz (pLst (pNil)))))) (rtS (Pu (pK (.bool false)))) nopS))) (rtS (Pu (pOp gEq (pFz (pCa gSort (pCons (pV 1) (pNil)))) (pV 0))))))
def f__law_is_order : List D → Re D := dfP 2 4 F__law_is_order
theorem ok__law_is_order {P : Program} {w : World} {K : PySem.W.Frag} {mg : Str → Option Value} {base : Heap} {f : Addr} {fd : FuncData} (T : Txt K mg) (F : Fun K "_law_is_order" "_law_is_order" s__law_is_order f fd) : FnOkG P w K mg base (L2.CX P w) 1 f fd ["edges", "thing"] (spP K mg f__law_is_order) :=
  fn_P (Fb := F__law_is_order) F sc__law_is_order fun cdv A outer s H E Hin Hb ma hr => by
  have hx : Passes (L2.CX P w) (cxOf (L2.CX P w) P w K mg base ["edges", "thing", "entry", "p"] "_law_is_order" (defScope s__law_is_order) f cdv A outer s H E) E := passes_call (takes_of rfl rfl rfl rfl) (fun _ _ _ _ h => h)
  exact (dss_cons (ds_if (PW.pt (uOr (de_or (uNot (de_not (uTe (de_test (uIsi (de_isi (T := "list") (dp_var (pv 1)) (by decide +kernel) rfl rfl T.b_isinstance (by decide +kernel) rfl T.b_list (by decide +kernel))))))) (de_or1 (uTo (t_ne hr (uCa (e_len T.b_len (uCons (da_cons (dp_var (pv 1)) da_nil)))) (uCa (e_len T.b_len (uCons (da_cons (dp_var (pv 0)) da_nil)))))))))) (dss_one (ds_ret dp_bl)) dss_nil) (dss_cons (ds_for (passes_of rfl) rfl (uLi (di_list rfl (dp_var (pv 1)))) (dg_name (i := 2) (show 2 ∉ ([] : List Nat) by decide) sc__law_is_order.nd rfl (Or.inl rfl)) (dss_cons (ds_if (PW.pt (uOr (de_or (uNot (de_not (uTe (de_test (uIsi (de_isi (T := "tuple") (dp_var (pv 2)) (by decide +kernel) rfl rfl T.b_isinstance (by decide +kernel) rfl T.b_tuple (by decide +kernel))))))) (de_or1 (uTo (t_ne hr (uCa (e_len T.b_len (uCons (da_cons (dp_var (pv 2)) da_nil)))) dp_int)))))) (dss_one (ds_ret dp_bl)) dss_nil) (dss_one (ds_if (uTo (t_ne hr (uFz (uLc (gok_nm (show 3 ∈ ([3] : List Nat) by decide)) (de_lc (own := [("p", 3)]) rfl sc__law_is_order.nd (show ([3] : List Nat).Nodup by decide) (show ∀ v ∈ ([3] : List Nat), v ∉ ([] : List Nat) by decide) (show ∀ t ∈ ([3] : List Nat), t ∈ ([3] : List Nat) by decide) (uTi (di_tup rfl (dp_var (pv 2)))) (blkOk_by (by dsimp only [cxOf, L2.Cx.blk, relE, envE]; decide +kernel)) (fun _ _ _ _ _ => (dg_name (i := 3) (show 3 ∉ ([] : List Nat) by decide) sc__law_is_order.nd rfl (Or.inl rfl))) (fun _ _ _ _ _ => (dts_one (PW.pt (uOr (de_or (uNot (de_not (uTe (de_test (uIsi (de_isi (T := "int") (dp_var (pv 3)) (by decide +kernel) rfl rfl T.b_isinstance (by decide +kernel) rfl T.b_int (by decide +kernel))))))) (de_or1 (uTe (de_test (uIsi (de_isi (T := "bool") (dp_var (pv 3)) (by decide +kernel) rfl rfl T.b_isinstance (by decide +kernel) rfl T.b_bool (by decide +kernel))))))))))) (fun _ _ _ _ _ => (dp_var (pv 3)))))) (uFz (uLst (de_lst da_nil))))) (dss_one (ds_ret dp_bl)) dss_nil)))) (dss_one (ds_ret (uOp (e_eq hr (uFz (uCaF (e_sorted hr T.b_sorted (uCons (da_cons (dp_var (pv 1)) da_nil))))) (dp_var (pv 0))))))))
/-! law -/
abbrev s_law : Stmt := top 37
theorem sc_law : FnScope ["script", "source", "turn", "forest", "before", "order", "after", "p", "q", "things", "thing", "kept", "due", "told", "k"] ["script"] (defScope s_law) := ⟨rfl, rfl, rfl, by decide +kernel, rfl, by decide +kernel, by decide +kernel⟩
def F_law : En → Re Fl := (seqS (owS 1 (Pu (pCr f__law_source (pCons (pV 0) (pNil))))) (seqS (forS (Pu (pCa gRg1 (pCons (pOp gAdd (pK (.int 2)) (pCa gMin (pCons (pK (.int 4)) (pCons (pCa gLen (pCons (pV 0) (pNil))) (pNil))))) (pNil)))) (gNm 2) (seqS (asS 3 (eCm 1 f__law_forest (eCons (eOp gIx (Pu (pFz (pLst (pCons (pK (.int 4)) (pCons (pK (.int 12)) (pCons (pOp gIx (pFz (pLst (pCons (pK (.int 12)) (pCons (pK (.int 40)) (pNil))))) (pCa gInt (pCons (pOp gEq (pV 2) (pK (.int 0))) (pNil)))) (pNil))))))) (eCm 1 f__law_draw (Pu (pCons (pK (.int 3)) (pNil))))) (Pu (pNil))))) (seqS (asS 4 (eCm 1 f__law_items (Pu (pCons (pOp gIx (pV 3) (pK (.int 0))) (pNil))))) (seqS (asS 5 (eCm 1 f__law_shuffled (Pu (pCons (pOp gIx (pV 3) (pK (.int 1))) (pNil))))) (seqS (owS 6 (Pu (pCr f__law_applied (pCons (pV 4) (pCons (pV 5) (pNil)))))) (seqS (ifS (eTe (eOp gEq (eCm 1 f__law_draw (Pu (pCons (pK (.int 4)) (pNil)))) (Pu (pK (.int 0))))) (seqS (paS 7 8 (eCons (eCm 1 f__law_draw (Pu (pCons (pOp gIx (pV 3) (pK (.int 0))) (pNil)))) (eCons (eCm 1 f__law_draw (Pu (pCons (pOp gIx (pV 3) (pK (.int 0))) (pNil)))) (Pu (pNil))))) (swS 6 (pV 7) (pV 8) (Pu (pTup (pCons (pIxB 6 (pV 8)) (pCons (pIxB 6 (pV 7)) (pNil))))))) nopS) (fzS 6 (seqS (asS 9 (fz (eLst (eCons (Pu (pV 5)) (eCons (eCm 1 f__law_same_class (Pu (pCons (pV 5) (pNil)))) (eCons (eCm 1 f__law_shuffled (Pu (pCons (pV 5) (pNil)))) (Pu (pCons (pOp gIx (pV 3) (pK (.int 1))) (pNil))))))))) (seqS (asS 9 (eOp gAdd (Pu (pV 9)) (fz (eLc (Pu (pCa gRg1 (pCons (pK (.int 12)) (pNil)))) [14] (gNm 14) (Pu (fun _ => .ok true)) (eCm 1 (noer2 f__law_spoilt) (Pu (pCons (pV 5) (pCons (pOp gIx (pV 3) (pK (.int 0))) (pNil))))))))) (forS (Pu (pLi (pV 9))) (gNm 10) (seqS (asS 11 (Pu (pCa gRepr (pCons (pFz (pLst (pCons (pV 3) (pCons (pV 4) (pCons (pV 6) (pCons (pV 10) (pNil))))))) (pNil))))) (seqS (asS 12 (Pu (pBo (pAnd (pTe (pCr f__law_is_order (pCons (pOp gIx (pV 3) (pK (.int 1))) (pCons (pV 10) (pNil))))) (pTe (pOp gEq (pFz (pCr f__law_applied (pCons (pV 4) (pCons (pV 10) (pNil))))) (pV 6))))))) (seqS (asS 13 (Pu (pCr f_order_fits (pCons (pV 3) (pCons (pV 4) (pCons (pV 6) (pCons (pV 10) (pNil)))))))) (ifS (Pu (pOr (pTe (pOp gNe (pCa gRepr (pCons (pV 13) (pNil))) (pCa gRepr (pCons (pV 12) (pNil))))) (pTe (pOp gNe (pCa gRepr (pCons (pFz (pLst (pCons (pV 3) (pCons (pV 4) (pCons (pV 6) (pCons (pV 10) (pNil))))))) (pNil))) (pV 11))))) (fzS 1 (rtS (Pu (pK (.bool false))))) nopS)))))))))))))) (fzS 1 (rtS (Pu (pK (.bool true)))))))
def f_law : List D → Re D := dfP 1 15 F_law
theorem ok_law {P : Program} {w : World} {K : PySem.W.Frag} {mg : Str → Option Value} {base : Heap} {f : Addr} {fd : FuncData} (T : Txt K mg) (D__law_source : Dn P w K mg base 1 "_law_source" ["script"] (spPF K mg f__law_source)) (D__law_forest : Dn P w K mg base 3 "_law_forest" ["source", "most"] (spM K mg f__law_forest)) (D__law_draw : Dn P w K mg base 1 "_law_draw" ["source", "wide"] (spM K mg f__law_draw)) (D__law_items : Dn P w K mg base 3 "_law_items" ["source", "size"] (spM K mg f__law_items)) (D__law_shuffled : Dn P w K mg base 2 "_law_shuffled" ["source", "values"] (spM K mg f__law_shuffled)) (D__law_applied : Dn P w K mg base 1 "_law_applied" ["items", "order"] (spPF K mg f__law_applied)) (D__law_same_class : Dn P w K mg base 2 "_law_same_class" ["source", "order"] (spM K mg f__law_same_class)) (D__law_spoilt : Dn P w K mg base 2 "_law_spoilt" ["source", "order", "size"] (spM K mg f__law_spoilt)) (D__law_is_order : Dn P w K mg base 1 "_law_is_order" ["edges", "thing"] (spP K mg f__law_is_order)) (D_order_fits : Dn P w K mg base 7 "order_fits" ["forest", "before", "after", "thing"] (spP K mg f_order_fits)) (F : Fun K "law" "law" s_law f fd) : FnOkG P w K mg base (L2.CX P w) 8 f fd ["script"] (spP K mg f_law) :=
  fn_P (Fb := F_law) F sc_law fun cdv A outer s H E Hin Hb ma hr => by
  have hx : Passes (L2.CX P w) (cxOf (L2.CX P w) P w K mg base ["script", "source", "turn", "forest", "before", "order", "after", "p", "q", "things", "thing", "kept", "due", "told", "k"] "law" (defScope s_law) f cdv A outer s H E) E := passes_call (takes_of rfl rfl rfl rfl) (fun _ _ _ _ h => h)
  exact (dss_cons (ds_own (i := 1) (show 1 ∉ ([] : List Nat) by decide) sc_law.nd rfl (Or.inr rfl) (uCrF (de_crF D__law_source (hr.mono (show 1 ≤ 7 by decide)) rfl hx rfl rfl (uCons (da_cons (dp_var (pv 0)) da_nil))))) (dss_cons (ds_for (passes_of rfl) rfl (uCi (di_range1 rfl T.b_range (uCons (da_cons (uOp (e_add dp_int (uCa (e_min T.b_min (uCons (da_cons dp_int (uCons (da_cons (uCa (e_len T.b_len (uCons (da_cons (dp_var (pv 0)) da_nil)))) da_nil)))))))) da_nil)))) (dg_name (i := 2) (show 2 ∉ ([] : List Nat) by decide) sc_law.nd rfl (Or.inl rfl)) (dss_cons (ds_set (i := 3) (show 3 ∉ ([] : List Nat) by decide) sc_law.nd rfl (Or.inr rfl) (de_cm D__law_forest (hr.mono (show 3 ≤ 7 by decide)) rfl hx rfl rfl (pv 1) (da_cons (e_ix (uFz (uLst (de_lst (uCons (da_cons dp_int (uCons (da_cons dp_int (uCons (da_cons (uOp (e_ix (uFz (uLst (de_lst (uCons (da_cons dp_int (uCons (da_cons dp_int da_nil))))))) (uCa (e_int T.b_int (uCons (da_cons (uOp (e_eq hr (dp_var (pv 2)) dp_int)) da_nil)))))) da_nil))))))))) (de_cm D__law_draw (hr.mono (show 1 ≤ 7 by decide)) rfl hx rfl rfl (pv 1) (uCons (da_cons dp_int da_nil)))) da_nil))) (dss_cons (ds_set (i := 4) (show 4 ∉ ([] : List Nat) by decide) sc_law.nd rfl (Or.inl rfl) (de_cm D__law_items (hr.mono (show 3 ≤ 7 by decide)) rfl hx rfl rfl (pv 1) (uCons (da_cons (uOp (e_ix (dp_var (pv 3)) dp_int)) da_nil)))) (dss_cons (ds_set (i := 5) (show 5 ∉ ([] : List Nat) by decide) sc_law.nd rfl (Or.inr rfl) (de_cm D__law_shuffled (hr.mono (show 2 ≤ 7 by decide)) rfl hx rfl rfl (pv 1) (uCons (da_cons (uOp (e_ix (dp_var (pv 3)) dp_int)) da_nil)))) (dss_cons (ds_own (i := 6) (show 6 ∉ ([] : List Nat) by decide) sc_law.nd rfl (Or.inl rfl) (uCrF (de_crF D__law_applied (hr.mono (show 1 ≤ 7 by decide)) rfl hx rfl rfl (uCons (da_cons (dp_var (pv 4)) (uCons (da_cons (dp_var (pv 5)) da_nil))))))) (dss_cons (ds_if (t_eq hr (de_cm D__law_draw (hr.mono (show 1 ≤ 7 by decide)) rfl hx rfl rfl (pv 1) (uCons (da_cons dp_int da_nil))) dp_int) (dss_cons (ds_par (i := 7) (j := 8) (show 7 ∉ ([] : List Nat) by decide) (show 8 ∉ ([] : List Nat) by decide) rfl sc_law.nd rfl rfl (by decide) rfl rfl (da_cons (de_cm D__law_draw (hr.mono (show 1 ≤ 7 by decide)) rfl hx rfl rfl (pv 1) (uCons (da_cons (uOp (e_ix (dp_var (pv 3)) dp_int)) da_nil))) (da_cons (de_cm D__law_draw (hr.mono (show 1 ≤ 7 by decide)) rfl hx rfl rfl (pv 1) (uCons (da_cons (uOp (e_ix (dp_var (pv 3)) dp_int)) da_nil))) da_nil)) (by rfl)) (dss_one (ds_swap rfl (pv 6) (pv 6) (dp_var (pv 7)) (dp_var (pv 8)) (uTup (de_tup (uCons (da_cons (e_ixB (pv 6) (dp_var (pv 8))) (uCons (da_cons (e_ixB (pv 6) (dp_var (pv 7))) da_nil))))))))) dss_nil) (dss_fz (show 6 ∉ ([] : List Nat) by decide) (dss_cons (ds_set (i := 9) (show 9 ∉ ([] : List Nat) by decide) sc_law.nd rfl (Or.inl rfl) (de_frz (de_lst (da_cons (dp_var (pv 5)) (da_cons (de_cm D__law_same_class (hr.mono (show 2 ≤ 7 by decide)) rfl hx rfl rfl (pv 1) (uCons (da_cons (dp_var (pv 5)) da_nil))) (da_cons (de_cm D__law_shuffled (hr.mono (show 2 ≤ 7 by decide)) rfl hx rfl rfl (pv 1) (uCons (da_cons (dp_var (pv 5)) da_nil))) (uCons (da_cons (uOp (e_ix (dp_var (pv 3)) dp_int)) da_nil)))))))) (dss_cons (ds_set (i := 9) (show 9 ∉ ([] : List Nat) by decide) sc_law.nd rfl (Or.inl rfl) (e_add (dp_var (pv 9)) (de_frz (de_lc (own := [("k", 14)]) rfl sc_law.nd (show ([14] : List Nat).Nodup by decide) (show ∀ v ∈ ([14] : List Nat), v ∉ ([] : List Nat) by decide) (show ∀ t ∈ ([14] : List Nat), t ∈ ([14] : List Nat) by decide) (uCi (di_range1 rfl T.b_range (uCons (da_cons dp_int da_nil)))) (blkOk_by (by dsimp only [cxOf, L2.Cx.blk, relE, envE]; decide +kernel)) (fun _ _ _ _ _ => (dg_name (i := 14) (show 14 ∉ ([] : List Nat) by decide) sc_law.nd rfl (Or.inl rfl))) (fun _ _ _ _ _ => dts_nil) (fun _ _ _ _ _ => (de_cm0 D__law_spoilt (hr.mono (show 2 ≤ 7 by decide)) rfl rfl rfl (pv 1) (uCons (da_cons (dp_var (pv 5)) (uCons (da_cons (uOp (e_ix (dp_var (pv 3)) dp_int)) da_nil)))))))))) (dss_one (ds_for (passes_of rfl) rfl (uLi (di_list rfl (dp_var (pv 9)))) (dg_name (i := 10) (show 10 ∉ ([] : List Nat) by decide) sc_law.nd rfl (Or.inl rfl)) (dss_cons (ds_set (i := 11) (show 11 ∉ ([] : List Nat) by decide) sc_law.nd rfl (Or.inl rfl) (uCa (e_repr hr T.b_repr (uCons (da_cons (uFz (uLst (de_lst (uCons (da_cons (dp_var (pv 3)) (uCons (da_cons (dp_var (pv 4)) (uCons (da_cons (dp_var (pv 6)) (uCons (da_cons (dp_var (pv 10)) da_nil))))))))))) da_nil))))) (dss_cons (ds_set (i := 12) (show 12 ∉ ([] : List Nat) by decide) sc_law.nd rfl (Or.inl rfl) (uVa (de_vand (uCr (de_cr D__law_is_order (hr.mono (show 1 ≤ 7 by decide)) rfl hx rfl rfl (uCons (da_cons (uOp (e_ix (dp_var (pv 3)) dp_int)) (uCons (da_cons (dp_var (pv 10)) da_nil)))))) (bBo (uVl (e_vl (uOp (e_eq hr (uFz (uCrF (de_crF D__law_applied (hr.mono (show 1 ≤ 7 by decide)) rfl hx rfl rfl (uCons (da_cons (dp_var (pv 4)) (uCons (da_cons (dp_var (pv 10)) da_nil))))))) (dp_var (pv 6)))))))))) (dss_cons (ds_set (i := 13) (show 13 ∉ ([] : List Nat) by decide) sc_law.nd rfl (Or.inl rfl) (uCr (de_cr D_order_fits hr rfl hx rfl rfl (uCons (da_cons (dp_var (pv 3)) (uCons (da_cons (dp_var (pv 4)) (uCons (da_cons (dp_var (pv 6)) (uCons (da_cons (dp_var (pv 10)) da_nil))))))))))) (dss_one (ds_if (PW.pt (uOr (de_or (uTo (t_ne hr (uCa (e_repr hr T.b_repr (uCons (da_cons (dp_var (pv 13)) da_nil)))) (uCa (e_repr hr T.b_repr (uCons (da_cons (dp_var (pv 12)) da_nil)))))) (de_or1 (uTo (t_ne hr (uCa (e_repr hr T.b_repr (uCons (da_cons (uFz (uLst (de_lst (uCons (da_cons (dp_var (pv 3)) (uCons (da_cons (dp_var (pv 4)) (uCons (da_cons (dp_var (pv 6)) (uCons (da_cons (dp_var (pv 10)) da_nil))))))))))) da_nil)))) (dp_var (pv 11)))))))) (dss_fz (show 1 ∉ ([] : List Nat) by decide) (dss_one (ds_ret dp_bl))) dss_nil)))))))))))))))) (dss_fz (show 1 ∉ ([] : List Nat) by decide) (dss_one (ds_ret dp_bl)))))
def spLaw (K : PySem.W.Frag) : Sp := fun vs H Q _ => ∃ (a : Addr) (ns : List Int), vs = [.ref a] ∧ SqL K H a (ns.map V.int) ∧ ns.length ≤ 63 ∧ (∀ z ∈ ns, Builtin.Int.intBits z ≤ 1048576) ∧ ∀ H', Q (.bl true) H'
def LawTrue : Prop := ∀ ns : List Int, ns.length ≤ 63 → (∀ z ∈ ns, Builtin.Int.intBits z ≤ 1048576) → f_law [.list (ns.map .int)] = .ok (.bool true)
theorem all_mk (hL : LawTrue) {l : PySem.W.OpenLaw} {w : World} {K : PySem.W.Frag} {h : Heap} {mg : Str → Option Value} {fa : Addr} (X : K.In h) (G : h.Ns mainGlobals mg) (hfa : mg "law" = some (.ref fa))
    {f1 : Addr} {od1 an1 : Option Addr} {sl1 : Array (Option Value)} {oc1 kV1 dc1 pm1 cd1 ct1 : Value}
    {f2 : Addr} {od2 an2 : Option Addr} {sl2 : Array (Option Value)} {oc2 kV2 dc2 pm2 cd2 ct2 : Value}
    {f3 : Addr} {od3 an3 : Option Addr} {sl3 : Array (Option Value)} {oc3 kV3 dc3 pm3 cd3 ct3 : Value}
    {f4 : Addr} {od4 an4 : Option Addr} {sl4 : Array (Option Value)} {oc4 kV4 dc4 pm4 cd4 ct4 : Value}
    {f5 : Addr} {od5 an5 : Option Addr} {sl5 : Array (Option Value)} {oc5 kV5 dc5 pm5 cd5 ct5 : Value}
    {f6 : Addr} {od6 an6 : Option Addr} {sl6 : Array (Option Value)} {oc6 kV6 dc6 pm6 cd6 ct6 : Value}
    {f7 : Addr} {od7 an7 : Option Addr} {sl7 : Array (Option Value)} {oc7 kV7 dc7 pm7 cd7 ct7 : Value}
    {f8 : Addr} {od8 an8 : Option Addr} {sl8 : Array (Option Value)} {oc8 kV8 dc8 pm8 cd8 ct8 : Value}
    {f9 : Addr} {od9 an9 : Option Addr} {sl9 : Array (Option Value)} {oc9 kV9 dc9 pm9 cd9 ct9 : Value}
    {f10 : Addr} {od10 an10 : Option Addr} {sl10 : Array (Option Value)} {oc10 kV10 dc10 pm10 cd10 ct10 : Value}
    {f11 : Addr} {od11 an11 : Option Addr} {sl11 : Array (Option Value)} {oc11 kV11 dc11 pm11 cd11 ct11 : Value}
    {f12 : Addr} {od12 an12 : Option Addr} {sl12 : Array (Option Value)} {oc12 kV12 dc12 pm12 cd12 ct12 : Value}
    {f13 : Addr} {od13 an13 : Option Addr} {sl13 : Array (Option Value)} {oc13 kV13 dc13 pm13 cd13 ct13 : Value}
    {f14 : Addr} {od14 an14 : Option Addr} {sl14 : Array (Option Value)} {oc14 kV14 dc14 pm14 cd14 ct14 : Value}
    {f15 : Addr} {od15 an15 : Option Addr} {sl15 : Array (Option Value)} {oc15 kV15 dc15 pm15 cd15 ct15 : Value}
    {f16 : Addr} {od16 an16 : Option Addr} {sl16 : Array (Option Value)} {oc16 kV16 dc16 pm16 cd16 ct16 : Value}
    {f17 : Addr} {od17 an17 : Option Addr} {sl17 : Array (Option Value)} {oc17 kV17 dc17 pm17 cd17 ct17 : Value}
    {f18 : Addr} {od18 an18 : Option Addr} {sl18 : Array (Option Value)} {oc18 kV18 dc18 pm18 cd18 ct18 : Value}
    {f19 : Addr} {od19 an19 : Option Addr} {sl19 : Array (Option Value)} {oc19 kV19 dc19 pm19 cd19 ct19 : Value}
    {f20 : Addr} {od20 an20 : Option Addr} {sl20 : Array (Option Value)} {oc20 kV20 dc20 pm20 cd20 ct20 : Value}
    {f21 : Addr} {od21 an21 : Option Addr} {sl21 : Array (Option Value)} {oc21 kV21 dc21 pm21 cd21 ct21 : Value}
    {f22 : Addr} {od22 an22 : Option Addr} {sl22 : Array (Option Value)} {oc22 kV22 dc22 pm22 cd22 ct22 : Value}
    {f23 : Addr} {od23 an23 : Option Addr} {sl23 : Array (Option Value)} {oc23 kV23 dc23 pm23 cd23 ct23 : Value}
    {f24 : Addr} {od24 an24 : Option Addr} {sl24 : Array (Option Value)} {oc24 kV24 dc24 pm24 cd24 ct24 : Value}
    {f25 : Addr} {od25 an25 : Option Addr} {sl25 : Array (Option Value)} {oc25 kV25 dc25 pm25 cd25 ct25 : Value}
    {f26 : Addr} {od26 an26 : Option Addr} {sl26 : Array (Option Value)} {oc26 kV26 dc26 pm26 cd26 ct26 : Value}
    {t_LETTERS : Tok}
    {t_MOST_LETTERS : Tok}
    {t_MOST_POSITIONS : Tok}
    {C_NoArrangement : Addr}
    {C_NoForest : Addr}
    {C_NoOrder : Addr}
    (a1 : PySem.W.nsIn K mainGlobals "_law_source" = some (some (.ref f1))) (l1 : K.lookup f1 = some ⟨oc1, od1, .func (PySem.W.fnOf "_law_source" "_law_source" (defArgs s__law_source) (defBody s__law_source) (defScope s__law_source) .none kV1 dc1 pm1 an1 cd1 ct1), sl1⟩) (c1 : PySem.W.codeIn K cd1 "_law_source" = true) (k1 : PySem.W.keepIn K (.ref f1) = true)
    (a2 : PySem.W.nsIn K mainGlobals "_law_draw" = some (some (.ref f2))) (l2 : K.lookup f2 = some ⟨oc2, od2, .func (PySem.W.fnOf "_law_draw" "_law_draw" (defArgs s__law_draw) (defBody s__law_draw) (defScope s__law_draw) .none kV2 dc2 pm2 an2 cd2 ct2), sl2⟩) (c2 : PySem.W.codeIn K cd2 "_law_draw" = true) (k2 : PySem.W.keepIn K (.ref f2) = true)
    (a3 : PySem.W.nsIn K mainGlobals "_law_shuffled" = some (some (.ref f3))) (l3 : K.lookup f3 = some ⟨oc3, od3, .func (PySem.W.fnOf "_law_shuffled" "_law_shuffled" (defArgs s__law_shuffled) (defBody s__law_shuffled) (defScope s__law_shuffled) .none kV3 dc3 pm3 an3 cd3 ct3), sl3⟩) (c3 : PySem.W.codeIn K cd3 "_law_shuffled" = true) (k3 : PySem.W.keepIn K (.ref f3) = true)
    (a4 : PySem.W.nsIn K mainGlobals "_law_forest" = some (some (.ref f4))) (l4 : K.lookup f4 = some ⟨oc4, od4, .func (PySem.W.fnOf "_law_forest" "_law_forest" (defArgs s__law_forest) (defBody s__law_forest) (defScope s__law_forest) .none kV4 dc4 pm4 an4 cd4 ct4), sl4⟩) (c4 : PySem.W.codeIn K cd4 "_law_forest" = true) (k4 : PySem.W.keepIn K (.ref f4) = true)
    (a5 : PySem.W.nsIn K mainGlobals "_law_items" = some (some (.ref f5))) (l5 : K.lookup f5 = some ⟨oc5, od5, .func (PySem.W.fnOf "_law_items" "_law_items" (defArgs s__law_items) (defBody s__law_items) (defScope s__law_items) .none kV5 dc5 pm5 an5 cd5 ct5), sl5⟩) (c5 : PySem.W.codeIn K cd5 "_law_items" = true) (k5 : PySem.W.keepIn K (.ref f5) = true)
    (a6 : PySem.W.nsIn K mainGlobals "_law_applied" = some (some (.ref f6))) (l6 : K.lookup f6 = some ⟨oc6, od6, .func (PySem.W.fnOf "_law_applied" "_law_applied" (defArgs s__law_applied) (defBody s__law_applied) (defScope s__law_applied) .none kV6 dc6 pm6 an6 cd6 ct6), sl6⟩) (c6 : PySem.W.codeIn K cd6 "_law_applied" = true) (k6 : PySem.W.keepIn K (.ref f6) = true)
    (a7 : PySem.W.nsIn K mainGlobals "_law_same_class" = some (some (.ref f7))) (l7 : K.lookup f7 = some ⟨oc7, od7, .func (PySem.W.fnOf "_law_same_class" "_law_same_class" (defArgs s__law_same_class) (defBody s__law_same_class) (defScope s__law_same_class) .none kV7 dc7 pm7 an7 cd7 ct7), sl7⟩) (c7 : PySem.W.codeIn K cd7 "_law_same_class" = true) (k7 : PySem.W.keepIn K (.ref f7) = true)
    (a8 : PySem.W.nsIn K mainGlobals "_law_spoilt" = some (some (.ref f8))) (l8 : K.lookup f8 = some ⟨oc8, od8, .func (PySem.W.fnOf "_law_spoilt" "_law_spoilt" (defArgs s__law_spoilt) (defBody s__law_spoilt) (defScope s__law_spoilt) .none kV8 dc8 pm8 an8 cd8 ct8), sl8⟩) (c8 : PySem.W.codeIn K cd8 "_law_spoilt" = true) (k8 : PySem.W.keepIn K (.ref f8) = true)
    (a9 : PySem.W.nsIn K mainGlobals "_law_is_order" = some (some (.ref f9))) (l9 : K.lookup f9 = some ⟨oc9, od9, .func (PySem.W.fnOf "_law_is_order" "_law_is_order" (defArgs s__law_is_order) (defBody s__law_is_order) (defScope s__law_is_order) .none kV9 dc9 pm9 an9 cd9 ct9), sl9⟩) (c9 : PySem.W.codeIn K cd9 "_law_is_order" = true) (k9 : PySem.W.keepIn K (.ref f9) = true)
    (a10 : PySem.W.nsIn K mainGlobals "is_integer" = some (some (.ref f10))) (l10 : K.lookup f10 = some ⟨oc10, od10, .func (PySem.W.fnOf "is_integer" "is_integer" (defArgs s_is_integer) (defBody s_is_integer) (defScope s_is_integer) .none kV10 dc10 pm10 an10 cd10 ct10), sl10⟩) (c10 : PySem.W.codeIn K cd10 "is_integer" = true) (k10 : PySem.W.keepIn K (.ref f10) = true)
    (a11 : PySem.W.nsIn K mainGlobals "is_edge" = some (some (.ref f11))) (l11 : K.lookup f11 = some ⟨oc11, od11, .func (PySem.W.fnOf "is_edge" "is_edge" (defArgs s_is_edge) (defBody s_is_edge) (defScope s_is_edge) .none kV11 dc11 pm11 an11 cd11 ct11), sl11⟩) (c11 : PySem.W.codeIn K cd11 "is_edge" = true) (k11 : PySem.W.keepIn K (.ref f11) = true)
    (a12 : PySem.W.nsIn K mainGlobals "tree_labels" = some (some (.ref f12))) (l12 : K.lookup f12 = some ⟨oc12, od12, .func (PySem.W.fnOf "tree_labels" "tree_labels" (defArgs s_tree_labels) (defBody s_tree_labels) (defScope s_tree_labels) .none kV12 dc12 pm12 an12 cd12 ct12), sl12⟩) (c12 : PySem.W.codeIn K cd12 "tree_labels" = true) (k12 : PySem.W.keepIn K (.ref f12) = true)
    (a13 : PySem.W.nsIn K mainGlobals "is_forest" = some (some (.ref f13))) (l13 : K.lookup f13 = some ⟨oc13, od13, .func (PySem.W.fnOf "is_forest" "is_forest" (defArgs s_is_forest) (defBody s_is_forest) (defScope s_is_forest) .none kV13 dc13 pm13 an13 cd13 ct13), sl13⟩) (c13 : PySem.W.codeIn K cd13 "is_forest" = true) (k13 : PySem.W.keepIn K (.ref f13) = true)
    (a14 : PySem.W.nsIn K mainGlobals "need_forest" = some (some (.ref f14))) (l14 : K.lookup f14 = some ⟨oc14, od14, .func (PySem.W.fnOf "need_forest" "need_forest" (defArgs s_need_forest) (defBody s_need_forest) (defScope s_need_forest) .none kV14 dc14 pm14 an14 cd14 ct14), sl14⟩) (c14 : PySem.W.codeIn K cd14 "need_forest" = true) (k14 : PySem.W.keepIn K (.ref f14) = true)
    (a15 : PySem.W.nsIn K mainGlobals "is_item" = some (some (.ref f15))) (l15 : K.lookup f15 = some ⟨oc15, od15, .func (PySem.W.fnOf "is_item" "is_item" (defArgs s_is_item) (defBody s_is_item) (defScope s_is_item) .none kV15 dc15 pm15 an15 cd15 ct15), sl15⟩) (c15 : PySem.W.codeIn K cd15 "is_item" = true) (k15 : PySem.W.keepIn K (.ref f15) = true)
    (a16 : PySem.W.nsIn K mainGlobals "is_arrangement" = some (some (.ref f16))) (l16 : K.lookup f16 = some ⟨oc16, od16, .func (PySem.W.fnOf "is_arrangement" "is_arrangement" (defArgs s_is_arrangement) (defBody s_is_arrangement) (defScope s_is_arrangement) .none kV16 dc16 pm16 an16 cd16 ct16), sl16⟩) (c16 : PySem.W.codeIn K cd16 "is_arrangement" = true) (k16 : PySem.W.keepIn K (.ref f16) = true)
    (a17 : PySem.W.nsIn K mainGlobals "need_items" = some (some (.ref f17))) (l17 : K.lookup f17 = some ⟨oc17, od17, .func (PySem.W.fnOf "need_items" "need_items" (defArgs s_need_items) (defBody s_need_items) (defScope s_need_items) .none kV17 dc17 pm17 an17 cd17 ct17), sl17⟩) (c17 : PySem.W.codeIn K cd17 "need_items" = true) (k17 : PySem.W.keepIn K (.ref f17) = true)
    (a18 : PySem.W.nsIn K mainGlobals "need_both" = some (some (.ref f18))) (l18 : K.lookup f18 = some ⟨oc18, od18, .func (PySem.W.fnOf "need_both" "need_both" (defArgs s_need_both) (defBody s_need_both) (defScope s_need_both) .none kV18 dc18 pm18 an18 cd18 ct18), sl18⟩) (c18 : PySem.W.codeIn K cd18 "need_both" = true) (k18 : PySem.W.keepIn K (.ref f18) = true)
    (a19 : PySem.W.nsIn K mainGlobals "moves_between" = some (some (.ref f19))) (l19 : K.lookup f19 = some ⟨oc19, od19, .func (PySem.W.fnOf "moves_between" "moves_between" (defArgs s_moves_between) (defBody s_moves_between) (defScope s_moves_between) .none kV19 dc19 pm19 an19 cd19 ct19), sl19⟩) (c19 : PySem.W.codeIn K cd19 "moves_between" = true) (k19 : PySem.W.keepIn K (.ref f19) = true)
    (a20 : PySem.W.nsIn K mainGlobals "moves" = some (some (.ref f20))) (l20 : K.lookup f20 = some ⟨oc20, od20, .func (PySem.W.fnOf "moves" "moves" (defArgs s_moves) (defBody s_moves) (defScope s_moves) .none kV20 dc20 pm20 an20 cd20 ct20), sl20⟩) (c20 : PySem.W.codeIn K cd20 "moves" = true) (k20 : PySem.W.keepIn K (.ref f20) = true)
    (a21 : PySem.W.nsIn K mainGlobals "is_order" = some (some (.ref f21))) (l21 : K.lookup f21 = some ⟨oc21, od21, .func (PySem.W.fnOf "is_order" "is_order" (defArgs s_is_order) (defBody s_is_order) (defScope s_is_order) .none kV21 dc21 pm21 an21 cd21 ct21), sl21⟩) (c21 : PySem.W.codeIn K cd21 "is_order" = true) (k21 : PySem.W.keepIn K (.ref f21) = true)
    (a22 : PySem.W.nsIn K mainGlobals "need_order" = some (some (.ref f22))) (l22 : K.lookup f22 = some ⟨oc22, od22, .func (PySem.W.fnOf "need_order" "need_order" (defArgs s_need_order) (defBody s_need_order) (defScope s_need_order) .none kV22 dc22 pm22 an22 cd22 ct22), sl22⟩) (c22 : PySem.W.codeIn K cd22 "need_order" = true) (k22 : PySem.W.keepIn K (.ref f22) = true)
    (a23 : PySem.W.nsIn K mainGlobals "swapped" = some (some (.ref f23))) (l23 : K.lookup f23 = some ⟨oc23, od23, .func (PySem.W.fnOf "swapped" "swapped" (defArgs s_swapped) (defBody s_swapped) (defScope s_swapped) .none kV23 dc23 pm23 an23 cd23 ct23), sl23⟩) (c23 : PySem.W.codeIn K cd23 "swapped" = true) (k23 : PySem.W.keepIn K (.ref f23) = true)
    (a24 : PySem.W.nsIn K mainGlobals "apply_order" = some (some (.ref f24))) (l24 : K.lookup f24 = some ⟨oc24, od24, .func (PySem.W.fnOf "apply_order" "apply_order" (defArgs s_apply_order) (defBody s_apply_order) (defScope s_apply_order) .none kV24 dc24 pm24 an24 cd24 ct24), sl24⟩) (c24 : PySem.W.codeIn K cd24 "apply_order" = true) (k24 : PySem.W.keepIn K (.ref f24) = true)
    (a25 : PySem.W.nsIn K mainGlobals "order_fits" = some (some (.ref f25))) (l25 : K.lookup f25 = some ⟨oc25, od25, .func (PySem.W.fnOf "order_fits" "order_fits" (defArgs s_order_fits) (defBody s_order_fits) (defScope s_order_fits) .none kV25 dc25 pm25 an25 cd25 ct25), sl25⟩) (c25 : PySem.W.codeIn K cd25 "order_fits" = true) (k25 : PySem.W.keepIn K (.ref f25) = true)
    (a26 : PySem.W.nsIn K mainGlobals "law" = some (some (.ref f26))) (l26 : K.lookup f26 = some ⟨oc26, od26, .func (PySem.W.fnOf "law" "law" (defArgs s_law) (defBody s_law) (defScope s_law) .none kV26 dc26 pm26 an26 cd26 ct26), sl26⟩) (c26 : PySem.W.codeIn K cd26 "law" = true) (k26 : PySem.W.keepIn K (.ref f26) = true)
    (z_abs : PySem.W.nsIn K mainGlobals "abs" = some none)
    (z_all : PySem.W.nsIn K mainGlobals "all" = some none)
    (z_bool : PySem.W.nsIn K mainGlobals "bool" = some none)
    (z_enumerate : PySem.W.nsIn K mainGlobals "enumerate" = some none)
    (z_int : PySem.W.nsIn K mainGlobals "int" = some none)
    (z_isinstance : PySem.W.nsIn K mainGlobals "isinstance" = some none)
    (z_len : PySem.W.nsIn K mainGlobals "len" = some none)
    (z_list : PySem.W.nsIn K mainGlobals "list" = some none)
    (z_max : PySem.W.nsIn K mainGlobals "max" = some none)
    (z_min : PySem.W.nsIn K mainGlobals "min" = some none)
    (z_range : PySem.W.nsIn K mainGlobals "range" = some none)
    (z_repr : PySem.W.nsIn K mainGlobals "repr" = some none)
    (z_set : PySem.W.nsIn K mainGlobals "set" = some none)
    (z_sorted : PySem.W.nsIn K mainGlobals "sorted" = some none)
    (z_str : PySem.W.nsIn K mainGlobals "str" = some none)
    (z_tuple : PySem.W.nsIn K mainGlobals "tuple" = some none)
    (z_zip : PySem.W.nsIn K mainGlobals "zip" = some none)
    (y_LETTERS : PySem.W.nsIn K mainGlobals "LETTERS" = some (some (.str "abcdefghijklmnopqrstuvwxyz" t_LETTERS)))
    (y_MOST_LETTERS : PySem.W.nsIn K mainGlobals "MOST_LETTERS" = some (some (.int 8 t_MOST_LETTERS)))
    (y_MOST_POSITIONS : PySem.W.nsIn K mainGlobals "MOST_POSITIONS" = some (some (.int 40 t_MOST_POSITIONS)))
    (eg_NoArrangement : PySem.W.nsIn K mainGlobals "NoArrangement" = some (some (.ref C_NoArrangement)))
    (eb_NoArrangement : PySem.W.subIn K (.ref C_NoArrangement) (.type "BaseException") = some true) (et_NoArrangement : PySem.W.typeIn K (.ref C_NoArrangement) = some (.type "type"))
    (ex_NoArrangement : PySem.W.excIn K C_NoArrangement [.type "ValueError", .type "Exception", .type "BaseException", .type "object"] "ValueError.__new__" = true) (ek_NoArrangement : PySem.W.keepIn K (.ref C_NoArrangement) = true)
    (eg_NoForest : PySem.W.nsIn K mainGlobals "NoForest" = some (some (.ref C_NoForest)))
    (eb_NoForest : PySem.W.subIn K (.ref C_NoForest) (.type "BaseException") = some true) (et_NoForest : PySem.W.typeIn K (.ref C_NoForest) = some (.type "type"))
    (ex_NoForest : PySem.W.excIn K C_NoForest [.type "ValueError", .type "Exception", .type "BaseException", .type "object"] "ValueError.__new__" = true) (ek_NoForest : PySem.W.keepIn K (.ref C_NoForest) = true)
    (eg_NoOrder : PySem.W.nsIn K mainGlobals "NoOrder" = some (some (.ref C_NoOrder)))
    (eb_NoOrder : PySem.W.subIn K (.ref C_NoOrder) (.type "BaseException") = some true) (et_NoOrder : PySem.W.typeIn K (.ref C_NoOrder) = some (.type "type"))
    (ex_NoOrder : PySem.W.excIn K C_NoOrder [.type "ValueError", .type "Exception", .type "BaseException", .type "object"] "ValueError.__new__" = true) (ek_NoOrder : PySem.W.keepIn K (.ref C_NoOrder) = true)
    (ed_NoOrder : PySem.W.hasDictIn K C_NoOrder = true)
    (es_NoOrder_NoArrangement : PySem.W.subIn K (.ref C_NoArrangement) (.ref C_NoOrder) = some false)
    (es_NoOrder_NoForest : PySem.W.subIn K (.ref C_NoForest) (.ref C_NoOrder) = some false)
    (es_NoOrder_NoOrder : PySem.W.subIn K (.ref C_NoOrder) (.ref C_NoOrder) = some true) :
    ∃ fd : FuncData, (∀ (s : Shared) (v : Value), BindsTo s fd ⟨[v], []⟩ [("script", v)]) ∧ ∀ base : Heap, K.In base → base.Ns mainGlobals mg → FnOkG l.prog w K mg base (L2.CX l.prog w) 8 fa fd ["script"] (spLaw K) := by
  have e := hfa.symm.trans (PySem.W.mg_of X G a26)
  cases e
  have T : Txt K mg := ⟨PySem.W.mg_none_of X G z_abs, PySem.W.mg_none_of X G z_all, PySem.W.mg_none_of X G z_bool, PySem.W.mg_none_of X G z_enumerate, PySem.W.mg_none_of X G z_int, PySem.W.mg_none_of X G z_isinstance, PySem.W.mg_none_of X G z_len, PySem.W.mg_none_of X G z_list, PySem.W.mg_none_of X G z_max, PySem.W.mg_none_of X G z_min, PySem.W.mg_none_of X G z_range, PySem.W.mg_none_of X G z_repr, PySem.W.mg_none_of X G z_set, PySem.W.mg_none_of X G z_sorted, PySem.W.mg_none_of X G z_str, PySem.W.mg_none_of X G z_tuple, PySem.W.mg_none_of X G z_zip, ⟨_, PySem.W.mg_of X G y_LETTERS⟩, ⟨_, PySem.W.mg_of X G y_MOST_LETTERS⟩, ⟨_, PySem.W.mg_of X G y_MOST_POSITIONS⟩, ⟨_, PySem.W.mg_of X G eg_NoArrangement, ex_NoArrangement, ek_NoArrangement, eb_NoArrangement, et_NoArrangement⟩, ⟨_, PySem.W.mg_of X G eg_NoForest, ex_NoForest, ek_NoForest, eb_NoForest, et_NoForest⟩, ⟨_, PySem.W.mg_of X G eg_NoOrder, ex_NoOrder, ek_NoOrder, eb_NoOrder, et_NoOrder⟩, hnd_of (PySem.W.mg_of X G eg_NoOrder) (hd_cons (PySem.W.mg_of X G eg_NoOrder) (PySem.W.exm_ref eb_NoOrder ed_NoOrder et_NoOrder es_NoOrder_NoOrder) hd_nil) (hd_cons (PySem.W.mg_of X G eg_NoArrangement) (PySem.W.exm_ref eb_NoOrder ed_NoOrder et_NoOrder es_NoOrder_NoArrangement) (hd_cons (PySem.W.mg_of X G eg_NoForest) (PySem.W.exm_ref eb_NoOrder ed_NoOrder et_NoOrder es_NoOrder_NoForest) hd_nil))⟩
  have F1 := fun_mk (st := s__law_source) l1 c1 k1
  have b1 := F1.binds (ps := ["script"]) fun _ _ _ _ _ _ us hl => match us, hl with | [_], _ => rfl
  have F2 := fun_mk (st := s__law_draw) l2 c2 k2
  have b2 := F2.binds (ps := ["source", "wide"]) fun _ _ _ _ _ _ us hl => match us, hl with | [_, _], _ => rfl
  have F3 := fun_mk (st := s__law_shuffled) l3 c3 k3
  have b3 := F3.binds (ps := ["source", "values"]) fun _ _ _ _ _ _ us hl => match us, hl with | [_, _], _ => rfl
  have F4 := fun_mk (st := s__law_forest) l4 c4 k4
  have b4 := F4.binds (ps := ["source", "most"]) fun _ _ _ _ _ _ us hl => match us, hl with | [_, _], _ => rfl
  have F5 := fun_mk (st := s__law_items) l5 c5 k5
  have b5 := F5.binds (ps := ["source", "size"]) fun _ _ _ _ _ _ us hl => match us, hl with | [_, _], _ => rfl
  have F6 := fun_mk (st := s__law_applied) l6 c6 k6
  have b6 := F6.binds (ps := ["items", "order"]) fun _ _ _ _ _ _ us hl => match us, hl with | [_, _], _ => rfl
  have F7 := fun_mk (st := s__law_same_class) l7 c7 k7
  have b7 := F7.binds (ps := ["source", "order"]) fun _ _ _ _ _ _ us hl => match us, hl with | [_, _], _ => rfl
  have F8 := fun_mk (st := s__law_spoilt) l8 c8 k8
  have b8 := F8.binds (ps := ["source", "order", "size"]) fun _ _ _ _ _ _ us hl => match us, hl with | [_, _, _], _ => rfl
  have F9 := fun_mk (st := s__law_is_order) l9 c9 k9
  have b9 := F9.binds (ps := ["edges", "thing"]) fun _ _ _ _ _ _ us hl => match us, hl with | [_, _], _ => rfl
  have F10 := fun_mk (st := s_is_integer) l10 c10 k10
  have b10 := F10.binds (ps := ["thing", "least", "most"]) fun _ _ _ _ _ _ us hl => match us, hl with | [_, _, _], _ => rfl
  have F11 := fun_mk (st := s_is_edge) l11 c11 k11
  have b11 := F11.binds (ps := ["thing", "size"]) fun _ _ _ _ _ _ us hl => match us, hl with | [_, _], _ => rfl
  have F12 := fun_mk (st := s_tree_labels) l12 c12 k12
  have b12 := F12.binds (ps := ["size", "edges"]) fun _ _ _ _ _ _ us hl => match us, hl with | [_, _], _ => rfl
  have F13 := fun_mk (st := s_is_forest) l13 c13 k13
  have b13 := F13.binds (ps := ["thing"]) fun _ _ _ _ _ _ us hl => match us, hl with | [_], _ => rfl
  have F14 := fun_mk (st := s_need_forest) l14 c14 k14
  have b14 := F14.binds (ps := ["forest"]) fun _ _ _ _ _ _ us hl => match us, hl with | [_], _ => rfl
  have F15 := fun_mk (st := s_is_item) l15 c15 k15
  have b15 := F15.binds (ps := ["thing"]) fun _ _ _ _ _ _ us hl => match us, hl with | [_], _ => rfl
  have F16 := fun_mk (st := s_is_arrangement) l16 c16 k16
  have b16 := F16.binds (ps := ["n", "thing"]) fun _ _ _ _ _ _ us hl => match us, hl with | [_, _], _ => rfl
  have F17 := fun_mk (st := s_need_items) l17 c17 k17
  have b17 := F17.binds (ps := ["forest", "items"]) fun _ _ _ _ _ _ us hl => match us, hl with | [_, _], _ => rfl
  have F18 := fun_mk (st := s_need_both) l18 c18 k18
  have b18 := F18.binds (ps := ["forest", "before", "after"]) fun _ _ _ _ _ _ us hl => match us, hl with | [_, _, _], _ => rfl
  have F19 := fun_mk (st := s_moves_between) l19 c19 k19
  have b19 := F19.binds (ps := ["before", "after"]) fun _ _ _ _ _ _ us hl => match us, hl with | [_, _], _ => rfl
  have F20 := fun_mk (st := s_moves) l20 c20 k20
  have b20 := F20.binds (ps := ["forest", "before", "after"]) fun _ _ _ _ _ _ us hl => match us, hl with | [_, _, _], _ => rfl
  have F21 := fun_mk (st := s_is_order) l21 c21 k21
  have b21 := F21.binds (ps := ["forest", "thing"]) fun _ _ _ _ _ _ us hl => match us, hl with | [_, _], _ => rfl
  have F22 := fun_mk (st := s_need_order) l22 c22 k22
  have b22 := F22.binds (ps := ["forest", "order"]) fun _ _ _ _ _ _ us hl => match us, hl with | [_, _], _ => rfl
  have F23 := fun_mk (st := s_swapped) l23 c23 k23
  have b23 := F23.binds (ps := ["items", "order"]) fun _ _ _ _ _ _ us hl => match us, hl with | [_, _], _ => rfl
  have F24 := fun_mk (st := s_apply_order) l24 c24 k24
  have b24 := F24.binds (ps := ["forest", "items", "order"]) fun _ _ _ _ _ _ us hl => match us, hl with | [_, _, _], _ => rfl
  have F25 := fun_mk (st := s_order_fits) l25 c25 k25
  have b25 := F25.binds (ps := ["forest", "before", "after", "thing"]) fun _ _ _ _ _ _ us hl => match us, hl with | [_, _, _, _], _ => rfl
  have F26 := fun_mk (st := s_law) l26 c26 k26
  refine ⟨PySem.W.fnOf "law" "law" (defArgs s_law) (defBody s_law) (defScope s_law) .none kV26 dc26 pm26 an26 cd26 ct26, fun s v => .of_eq rfl, fun base _ _ => ?_⟩
  have D__law_source : Dn l.prog w K mg base 1 "_law_source" ["script"] (spPF K mg f__law_source) := ⟨_, _, (ok__law_source T F1), PySem.W.mg_of X G a1, k1, b1⟩
  have D__law_draw : Dn l.prog w K mg base 1 "_law_draw" ["source", "wide"] (spM K mg f__law_draw) := ⟨_, _, (ok__law_draw T F2), PySem.W.mg_of X G a2, k2, b2⟩
  have D__law_shuffled : Dn l.prog w K mg base 2 "_law_shuffled" ["source", "values"] (spM K mg f__law_shuffled) := ⟨_, _, (ok__law_shuffled T D__law_draw F3), PySem.W.mg_of X G a3, k3, b3⟩
  have D__law_forest : Dn l.prog w K mg base 3 "_law_forest" ["source", "most"] (spM K mg f__law_forest) := ⟨_, _, (ok__law_forest T D__law_draw D__law_shuffled F4), PySem.W.mg_of X G a4, k4, b4⟩
  have D__law_items : Dn l.prog w K mg base 3 "_law_items" ["source", "size"] (spM K mg f__law_items) := ⟨_, _, (ok__law_items T D__law_draw D__law_shuffled F5), PySem.W.mg_of X G a5, k5, b5⟩
  have D__law_applied : Dn l.prog w K mg base 1 "_law_applied" ["items", "order"] (spPF K mg f__law_applied) := ⟨_, _, (ok__law_applied T F6), PySem.W.mg_of X G a6, k6, b6⟩
  have D__law_same_class : Dn l.prog w K mg base 2 "_law_same_class" ["source", "order"] (spM K mg f__law_same_class) := ⟨_, _, (ok__law_same_class T D__law_draw F7), PySem.W.mg_of X G a7, k7, b7⟩
  have D__law_spoilt : Dn l.prog w K mg base 2 "_law_spoilt" ["source", "order", "size"] (spM K mg f__law_spoilt) := ⟨_, _, (ok__law_spoilt T D__law_draw F8), PySem.W.mg_of X G a8, k8, b8⟩
  have D__law_is_order : Dn l.prog w K mg base 1 "_law_is_order" ["edges", "thing"] (spP K mg f__law_is_order) := ⟨_, _, (ok__law_is_order T F9), PySem.W.mg_of X G a9, k9, b9⟩
  have D_is_integer : Dn l.prog w K mg base 1 "is_integer" ["thing", "least", "most"] (spP K mg f_is_integer) := ⟨_, _, (ok_is_integer T F10), PySem.W.mg_of X G a10, k10, b10⟩
  have D_is_edge : Dn l.prog w K mg base 2 "is_edge" ["thing", "size"] (spP K mg f_is_edge) := ⟨_, _, (ok_is_edge T D_is_integer F11), PySem.W.mg_of X G a11, k11, b11⟩
  have D_tree_labels : Dn l.prog w K mg base 1 "tree_labels" ["size", "edges"] (spP K mg f_tree_labels) := ⟨_, _, (ok_tree_labels T F12), PySem.W.mg_of X G a12, k12, b12⟩
  have D_is_forest : Dn l.prog w K mg base 3 "is_forest" ["thing"] (spP K mg f_is_forest) := ⟨_, _, (ok_is_forest T D_is_integer D_is_edge D_tree_labels F13), PySem.W.mg_of X G a13, k13, b13⟩
  have D_need_forest : Dn l.prog w K mg base 4 "need_forest" ["forest"] (spP K mg f_need_forest) := ⟨_, _, (ok_need_forest T D_is_forest F14), PySem.W.mg_of X G a14, k14, b14⟩
  have D_is_item : Dn l.prog w K mg base 1 "is_item" ["thing"] (spP K mg f_is_item) := ⟨_, _, (ok_is_item T F15), PySem.W.mg_of X G a15, k15, b15⟩
  have D_is_arrangement : Dn l.prog w K mg base 2 "is_arrangement" ["n", "thing"] (spP K mg f_is_arrangement) := ⟨_, _, (ok_is_arrangement T D_is_item F16), PySem.W.mg_of X G a16, k16, b16⟩
  have D_need_items : Dn l.prog w K mg base 3 "need_items" ["forest", "items"] (spP K mg f_need_items) := ⟨_, _, (ok_need_items T D_is_arrangement F17), PySem.W.mg_of X G a17, k17, b17⟩
  have D_need_both : Dn l.prog w K mg base 5 "need_both" ["forest", "before", "after"] (spP K mg f_need_both) := ⟨_, _, (ok_need_both T D_need_forest D_need_items F18), PySem.W.mg_of X G a18, k18, b18⟩
  have D_moves_between : Dn l.prog w K mg base 1 "moves_between" ["before", "after"] (spP K mg f_moves_between) := ⟨_, _, (ok_moves_between T F19), PySem.W.mg_of X G a19, k19, b19⟩
  have D_moves : Dn l.prog w K mg base 6 "moves" ["forest", "before", "after"] (spP K mg f_moves) := ⟨_, _, (ok_moves T D_need_both D_moves_between F20), PySem.W.mg_of X G a20, k20, b20⟩
  have D_is_order : Dn l.prog w K mg base 3 "is_order" ["forest", "thing"] (spP K mg f_is_order) := ⟨_, _, (ok_is_order T D_is_edge F21), PySem.W.mg_of X G a21, k21, b21⟩
  have D_need_order : Dn l.prog w K mg base 4 "need_order" ["forest", "order"] (spP K mg f_need_order) := ⟨_, _, (ok_need_order T D_is_order F22), PySem.W.mg_of X G a22, k22, b22⟩
  have D_swapped : Dn l.prog w K mg base 1 "swapped" ["items", "order"] (spP K mg f_swapped) := ⟨_, _, (ok_swapped T F23), PySem.W.mg_of X G a23, k23, b23⟩
  have D_apply_order : Dn l.prog w K mg base 5 "apply_order" ["forest", "items", "order"] (spP K mg f_apply_order) := ⟨_, _, (ok_apply_order T D_need_forest D_need_items D_need_order D_swapped F24), PySem.W.mg_of X G a24, k24, b24⟩
  have D_order_fits : Dn l.prog w K mg base 7 "order_fits" ["forest", "before", "after", "thing"] (spP K mg f_order_fits) := ⟨_, _, (ok_order_fits T D_moves D_apply_order F25), PySem.W.mg_of X G a25, k25, b25⟩
  exact (ok_law T D__law_source D__law_forest D__law_draw D__law_items D__law_shuffled D__law_applied D__law_same_class D__law_spoilt D__law_is_order D_order_fits F26).imp fun vs H Q E ⟨a, ns, e, hs, hl, hb, q⟩ => ⟨H, [.list (ns.map .int)], Same.refl _, by subst e; exact .cons (.lst hs (ints_rp ns)) .nil, by
    rw [hL ns hl hb]
    intro v Hs' H' _ _ _ _ r
    cases r
    exact q H'⟩
theorem walk (hL : LawTrue) {l : PySem.W.OpenLaw} {q : Program} {loose : List Str} {XP : (Str → Option Value) → Heap → Prop} {YP : World → Heap → Prop} {d : DefRec} {K : Params → PySem.W.Frag} (hn : l.most = some 63) (hdf : d.params.defaults = [])
    (hY : ∀ (w : World) (h : Heap), YP w h → (K w.params).In h)
    (F : ∀ (w : World) (mg : Str → Option Value) (fa : Addr) (h : Heap), (K w.params).In h → h.Ns mainGlobals mg → mg d.name = some (.ref fa) →
      ∃ fd : FuncData, (∀ (s : Shared) (u : Value), BindsTo s fd ⟨[u], []⟩ [("script", u)]) ∧ ∀ base : Heap, (K w.params).In base → base.Ns mainGlobals mg → FnOkG l.prog w (K w.params) mg base (L2.CX l.prog w) 8 fa fd ["script"] (spLaw (K w.params))) :
    PySem.W.WalkO q loose XP YP l.row.toRowW d [] (fun f vs => PySem.call f vs) :=
  walk_ofGB (n := 63) (k := 8) (x := "script") (CX := fun w => L2.CX l.prog w) (sp := fun w => spLaw (K w.params)) hn (by decide) hdf ⟨⟨rfl, by decide, by decide⟩, rfl⟩ hY F (fun _ _ a ns hl hb hS => ⟨a, ns, rfl, hS, hl, hb, fun _ => rfl⟩) fun w H s e s' ⟨_, _, _, _, _, _, _, _, _, _, _, _, z⟩ => z
end Law

namespace Law
open PySem L2 DL
theorem is_integer_int (i lo hi : Int) : f_is_integer [.int i, .int lo, .int hi] = .ok (.bool (decide (lo ≤ i ∧ i ≤ hi))) := by
  refine runP rfl ?_
  simp [en0, F_is_integer]
  by_cases h : lo ≤ i <;> simp [h]
theorem is_edge_ok (p : FT.Ed) (n : Nat) (h : p.1 < p.2) (h2 : p.2 < n) : f_is_edge [eD p, .int (n : Int)] = .ok (.bool true) := by
  refine runP rfl ?_
  have e1 : gNe (.int 2) (.int 2) = some (.bool false) := rfl
  simp [en0, F_is_edge, eD]
  rw [show ([PyData.int (p.1 : Int), PyData.int (p.2 : Int)] : List D) = [p.1, p.2].map nD from rfl, lcP_map (fun a : Nat => PyData.bool (decide ((0 : Int) ≤ (a : Int) ∧ (a : Int) ≤ (n : Int) - 1))) _ fun a ha => ⟨_, rfl, by simp [noer_ok (is_integer_int a 0 (n - 1)), nD]⟩]
  simp only [Re.bd_ok, pCons1_ap, pNil_ap, pCons2_ap, gAll_map, opt_some, tru_b]
  rw [show ([p.1, p.2].all fun a : Nat => decide ((0 : Int) ≤ (a : Int) ∧ (a : Int) ≤ (n : Int) - 1)) = true by simp; omega]
  simp [nD]; omega
theorem tree_labels_ok (n : Nat) (hn : n ≤ 1000000) (es : List FT.Ed) (he : ∀ p ∈ es, p.1 < n ∧ p.2 < n) :
    Wr (f_tree_labels [.int (n : Int), .list (es.map eD)]) fun d => (¬ FT.Ac es ∧ d = .none) ∨ (FT.Ac es ∧ ∃ ls, d = .list (ls.map nD) ∧ FT.Lab n es ls) := by
  refine Wr_P rfl ?_
  simp [en0, F_tree_labels, gLr1_nat (show n ≤ 16777216 by omega)]
  simp only [Wr_bd]
  refine Wr_for0 (fun k δ => ∃ ls a b c d, δ = [.sh (.int (n : Int)), .sh (.list (es.map eD)), .sh (.list (ls.map nD)), a, b, c, d, .no] ∧ FT.Lab n (es.take k).reverse ls ∧ FT.Ac (es.take k).reverse)
    ⟨List.range n, _, _, _, _, rfl, FT.lab_nil n, trivial⟩ ?_ ?_
  · rintro i p δ hi ⟨ls, a, b, c, d, rfl, L, A⟩
    obtain ⟨hp1, hp2⟩ := he p (List.mem_of_getElem? hi)
    have l1 : p.1 < ls.length := by rw [L.1]; exact hp1
    have l2 : p.2 < ls.length := by rw [L.1]; exact hp2
    have et : (es.take (i + 1)).reverse = p :: (es.take i).reverse := by
      rw [List.take_succ, hi]; simp
    by_cases h : ls[p.1] = ls[p.2]
    · simp [l1, l2, nD, eD, h]
      intro z
      have z2 := FT.Ac.sub (List.take_sublist (i + 1) es) z
      have z3 := FT.Ac.perm (List.reverse_perm _).symm z2
      rw [et] at z3
      exact z3.2 ((L.2 _ _ l1 l2).mp h)
    · have h' : ¬ ((ls[p.1] : Int) = ls[p.2]) := by omega
      obtain ⟨k, g, hs, hk⟩ := gSort2n ls[p.1] ls[p.2]
      have hlen : ls.length ≤ 1000000 := by rw [L.1]; omega
      simp [l1, l2, nD, eD, h', hs, hlen]
      rw [lcL_map (f := nD) (fun x : Nat => PyData.int ((if x = g then k else x : Nat) : Int)) ls fun x hx => ⟨_, rfl, by simp, by
        by_cases hx : x = g
        · simp [hx, nD]
        · have : ¬ ((x : Int) = g) := by omega
          simp [this, hx, nD]⟩]
      simp
      refine ⟨FT.relab k g ls, ?_, ?_, ?_⟩
      · rw [List.map_map]; rfl
      · rw [et]; exact L.step l1 l2 hk
      · rw [et]; exact ⟨A, fun z => h ((L.2 _ _ l1 l2).mpr z)⟩
  · rintro δ ⟨ls, a, b, c, d, rfl, L, A⟩
    simp
    rw [List.take_length] at A L
    have A' := FT.Ac.perm (List.reverse_perm _) A
    exact ⟨A', ls, rfl, L.1, fun i j hi hj => (L.2 i j hi hj).trans (FT.Cn.perm (List.reverse_perm _))⟩
/-- edges as the program wants them -/
def Good (n : Nat) (es : List FT.Ed) : Prop := (∀ p ∈ es, p.1 < p.2 ∧ p.2 < n) ∧ es.Pairwise fun a b => eLt a b = true
theorem zip_all {n : Nat} : ∀ {es : List FT.Ed}, es.Pairwise (fun a b => eLt a b = true) → ∀ q ∈ es.zip es.tail, eLt q.1 q.2 = true
  | [], _, q, h => by simp at h
  | [a], _, q, h => by simp at h
  | a :: b :: l, h, q, hq => by
    simp only [List.tail_cons, List.zip_cons_cons, List.mem_cons] at hq
    rcases hq with rfl | hq
    · exact (List.pairwise_cons.mp h).1 b (List.mem_cons_self ..)
    · exact zip_all (n := n) (List.pairwise_cons.mp h).2 q hq
theorem is_forest_ok (n : Nat) (h1 : 1 ≤ n) (h2 : n ≤ 40) (es : List FT.Ed) (he : Good n es) (hl : es.length ≤ 1000000) :
    Wr (f_is_forest [.tuple [.int (n : Int), .list (es.map eD)]]) fun d => (¬ FT.Ac es ∧ d = .bool false) ∨ (FT.Ac es ∧ d = .bool true) := by
  refine Wr_P rfl ?_
  have e1 : gNe (.int 2) (.int 2) = some (.bool false) := rfl
  have e2 : f_is_integer [.int (n : Int), .int 1, .int 40] = .ok (.bool true) := by
    rw [is_integer_int]
    have : decide ((1 : Int) ≤ n ∧ (n : Int) ≤ 40) = true := by simp; omega
    rw [this]
  simp [en0, F_is_forest, e2]
  rw [lcP_map (f := eD) (fun _ : FT.Ed => PyData.bool true) es fun p hp => ⟨_, rfl, by simp [noer_ok (is_edge_ok p n (he.1 p hp).1 (he.1 p hp).2)]⟩]
  simp [gAll_true, hl]
  rw [← List.map_tail, zip_map, lcP_map (f := fun q : FT.Ed × FT.Ed => PyData.tuple [eD q.1, eD q.2]) (fun _ : FT.Ed × FT.Ed => PyData.bool true) (es.zip es.tail) fun q hq => ⟨_, rfl, by simp [gLt_eD, zip_all (n := n) he.2 q hq]⟩]
  simp [gAll_true, show es.length ≤ 1000001 by omega]
  rw [Wr_bd, Wr_bd, Wr_bd]
  refine (tree_labels_ok n (by omega) es fun p hp => ⟨Nat.lt_trans (he.1 p hp).1 (he.1 p hp).2, (he.1 p hp).2⟩).imp fun d hd => ?_
  rcases hd with ⟨a, rfl⟩ | ⟨a, ls, rfl, _⟩ <;> simp [a]
def Rng (n : Nat) (es : List FT.Ed) : Prop := ∀ p ∈ es, p.1 < p.2 ∧ p.2 < n
theorem forest_yes (n : Nat) (h1 : 1 ≤ n) (h2 : n ≤ 40) (es : List FT.Ed) (he : Good n es) (hl : es.length ≤ 1000000) (A : FT.Ac es) : f_is_forest [.tuple [.int (n : Int), .list (es.map eD)]] = .ok (.bool true) := by
  obtain ⟨d, e, h⟩ := is_forest_ok n h1 h2 es he hl
  rw [e]
  rcases h with ⟨a, rfl⟩ | ⟨a, rfl⟩
  · exact absurd A a
  · rfl
theorem forest_no (n : Nat) (h1 : 1 ≤ n) (h2 : n ≤ 40) (es : List FT.Ed) (he : Good n es) (hl : es.length ≤ 1000000) (A : ¬ FT.Ac es) : f_is_forest [.tuple [.int (n : Int), .list (es.map eD)]] = .ok (.bool false) := by
  obtain ⟨d, e, h⟩ := is_forest_ok n h1 h2 es he hl
  rw [e]
  rcases h with ⟨a, rfl⟩ | ⟨a, rfl⟩
  · rfl
  · exact absurd a A
theorem add_ok (n : Nat) (h1 : 1 ≤ n) (h2 : n ≤ 40) (es : List FT.Ed) (hr : Rng n es) (A : FT.Ac es) (p : FT.Ed) (hp : p.1 < p.2 ∧ p.2 < n) (hn : p ∉ es) (hl : es.length + 1 ≤ 1000000) :
    f_is_forest [.tuple [.int (n : Int), .list ((sortE (es ++ [p])).map eD)]] = .ok (.bool (!decide (p.2 ∈ FT.grows es n [p.1]))) ∧ (p.2 ∉ FT.grows es n [p.1] → FT.Ac (sortE (es ++ [p]))) ∧ Rng n (sortE (es ++ [p])) := by
  have hr' : ∀ q ∈ es ++ [p], q.1 < q.2 ∧ q.2 < n := fun q hq => by
    rcases List.mem_append.mp hq with hq | hq
    · exact hr q hq
    · simp at hq; subst hq; exact hp
  have nd : (es ++ [p]).Nodup := by
    rw [List.nodup_append]
    exact ⟨A.nodup, by simp, fun a ha b hb => by simp at hb; subst hb; exact fun e => hn (e ▸ ha)⟩
  have g := good_sort hr' nd
  have pm : (sortE (es ++ [p])).Perm (p :: es) := (sortE_perm _).trans List.perm_append_comm
  have acs : FT.Ac (sortE (es ++ [p])) ↔ ¬ FT.Cn es p.1 p.2 := (FT.ac_perm pm).trans ⟨fun h => h.2, fun h => ⟨A, h⟩⟩
  have gi := FT.grows_iff (n := n) (es := es) (v := p.1) (by omega) (fun q hq => ⟨Nat.lt_trans (hr q hq).1 (hr q hq).2, (hr q hq).2⟩) p.2
  refine ⟨?_, fun h => acs.mpr fun c => h (gi.mpr c), g.1⟩
  have ln : (sortE (es ++ [p])).length ≤ 1000000 := by rw [(sortE_perm _).length_eq]; simpa using hl
  by_cases c : FT.Cn es p.1 p.2
  · rw [decide_eq_true (gi.mpr c)]
    exact forest_no n h1 h2 _ g ln fun z => acs.mp z c
  · rw [decide_eq_false (fun z => c (gi.mp z))]
    exact forest_yes n h1 h2 _ g ln (acs.mpr c)
/-! the law's own choices (the third family) -/
def Src (B : Nat) (s : List D) : Prop := ∃ a b c : Int, s = [.int a, .int b, .int c] ∧ 0 ≤ b ∧ b < 2305843009213693951 ∧ 0 ≤ c ∧ c ≤ B
theorem Src.mono {B C : Nat} {s : List D} (h : Src B s) (l : B ≤ C) : Src C s := by
  obtain ⟨a, b, c, e, h1, h2, h3, h4⟩ := h
  exact ⟨a, b, c, e, h1, h2, h3, by omega⟩
theorem log2_lt {n k : Nat} (h : n < 2 ^ k) (hk : 0 < k) : n.log2 < k := by
  by_cases h0 : n = 0
  · subst h0; simpa using hk
  · exact (Nat.log2_lt h0).mpr h
theorem log2_bits {z : Int} (h : Builtin.Int.intBits z ≤ 1048576) : z.natAbs.log2 ≤ 1048576 := by
  unfold Builtin.Int.intBits at h
  split at h
  · rename_i e
    have : z = 0 := by simpa using e
    subst this; decide
  · omega
theorem p60 : ∃ K Q P : Int, gPow (.int 10) (.int 18) = some (.int K) ∧ gPow (.int 10) (.int 60) = some (.int Q) ∧ gPow (.int Q) (.int 5) = some (.int P) ∧ 0 < P ∧ P.natAbs.log2 ≤ 1000 := by
  refine ⟨10 ^ 18, 10 ^ 60, (10 ^ 60) ^ 5, gPow_int (by decide) (by decide), gPow_int (by decide) (by decide), gPow_int (by decide) (by decide +kernel), by decide +kernel, ?_⟩
  decide +kernel
theorem log2_mul (a b : Nat) : (a * b).log2 ≤ a.log2 + b.log2 + 1 := by
  by_cases h : a * b = 0
  · rw [h]; exact Nat.zero_le _
  · have ha : a ≠ 0 := fun z => h (by rw [z, Nat.zero_mul])
    have hb : b ≠ 0 := fun z => h (by rw [z, Nat.mul_zero])
    have h1 : a < 2 ^ (a.log2 + 1) := (Nat.log2_lt ha).mp (Nat.lt_succ_self _)
    have h2 : b < 2 ^ (b.log2 + 1) := (Nat.log2_lt hb).mp (Nat.lt_succ_self _)
    have : a * b < 2 ^ (a.log2 + b.log2 + 1 + 1) := by
      rw [show a.log2 + b.log2 + 1 + 1 = (a.log2 + 1) + (b.log2 + 1) by omega, Nat.pow_add]
      exact Nat.mul_lt_mul'' h1 h2
    have := (Nat.log2_lt h).mpr this
    omega
theorem log2_add {a b k : Nat} (ha : a.log2 ≤ k) (hb : b.log2 ≤ k) : (a + b).log2 ≤ k + 1 := by
  have lt : ∀ {x : Nat}, x.log2 ≤ k → x < 2 ^ (k + 1) := fun {x} h => by
    by_cases z : x = 0
    · rw [z]; exact Nat.two_pow_pos _
    · exact (Nat.log2_lt z).mp (by omega)
  have h1 := lt ha
  have h2 := lt hb
  by_cases z : a + b = 0
  · rw [z]; exact Nat.zero_le _
  · have : a + b < 2 ^ (k + 1 + 1) := by rw [Nat.pow_succ]; omega
    have := (Nat.log2_lt z).mpr this
    omega
theorem source_ok (ns : List Int) (hlen : ns.length ≤ 63) : Wr (f__law_source [.list (ns.map .int)]) (Src 0) := by
  refine Wr_PF rfl ?_
  obtain ⟨K, Q, P, h18, hp1, hp2, P0, Pb⟩ := p60
  have hm : ∀ x : Int, gMod (.int x) (.int 2305843009213693951) = some (.int (x % 2305843009213693951)) := fun x => gMod_int (by decide)
  have hm2 : ∀ x : Int, gMod (.int x) (.int 2147483629) = some (.int (x % 2147483629)) := fun x => gMod_int (by decide)
  have hmP : ∀ x : Int, gMod (.int x) (.int P) = some (.int (x % P)) := fun x => gMod_int P0
  have sl : gSl (.list (ns.map PyData.int)) none (some 60) = some (.list ((ns.take 60).map .int)) := by
    have := gSl_to (ns.map PyData.int) 60
    rw [List.map_take, ← this]; rfl
  have bd : ∀ x : Int, 0 ≤ x % 2305843009213693951 ∧ x % 2305843009213693951 < 2305843009213693951 := fun x => ⟨Int.emod_nonneg x (by decide), Int.emod_lt_of_pos x (by decide)⟩
  have e61 : (2 : Nat) ^ 61 = 2305843009213693952 := by decide
  simp [en0, F__law_source, sl]
  simp only [Wr_bd]
  rw [← List.map_take]
  refine Wr_for0 (l := ns.take 60) (f := PyData.int) (fun i δ => ∃ (a b : Int) (z : Sl), δ = [.sh (.list (ns.map .int)), .sh (.int a), .sh (.int b), z] ∧ a.natAbs.log2 ≤ 2000 * i ∧ 0 ≤ b ∧ b < 2305843009213693951) ⟨0, 65537, .no, rfl, by decide, by decide, by decide⟩ ?_ ?_
  · rintro i x δ hi ⟨a, b, z, rfl, ha, b0, b1⟩
    have hi1 := (List.getElem?_eq_some_iff.mp hi).1
    have hi2 : i < 60 := by rw [List.length_take] at hi1; omega
    have lb : b.natAbs.log2 < 61 := log2_lt (by rw [e61]; omega) (by decide)
    have m1 : gMul (.int b) (.int 48271) = some (.int (b * 48271)) := gMul_int (by
      have : (48271 : Int).natAbs.log2 = 15 := by decide
      omega)
    have m2 : gMul (.int a) (.int P) = some (.int (a * P)) := gMul_int (by omega)
    have bb := bd (b * 48271 + x % 2147483629 + 1)
    have lr : ∀ y : Int, (y % P).natAbs.log2 ≤ 1000 := fun y => by
      have h1 := Int.emod_nonneg y (Int.ne_of_gt P0)
      have h2 := Int.emod_lt_of_pos y P0
      have h3 : (y % P).natAbs < P.natAbs := by omega
      by_cases z : (y % P).natAbs = 0
      · rw [z]; exact Nat.zero_le _
      · have : (y % P).natAbs < 2 ^ (1000 + 1) := Nat.lt_trans h3 ((Nat.log2_lt (by omega)).mp (by omega))
        have := (Nat.log2_lt z).mpr this
        omega
    have la : ∀ y : Int, (a * P + y % P).natAbs.log2 ≤ 2000 * (i + 1) := fun y => by
      have h1 := log2_mul a.natAbs P.natAbs
      have h2 : (a * P).natAbs.log2 ≤ 2000 * i + 1001 := by rw [Int.natAbs_mul]; omega
      have h3 := lr y
      have h4 := log2_add (k := 2000 * i + 1001) h2 (show (y % P).natAbs.log2 ≤ 2000 * i + 1001 by omega)
      have h5 : (a * P + y % P).natAbs ≤ (a * P).natAbs + (y % P).natAbs := Int.natAbs_add_le _ _
      have h6 : (a * P + y % P).natAbs.log2 ≤ ((a * P).natAbs + (y % P).natAbs).log2 := by
        by_cases z : (a * P + y % P).natAbs = 0
        · rw [z]; exact Nat.zero_le _
        · have q : ((a * P).natAbs + (y % P).natAbs) < 2 ^ (((a * P).natAbs + (y % P).natAbs).log2 + 1) := (Nat.log2_lt (by omega)).mp (Nat.lt_succ_self _)
          have := (Nat.log2_lt z).mpr (Nat.lt_of_le_of_lt h5 q)
          omega
      omega
    obtain ⟨y, hy⟩ : ∃ y : Int, (if x < 0 then -x else x) = y := ⟨_, rfl⟩
    by_cases c : K ≤ y
    · have c' : y ≥ K := c
      simp [h18, hy, c', hp1, hp2, m2, hmP, m1, hm, hm2]
      exact ⟨_, _, ⟨rfl, rfl⟩, la y, bb.1, bb.2⟩
    · have c' : ¬ y ≥ K := c
      simp [h18, hy, c', hp1, hp2, m1, hm, hm2]
      exact ⟨_, _, ⟨rfl, rfl⟩, by omega, bb.1, bb.2⟩
  · rintro δ ⟨a, b, z, rfl, ha, b0, b1⟩
    simp
    exact ⟨_, _, 0, rfl, b0, b1, by decide, by decide⟩
theorem pick_ok {B : Nat} {s : List D} (hs : Src B s) (hB : B ≤ 2 ^ 60) {n : Nat} (h0 : 0 < n) (hn : n < 2 ^ 64) : ∃ (r : Nat) (s' : List D), f__law_draw s [.int (n : Int)] = .ok (.int (r : Int), s') ∧ r < n ∧ Src (B + 1) s' := by
  obtain ⟨a, b, c, rfl, h1, h2, h3, h4⟩ := hs
  have hn' : (0 : Int) < n := by omega
  have hd : ∀ x : Int, gDiv (.int x) (.int (n : Int)) = some (.int (x / n)) := fun x => gDiv_int hn' (by
    have : (n : Int).natAbs.log2 < 64 := log2_lt (by simpa using hn) (by decide)
    omega)
  have hm : ∀ x : Int, gMod (.int x) (.int (n : Int)) = some (.int (x % n)) := fun x => gMod_int hn'
  have bd : ∀ x : Int, ∃ r : Nat, x % n = (r : Int) ∧ r < n := fun x => ⟨(x % n).toNat, by
    have := Int.emod_nonneg x (b := n) (by omega)
    omega, by
    have := Int.emod_lt_of_pos x hn'
    have := Int.emod_nonneg x (b := n) (by omega)
    omega⟩
  suffices w : Wr (f__law_draw [.int a, .int b, .int c] [.int (n : Int)]) fun q => ∃ r : Nat, q.1 = .int (r : Int) ∧ r < n ∧ Src (B + 1) q.2 by
    obtain ⟨⟨d, s'⟩, e, r, rfl, hr, hS⟩ := w
    exact ⟨r, s', e, hr, hS⟩
  refine Wr_M rfl ?_
  by_cases hp : 0 < a
  · obtain ⟨r, e, hr⟩ := bd a
    simp [en1, F__law_draw, hp, hm, hd, ixN, e]
    exact ⟨r, rfl, hr, _, _, _, rfl, h1, h2, h3, by omega⟩
  · have hM : ∀ x : Int, gMod (.int x) (.int 2305843009213693951) = some (.int (x % 2305843009213693951)) := fun x => gMod_int (by decide)
    have bM : ∀ x : Int, 0 ≤ x % 2305843009213693951 ∧ x % 2305843009213693951 < 2305843009213693951 := fun x => ⟨Int.emod_nonneg x (by decide), Int.emod_lt_of_pos x (by decide)⟩
    have e61 : (2 : Nat) ^ 61 = 2305843009213693952 := by decide
    have e62 : (2 : Nat) ^ 62 = 4611686018427387904 := by decide
    have lM : ∀ x : Int, (x % 2305843009213693951).natAbs.log2 < 61 := fun x => log2_lt (by have := bM x; rw [e61]; omega) (by decide)
    have hB' : (B : Int) ≤ 1152921504606846976 := by omega
    have lc : (c + 1).natAbs.log2 < 62 := log2_lt (by rw [e62]; omega) (by decide)
    have u1 : gMul (.int 1103515245) (.int (c + 1)) = some (.int (1103515245 * (c + 1))) := gMul_int (by
      have : (1103515245 : Int).natAbs.log2 = 30 := by decide
      omega)
    have u2 : ∀ x : Int, gMul (.int (x % 2305843009213693951)) (.int (x % 2305843009213693951)) = some (.int (x % 2305843009213693951 * (x % 2305843009213693951))) := fun x => gMul_int (by have := lM x; omega)
    have u3 : ∀ x : Int, gMul (.int (x % 2305843009213693951)) (.int 69069) = some (.int (x % 2305843009213693951 * 69069)) := fun x => gMul_int (by
      have := lM x
      have : (69069 : Int).natAbs.log2 = 16 := by decide
      omega)
    have u6 : ∀ z : Int, gDiv (.int z) (.int 1048583) = some (.int (z / 1048583)) := fun z => gDiv_int (by decide) (by decide)
    obtain ⟨m1, hm1⟩ : ∃ m1 : Int, m1 = (b + 1103515245 * (c + 1)) % 2305843009213693951 := ⟨_, rfl⟩
    have v1 := u2 (b + 1103515245 * (c + 1))
    obtain ⟨m2, hm2⟩ : ∃ m2 : Int, m2 = m1 * m1 % 2305843009213693951 := ⟨_, rfl⟩
    have v2 := u3 (m1 * m1)
    obtain ⟨m3, hm3⟩ : ∃ m3 : Int, m3 = (m2 * 69069 + (c + 1)) % 2305843009213693951 := ⟨_, rfl⟩
    have v3 := u2 (m2 * 69069 + (c + 1))
    rw [← hm1] at v1
    rw [← hm2] at v2
    rw [← hm3] at v3
    simp [en1, F__law_draw, hp, hm, hd, ixN, hM, u1, ← hm1, v1, ← hm2, v2, ← hm3, v3, u6]
    generalize m3 * m3 % 2305843009213693951 / 1048583 = z
    obtain ⟨r, e, hr⟩ := bd z
    exact ⟨r, e, hr, _, _, _, rfl, h1, h2, by omega, by omega⟩
theorem at4 {P : Nat → Prop} (a b c d r : Nat) (hr : r < 4) (ha : P a) (hb : P b) (hc : P c) (hd : P d) : ∃ z : Nat, P z ∧ ([PyData.int (a : Int), .int (b : Int), .int (c : Int), .int (d : Int)] : List D)[r]? = some (.int (z : Int)) := by
  match r, hr with
  | 0, _ => exact ⟨a, ha, rfl⟩
  | 1, _ => exact ⟨b, hb, rfl⟩
  | 2, _ => exact ⟨c, hc, rfl⟩
  | 3, _ => exact ⟨d, hd, rfl⟩
theorem at3 {P : Nat → Prop} (a b c r : Nat) (hr : r < 3) (ha : P a) (hb : P b) (hc : P c) : ∃ z : Nat, P z ∧ ([PyData.int (a : Int), .int (b : Int), .int (c : Int)] : List D)[r]? = some (.int (z : Int)) := by
  match r, hr with
  | 0, _ => exact ⟨a, ha, rfl⟩
  | 1, _ => exact ⟨b, hb, rfl⟩
  | 2, _ => exact ⟨c, hc, rfl⟩
theorem shuffle_ok {α : Type} {f : α → D} {B : Nat} {s : List D} (hs : Src B s) (l : List α) (hB : B + l.length ≤ 2 ^ 59) (hl : l.length ≤ 1000000) : ∃ (l' : List α) (s' : List D), f__law_shuffled s [.list (l.map f)] = .ok ((.list (l'.map f)), s') ∧ l'.Perm l ∧ Src (B + l.length) s' := by
  suffices w : Wr (f__law_shuffled s [.list (l.map f)]) fun q => ∃ l' : List α, q.1 = (.list (l'.map f)) ∧ l'.Perm l ∧ Src (B + l.length) q.2 by
    obtain ⟨⟨d, s'⟩, e, l', rfl, h⟩ := w
    exact ⟨l', s', e, h⟩
  refine Wr_M rfl ?_
  simp [en1, F__law_shuffled, hl]
  simp only [Wr_bd, Wr_nb]
  refine Wr_lcL (l := l) (f := f) (fun i out δ => ∃ s1 don rem, δ = [.ow s1, .sh (.list (l.map f)), .ow (rem.map f), .no] ∧ out = don.map f ∧ (don ++ rem).Perm l ∧ don.length = i ∧ Src (B + i) s1) ⟨s, [], l, rfl, rfl, List.Perm.refl _, rfl, hs⟩ ?_ ?_
  · rintro i k out δ hi ⟨s1, don, rem, rfl, rfl, hp, hd, hS⟩
    have hlen := hp.length_eq
    rw [List.length_append] at hlen
    have hil : i < l.length := (List.getElem?_eq_some_iff.mp hi).1
    obtain ⟨r, s2, e, hr, hS2⟩ := pick_ok hS (by omega) (n := rem.length) (by omega) (by omega)
    have hpop : mPopAt (rem.map f) [.int (r : Int)] = some ((rem.eraseIdx r).map f, f rem[r]) := by
      rw [mPopAt_nat (by simpa using hr) (by simp; omega)]
      rw [map_erase]; simp
    simp [noer2_ok e, hpop, nD]
    refine ⟨s2, don ++ [rem[r]], rem.eraseIdx r, ⟨⟨rfl, rfl⟩, by simp, ?_, by simp [hd], hS2⟩⟩
    refine List.Perm.trans ?_ hp
    rw [List.append_assoc]
    exact List.Perm.append_left _ (erase_perm hr)
  · rintro r δ ⟨s1, don, rem, rfl, rfl, hp, hd, hS⟩
    have hrem : rem = [] := by
      have hlen := hp.length_eq
      rw [List.length_append] at hlen
      exact List.eq_nil_of_length_eq_zero (by omega)
    subst hrem
    rw [List.append_nil] at hp
    simp
    refine ⟨don, rfl, hp, hS⟩
def GI (B n : Nat) (lab : List Nat) (m : D) (r5 g : Nat) (i : Nat) (δ : En) : Prop := ∃ (t : List D) (ps : List FT.Ed) (a b : Sl), δ = [.ow t, .sh m, .sh (.int (n : Int)), .sh (.list (lab.map nD)), .sh (.int (r5 : Int)), .sh (.int (g : Int)), .ow (ps.map eD), a, b] ∧ Src (B + 50 + 4 * i) t ∧ FT.Ac ps.reverse ∧ (∀ p ∈ ps, p.1 < p.2 ∧ p.2 < n) ∧ (∀ p ∈ ps, p.1 ∈ lab.take (i + 1) ∧ p.2 ∈ lab.take (i + 1)) ∧ ps.length ≤ i
theorem graph_ok {B : Nat} {s : List D} (hs : Src B s) (hB : B ≤ 2 ^ 58) (most : Nat) (h1 : 1 ≤ most) (h2 : most ≤ 40) : ∃ (n : Nat) (es : List FT.Ed) (s' : List D), f__law_forest s [.int (most : Int)] = .ok (.tuple [.int (n : Int), .list (es.map eD)], s') ∧ 1 ≤ n ∧ n ≤ most ∧ Good n es ∧ FT.Ac es ∧ es.length ≤ 40 ∧ Src (B + 1000) s' := by
  suffices w : Wr (f__law_forest s [.int (most : Int)]) fun q => ∃ (n : Nat) (es : List FT.Ed), q.1 = .tuple [.int (n : Int), .list (es.map eD)] ∧ 1 ≤ n ∧ n ≤ most ∧ Good n es ∧ FT.Ac es ∧ es.length ≤ 40 ∧ Src (B + 1000) q.2 by
    obtain ⟨⟨d, s'⟩, e, n, es, rfl, h⟩ := w
    exact ⟨n, es, s', e, h⟩
  refine Wr_M rfl ?_
  have hp : (2 : Nat) ^ 58 = 288230376151711744 := by decide
  have hp' : (2 : Nat) ^ 60 = 1152921504606846976 := by decide
  obtain ⟨r1, s1, p1, q1, S1⟩ := pick_ok hs (by omega) (n := most) (by omega) (by omega)
  obtain ⟨r4, s4, p4, q4, S4⟩ := pick_ok S1 (by omega) (n := 4) (by omega) (by omega)
  have gd : gDiv (.int (r4 : Int)) (.int 3) = some (.int ((r4 / 3 : Nat) : Int)) := gDiv_int (by decide) (by decide)
  obtain ⟨n, ⟨n1, n2⟩, hn⟩ : ∃ z : Nat, (1 ≤ z ∧ z ≤ most) ∧ ([PyData.int ((1 + r1 : Nat) : Int), .int (most : Int)] : List D)[r4 / 3]? = some (.int (z : Int)) := by
    have : r4 / 3 = 0 ∨ r4 / 3 = 1 := by omega
    rcases this with e | e <;> rw [e]
    · exact ⟨1 + r1, by omega, rfl⟩
    · exact ⟨most, by omega, rfl⟩
  obtain ⟨lab, s7, p7, q7, S7⟩ := shuffle_ok (f := nD) S4 (List.range n) (by simp; omega) (by simp; omega)
  simp at S7
  obtain ⟨r5, s5, p5, q5, S5⟩ := pick_ok S7 (by omega) (n := 4) (by omega) (by omega)
  obtain ⟨r6, s6, p6, q6, S6⟩ := pick_ok S5 (by omega) (n := 3) (by omega) (by omega)
  obtain ⟨g, ⟨g1, gg⟩, hg⟩ := at3 (P := fun z => 1 ≤ z ∧ z ≤ 12) 1 9 3 r6 q6 (by omega) (by omega) (by omega)
  simp at p4 p5 p6 hn hg
  push_cast at gd
  have g2 : gRg2 [.int 1, .int (n : Int)] = some ((List.range (n - 1)).map fun k => nD (1 + k)) := gRg2_nat (a := 1) (by decide) (by omega)
  have ix : atI ([PyData.int (1 + (r1 : Int)), .int (most : Int)] : List D) ((r4 : Int) / 3) = some (.int (n : Int)) := by
    have : ((r4 : Int) / 3) = ((r4 / 3 : Nat) : Int) := by omega
    rw [this, atI_k]; exact hn
  simp [en1, F__law_forest, p1, p4, gd, ix, p5, p6, hg, gLr1_nat (show n ≤ 16777216 by omega), p7, g2]
  simp only [Wr_bd]
  have labn : lab.length = n := by rw [q7.length_eq, List.length_range]
  have labd : lab.Nodup := q7.symm.nodup List.nodup_range
  have labl : ∀ x ∈ lab, x < n := fun x hx => List.mem_range.mp (q7.mem_iff.mp hx)
  refine Wr_for0 (GI B n lab (.int (most : Int)) r5 g)
    ⟨s6, ([] : List FT.Ed), .no, .no, rfl, S6.mono (by omega), (show FT.Ac [] from trivial), by simp, by simp, by simp⟩ ?_ ?_
  · rintro i k δ hi ⟨t, ps, a, b, rfl, St, A, hps, hpt, hlen⟩
    have hi' := (List.getElem?_eq_some_iff.mp hi)
    obtain ⟨hi1, hi2⟩ := hi'
    simp at hi1 hi2
    subst hi2
    obtain ⟨t1, u1, w1, x1, T1⟩ := pick_ok St (by omega) (n := 1 + i) (by omega) (by omega)
    obtain ⟨t2, u2, w2, x2, T2⟩ := pick_ok T1 (by omega) (n := 3) (by omega) (by omega)
    have hm : ∃ m : Nat, m < 1 + i ∧ (if t2 < i then (i : Int) - (t2 : Int) else 0) = (m : Int) := ⟨i - t2, by omega, by split <;> omega⟩
    obtain ⟨m, m1, m2⟩ := hm
    obtain ⟨ah, ah1, ah2⟩ := at4 (P := fun z => z < 1 + i) i 0 t1 m r5 q5 (by omega) (by omega) x1 m1
    have c2 : 1 + (i : Int) - 1 = (i : Int) := by omega
    have k1 : ah < lab.length := by omega
    have k2 : 1 + i < lab.length := by omega
    obtain ⟨x, hx⟩ : ∃ x, x = lab[ah] := ⟨_, rfl⟩
    obtain ⟨y, hy⟩ : ∃ y, y = lab[1 + i] := ⟨_, rfl⟩
    have la : lab[ah]? = some x := by rw [hx]; exact List.getElem?_eq_getElem _
    have lk : atI (lab.map nD) (1 + (i : Int)) = some (.int (y : Int)) := by
      rw [show (1 + (i : Int)) = ((1 + i : Nat) : Int) by omega, atI_k, List.getElem?_map, List.getElem?_eq_getElem k2, ← hy]; rfl
    have mn := (minmax y x).1
    have mx := (minmax y x).2
    simp only [gt_iff_lt] at mx
    simp at w1 w2 ah2 mn mx
    have hps1 : ps.length < 1000000 := by omega
    -- the new edge
    have xin : x ∈ lab.take (i + 1) := by
      rw [hx, List.mem_take_iff_getElem]
      exact ⟨ah, by omega, rfl⟩
    have yin : y ∈ lab.take (i + 1 + 1) := by
      rw [hy, List.mem_take_iff_getElem]
      exact ⟨1 + i, by omega, rfl⟩
    have ynot : y ∉ lab.take (i + 1) := by
      intro z
      rw [hy, List.mem_take_iff_getElem] at z
      obtain ⟨j, hj, e⟩ := z
      have := (List.getElem_inj labd).mp e
      omega
    have xy : x ≠ y := fun e => ynot (e ▸ xin)
    have xl : x < n := labl x (by rw [hx]; exact List.getElem_mem _)
    have yl : y < n := labl y (by rw [hy]; exact List.getElem_mem _)
    have mono : ∀ z, z ∈ lab.take (i + 1) → z ∈ lab.take (i + 1 + 1) := fun z hz => List.take_subset_take_left _ (by omega) hz
    have off : ∀ p ∈ ps.reverse, p.1 ≠ y ∧ p.2 ≠ y := fun p hp => ⟨fun e => ynot (e ▸ (hpt p (List.mem_reverse.mp hp)).1), fun e => ynot (e ▸ (hpt p (List.mem_reverse.mp hp)).2)⟩
    have newA : FT.Ac (ps ++ [(min y x, max y x)]).reverse := by
      rw [List.reverse_append]
      refine ⟨A, fun c => ?_⟩
      have c' : FT.Cn ps.reverse y x := by
        rcases Nat.le_total y x with h | h
        · simpa [Nat.min_eq_left h, Nat.max_eq_right h] using c
        · have := c.symm; simpa [Nat.min_eq_right h, Nat.max_eq_left h] using this
      exact xy (FT.cn_off off c')
    have newL : ∀ p ∈ ps ++ [(min y x, max y x)], p.1 < p.2 ∧ p.2 < n := fun p hp => by
      rcases List.mem_append.mp hp with hp | hp
      · exact hps p hp
      · simp at hp; subst hp; exact ⟨by simp only; omega, by simp only; omega⟩
    have newT : ∀ p ∈ ps ++ [(min y x, max y x)], p.1 ∈ lab.take (i + 1 + 1) ∧ p.2 ∈ lab.take (i + 1 + 1) := fun p hp => by
      rcases List.mem_append.mp hp with hp | hp
      · exact ⟨mono _ (hpt p hp).1, mono _ (hpt p hp).2⟩
      · simp at hp; subst hp
        rcases Nat.le_total y x with h | h
        · simp only [Nat.min_eq_left h, Nat.max_eq_right h]; exact ⟨yin, mono _ xin⟩
        · simp only [Nat.min_eq_right h, Nat.max_eq_left h]; exact ⟨mono _ xin, yin⟩
    have fin : ∀ (u : List D) (a b : Sl), Src (B + 50 + 4 * (i + 1)) u → GI B n lab (.int (most : Int)) r5 g (i + 1) [.ow u, .sh (.int (most : Int)), .sh (.int (n : Int)), .sh (.list (lab.map nD)), .sh (.int (r5 : Int)), .sh (.int (g : Int)), .ow (ps.map eD ++ [.tuple [.int ((min y x : Nat) : Int), .int ((max y x : Nat) : Int)]]), a, b] := fun u a b hu =>
      ⟨u, ps ++ [(min y x, max y x)], a, b, by rw [List.map_append]; rfl, hu, newA, newL, newT, by simp; omega⟩
    have non : ∀ (u : List D) (a b : Sl), Src (B + 50 + 4 * (i + 1)) u → GI B n lab (.int (most : Int)) r5 g (i + 1) [.ow u, .sh (.int (most : Int)), .sh (.int (n : Int)), .sh (.list (lab.map nD)), .sh (.int (r5 : Int)), .sh (.int (g : Int)), .ow (ps.map eD), a, b] := fun u a b hu =>
      ⟨u, ps, a, b, rfl, hu, A, hps, fun p hp => ⟨mono _ (hpt p hp).1, mono _ (hpt p hp).2⟩, by omega⟩
    obtain ⟨t4, u4, w4, x4, T4⟩ := pick_ok T2 (by omega) (n := g) (by omega) (by omega)
    simp [nD, w1, w2, m2, c2, ah2, la]
    by_cases h6 : (g : Int) = 1
    · simp [h6, nD, la, lk, mn, mx, hps1]
      have := fin u2 (.sh (.int (1 + (i : Int)))) (.sh (.int (ah : Int))) (T2.mono (by omega))
      rw [h6] at this
      simpa using this
    · simp [h6, w4]
      by_cases h4 : 0 < t4
      · simp [h4, nD, la, lk, mn, mx, hps1]
        exact fin u4 _ _ (T4.mono (by omega))
      · simp [h4]
        exact non u4 _ _ (T4.mono (by omega))
  · rintro δ ⟨t, ps, a, b, rfl, St, A, hps, hpt, hlen⟩
    simp at hlen St
    simp [gSort_esD (show ps.length ≤ 1000000 by omega)]
    have A' := FT.Ac.perm (List.reverse_perm _) A
    exact ⟨n, sortE ps, ⟨rfl, rfl⟩, n1, n2, good_sort hps A'.nodup, FT.Ac.perm (sortE_perm ps).symm A', by rw [(sortE_perm ps).length_eq]; omega, St.mono (by omega)⟩
/-! neighbours -/
/-- what an edge adds to the list of a position -/
def nbr (v : Nat) (p : FT.Ed) : List Nat := if p.1 = v then [p.2] else if p.2 = v then [p.1] else []
def raw (es : List FT.Ed) (v : Nat) : List Nat := es.flatMap (nbr v)
def rowsD (n : Nat) (f : Nat → List Nat) : List (List D) := (List.range n).map fun v => (f v).map nD
theorem rowsD_len (n : Nat) (f : Nat → List Nat) : (rowsD n f).length = n := by unfold rowsD; simp
theorem rowsD_get {n : Nat} (f : Nat → List Nat) {a : Nat} (h : a < n) : (rowsD n f)[a]? = some ((f a).map nD) := by unfold rowsD; simp [h]
theorem rowsD_set {n : Nat} (f : Nat → List Nat) {a : Nat} (b : Nat) (h : a < n) : (rowsD n f).set a ((f a).map nD ++ [nD b]) = rowsD n fun v => if v = a then f v ++ [b] else f v := by
  apply List.ext_getElem?
  intro i
  by_cases hi : i < n
  · rw [rowsD_get _ hi]
    by_cases e : a = i
    · subst e
      rw [List.getElem?_set_self (by rw [rowsD_len]; exact h)]
      simp
    · rw [List.getElem?_set_ne e, rowsD_get _ hi]
      have : ¬ i = a := fun z => e z.symm
      simp [this]
  · rw [List.getElem?_eq_none (by rw [List.length_set, rowsD_len]; omega), List.getElem?_eq_none (by rw [rowsD_len]; omega)]
theorem raw_snoc (es : List FT.Ed) (p : FT.Ed) (v : Nat) : raw (es ++ [p]) v = raw es v ++ nbr v p := by unfold raw; simp
theorem nbr_len (v : Nat) (p : FT.Ed) : (nbr v p).length ≤ 1 := by
  unfold nbr
  by_cases h1 : p.1 = v
  · simp [h1]
  · by_cases h2 : p.2 = v <;> simp [h1, h2]
theorem raw_len : ∀ (es : List FT.Ed) (v : Nat), (raw es v).length ≤ es.length
  | [], v => Nat.le_refl _
  | p :: es, v => by
    have := raw_len es v
    have := nbr_len v p
    unfold raw at *
    rw [List.flatMap_cons, List.length_append, List.length_cons]; omega
theorem rowsD_step {n : Nat} (es : List FT.Ed) (p : FT.Ed) (h : p.1 < p.2) : rowsD n (raw (es ++ [p])) = rowsD n fun v => if v = p.2 then (if v = p.1 then raw es v ++ [p.2] else raw es v) ++ [p.1] else if v = p.1 then raw es v ++ [p.2] else raw es v := by
  unfold rowsD
  apply List.map_congr_left
  intro v _
  rw [raw_snoc]
  unfold nbr
  by_cases h1 : p.1 = v
  · subst h1
    have : ¬ p.1 = p.2 := by omega
    simp [this]
  · by_cases h2 : p.2 = v
    · subst h2
      have : ¬ p.2 = p.1 := by omega
      simp [h1, this]
    · have a1 : ¬ v = p.1 := fun z => h1 z.symm
      have a2 : ¬ v = p.2 := fun z => h2 z.symm
      simp [h1, h2, a1, a2]
/-! where an item ends: the walk along the turns, plain -/
def nxt (T : Nat → List Nat) (here came : Nat) : Option Nat := if came = here then (T here)[0]? else (T here)[(T here).idxOf came + 1]?
inductive Wk (T : Nat → List Nat) (s : Nat) : Nat → Nat → Nat → Prop
  | start : Wk T s 0 s s
  | step {k here came f : Nat} : Wk T s k here came → nxt T here came = some f → Wk T s (k + 1) f here
/-- the walk stops here -/
def Stop (T : Nat → List Nat) (here came : Nat) : Prop := (came = here ∧ T here = []) ∨ (came ≠ here ∧ came ∈ T here ∧ (T here).idxOf came + 1 = (T here).length)
theorem Stop.none {T : Nat → List Nat} {here came : Nat} (h : Stop T here came) : nxt T here came = none := by
  unfold nxt
  rcases h with ⟨e, h⟩ | ⟨ne, hm, h⟩
  · rw [if_pos e, h]; rfl
  · rw [if_neg ne, h]; exact List.getElem?_eq_none (Nat.le_refl _)
theorem nxt_ext {T U : Nat → List Nat} (hU : ∀ v, ∃ r, U v = T v ++ r) {here came f : Nat} (h : nxt T here came = some f) : nxt U here came = some f := by
  obtain ⟨r, e⟩ := hU here
  unfold nxt at h ⊢
  rw [e]
  by_cases c : came = here
  · rw [if_pos c] at h ⊢
    rw [List.getElem?_append_left (List.getElem?_eq_some_iff.mp h).1]; exact h
  · rw [if_neg c] at h ⊢
    have hlt := (List.getElem?_eq_some_iff.mp h).1
    have hm : came ∈ T here := by
      apply Classical.byContradiction
      intro z
      rw [List.idxOf_eq_length z] at hlt
      omega
    rw [List.idxOf_append, if_pos hm, List.getElem?_append_left hlt]; exact h
theorem Wk.ext {T U : Nat → List Nat} (hU : ∀ v, ∃ r, U v = T v ++ r) {s k here came : Nat} (h : Wk T s k here came) : Wk U s k here came := by
  induction h with
  | start => exact .start
  | step _ e ih => exact .step ih (nxt_ext hU e)
/-- places exchanged -/
def exc (p : FT.Ed) (x : Nat) : Nat := if x = p.1 then p.2 else if x = p.2 then p.1 else x
def posn (s : Nat) (l : List FT.Ed) : Nat := l.foldl (fun x p => exc p x) s
theorem posn_snoc (s : Nat) (l : List FT.Ed) (p : FT.Ed) : posn s (l ++ [p]) = exc p (posn s l) := by unfold posn; rw [List.foldl_append]; rfl
theorem idxOf_last {l : List Nat} {a : Nat} (h : a ∉ l) : (l ++ [a]).idxOf a = l.length := by
  rw [List.idxOf_append, if_neg h]; simp
theorem mem_raw {l : List FT.Ed} {v x : Nat} (h : x ∈ raw l v) : (v, x) ∈ l ∨ (x, v) ∈ l := by
  unfold raw at h
  obtain ⟨p, hp, h⟩ := List.mem_flatMap.mp h
  unfold nbr at h
  split at h
  · rename_i e
    rw [List.mem_singleton] at h
    subst h e
    exact .inl hp
  · split at h
    · rename_i e
      rw [List.mem_singleton] at h
      subst h e
      exact .inr hp
    · cases h
/-- one more swap, seen from the place where the walk stops -/
theorem stop_step {l : List FT.Ed} {a b c : Nat} {p : FT.Ed} (ab : a ≠ b) (hp : p = (a, b) ∨ p = (b, a)) (n1 : b ∉ raw l a) (n2 : a ∉ raw l b) (h : Stop (raw l) a c) : nxt (raw (l ++ [p])) a c = some b ∧ Stop (raw (l ++ [p])) b a := by
  have ra : raw (l ++ [p]) a = raw l a ++ [b] := by
    rw [raw_snoc]
    unfold nbr
    rcases hp with rfl | rfl
    · simp
    · simp [ab.symm]
  have rb : raw (l ++ [p]) b = raw l b ++ [a] := by
    rw [raw_snoc]
    unfold nbr
    rcases hp with rfl | rfl
    · simp [ab]
    · simp
  constructor
  · unfold nxt
    rw [ra]
    rcases h with ⟨e, h⟩ | ⟨ne, hm, h⟩
    · rw [if_pos e, h]; rfl
    · rw [if_neg ne, List.idxOf_append, if_pos hm, h]
      rw [List.getElem?_append_right (Nat.le_refl _)]; simp
  · refine .inr ⟨ab, ?_, ?_⟩
    · rw [rb]; simp
    · rw [rb, idxOf_last n2]; simp
theorem stop_other {l : List FT.Ed} {v c : Nat} {p : FT.Ed} (h1 : v ≠ p.1) (h2 : v ≠ p.2) (h : Stop (raw l) v c) : Stop (raw (l ++ [p])) v c := by
  have e : raw (l ++ [p]) v = raw l v := by
    rw [raw_snoc]
    unfold nbr
    rw [if_neg (fun z => h1 z.symm), if_neg (fun z => h2 z.symm), List.append_nil]
  unfold Stop at h ⊢
  rw [e]; exact h
theorem snoc_ind {α : Type} {Q : List α → Prop} (h0 : Q []) (h1 : ∀ l a, Q l → Q (l ++ [a])) (l : List α) : Q l := by
  have : Q l.reverse.reverse := by
    generalize l.reverse = r
    induction r with
    | nil => exact h0
    | cons a r ih => rw [List.reverse_cons]; exact h1 _ _ ih
  rwa [List.reverse_reverse] at this
/-- the walk along the turns of an order ends where the swaps bring the item -/
theorem walk_pos (s : Nat) : ∀ (l : List FT.Ed), (∀ p ∈ l, p.1 < p.2) → l.Nodup → ∃ k c, k ≤ l.length ∧ Wk (raw l) s k (posn s l) c ∧ Stop (raw l) (posn s l) c := by
  refine snoc_ind (fun _ _ => ⟨0, s, Nat.le_refl _, .start, .inl ⟨rfl, rfl⟩⟩) fun l p ih => ?_
  · intro hlt hnd
    have hl : ∀ q ∈ l, q.1 < q.2 := fun q hq => hlt q (List.mem_append_left _ hq)
    have hp : p.1 < p.2 := hlt p (by simp)
    obtain ⟨nd, _, dj⟩ := List.nodup_append.mp hnd
    have pn : p ∉ l := fun z => dj p z p (by simp) rfl
    have n1 : p.2 ∉ raw l p.1 := fun z => by
      rcases mem_raw z with z | z
      · exact pn z
      · have := hl _ z; simp at this; omega
    have n2 : p.1 ∉ raw l p.2 := fun z => by
      rcases mem_raw z with z | z
      · have := hl _ z; simp at this; omega
      · exact pn z
    obtain ⟨k, c, hk, w, st⟩ := ih hl nd
    have hU : ∀ v, ∃ r, raw (l ++ [p]) v = raw l v ++ r := fun v => ⟨_, raw_snoc l p v⟩
    rw [posn_snoc, List.length_append, List.length_singleton]
    by_cases c1 : posn s l = p.1
    · rw [c1] at w st
      obtain ⟨h1, h2⟩ := stop_step (p := p) (a := p.1) (b := p.2) (by omega) (.inl rfl) n1 n2 st
      refine ⟨k + 1, p.1, by omega, ?_, ?_⟩
      · rw [c1]; unfold exc; rw [if_pos rfl]; exact .step (w.ext hU) h1
      · rw [c1]; unfold exc; rw [if_pos rfl]; exact h2
    · by_cases c2 : posn s l = p.2
      · rw [c2] at w st c1
        obtain ⟨h1, h2⟩ := stop_step (p := p) (a := p.2) (b := p.1) (by omega) (.inr rfl) n2 n1 st
        refine ⟨k + 1, p.2, by omega, ?_, ?_⟩
        · rw [c2]; unfold exc; rw [if_neg c1, if_pos rfl]; exact .step (w.ext hU) h1
        · rw [c2]; unfold exc; rw [if_neg c1, if_pos rfl]; exact h2
      · refine ⟨k, c, by omega, ?_, ?_⟩
        · unfold exc; rw [if_neg c1, if_neg c2]; exact w.ext hU
        · unfold exc; rw [if_neg c1, if_neg c2]; exact stop_other c1 c2 st
/-! an order with given turns, found edge by edge, plain -/
theorem raw_mem {l : List FT.Ed} (hl : ∀ p ∈ l, p.1 < p.2) {v u : Nat} : u ∈ raw l v ↔ (v, u) ∈ l ∨ (u, v) ∈ l := by
  refine ⟨mem_raw, fun h => ?_⟩
  unfold raw
  rcases h with h | h
  · exact List.mem_flatMap.mpr ⟨_, h, by unfold nbr; simp⟩
  · have := hl _ h
    simp at this
    refine List.mem_flatMap.mpr ⟨_, h, ?_⟩
    unfold nbr
    rw [if_neg (by simp; omega), if_pos rfl]; simp
theorem raw_nodup (v : Nat) : ∀ l : List FT.Ed, (∀ p ∈ l, p.1 < p.2) → l.Nodup → (raw l v).Nodup := by
  refine snoc_ind (fun _ _ => List.nodup_nil) fun l p ih hl hn => ?_
  obtain ⟨nd, _, dj⟩ := List.nodup_append.mp hn
  have hl' : ∀ q ∈ l, q.1 < q.2 := fun q hq => hl q (List.mem_append_left _ hq)
  have hp : p.1 < p.2 := hl p (by simp)
  have pn : p ∉ l := fun z => dj p z p (by simp) rfl
  rw [raw_snoc]
  refine List.nodup_append.mpr ⟨ih hl' nd, ?_, fun a ha b hb e => ?_⟩
  · unfold nbr
    split
    · simp
    · split <;> simp
  · subst e
    unfold nbr at hb
    split at hb
    · rename_i e
      rw [List.mem_singleton] at hb
      subst hb e
      rcases mem_raw ha with z | z
      · exact pn z
      · have := hl' _ z; simp at this; omega
    · split at hb
      · rename_i e
        rw [List.mem_singleton] at hb
        subst hb e
        rcases mem_raw ha with z | z
        · have := hl' _ z; simp at this; omega
        · exact pn z
      · cases hb
structure Sq (es d : List FT.Ed) (R L : Nat → List Nat) : Prop where
  sub : ∀ p ∈ d, p ∈ es
  nd : d.Nodup
  eq : ∀ v, R v = raw d v ++ L v
theorem sub_len : ∀ {d es : List FT.Ed}, d.Nodup → (∀ p ∈ d, p ∈ es) → d.length ≤ es.length
  | [], _, _, _ => Nat.zero_le _
  | p :: d, es, nd, h => by
    obtain ⟨hn, hd⟩ := List.nodup_cons.mp nd
    have hp := h p List.mem_cons_self
    have := sub_len (es := es.erase p) hd fun q hq => by
      have ne : q ≠ p := fun z => hn (z ▸ hq)
      exact (List.mem_erase_of_ne ne).mpr (h q (List.mem_cons_of_mem _ hq))
    rw [List.length_erase_of_mem hp] at this
    have := List.length_pos_of_mem hp
    rw [List.length_cons]; omega
theorem sub_perm : ∀ {d es : List FT.Ed}, d.Nodup → (∀ p ∈ d, p ∈ es) → es.length ≤ d.length → d.Perm es
  | [], es, _, _, h => by
    have : es = [] := List.eq_nil_of_length_eq_zero (by simpa using h)
    subst this; exact List.Perm.refl _
  | p :: d, es, nd, h, hl => by
    obtain ⟨hn, hd⟩ := List.nodup_cons.mp nd
    have hp := h p List.mem_cons_self
    have := sub_perm (es := es.erase p) hd (fun q hq => by
      have ne : q ≠ p := fun z => hn (z ▸ hq)
      exact (List.mem_erase_of_ne ne).mpr (h q (List.mem_cons_of_mem _ hq))) (by
      rw [List.length_erase_of_mem hp]
      rw [List.length_cons] at hl; omega)
    exact (this.cons p).trans (List.perm_cons_erase hp).symm
section
variable {es d : List FT.Ed} {R L : Nat → List Nat}
theorem Sq.mem (S : Sq es d R L) (he : ∀ p ∈ es, p.1 < p.2) (hn : es.Nodup) (hR : ∀ v, (R v).Perm (raw es v)) {v u : Nat} : u ∈ L v ↔ ((v, u) ∈ es ∨ (u, v) ∈ es) ∧ ¬ ((v, u) ∈ d ∨ (u, v) ∈ d) := by
  have hd : ∀ p ∈ d, p.1 < p.2 := fun p hp => he p (S.sub p hp)
  have nR : (raw d v ++ L v).Nodup := by rw [← S.eq v]; exact (hR v).symm.nodup (raw_nodup v es he hn)
  have m : u ∈ raw d v ++ L v ↔ ((v, u) ∈ es ∨ (u, v) ∈ es) := by rw [← S.eq v, (hR v).mem_iff, raw_mem he]
  rw [List.mem_append, raw_mem hd] at m
  constructor
  · intro h
    refine ⟨m.mp (.inr h), fun z => ?_⟩
    exact (List.nodup_append.mp nR).2.2 u ((raw_mem hd).mpr z) u h rfl
  · rintro ⟨h1, h2⟩
    exact (m.mpr h1).resolve_left h2
theorem Sq.ready (S : Sq es d R L) (he : ∀ p ∈ es, p.1 < p.2) (hn : es.Nodup) (A : FT.Ac es) (hR : ∀ v, (R v).Perm (raw es v)) (hl : d.length < es.length) : ∃ p ∈ es, (L p.1)[0]? = some p.2 ∧ (L p.2)[0]? = some p.1 := by
  have hd : ∀ p ∈ d, p.1 < p.2 := fun p hp => he p (S.sub p hp)
  obtain ⟨p, hp, np⟩ : ∃ p, p ∈ es ∧ p ∉ d := by
    apply Classical.byContradiction
    intro no
    have := sub_len (d := es) (es := d) hn fun p hp => Classical.byContradiction fun z => no ⟨p, hp, z⟩
    omega
  have head : ∀ v, L v ≠ [] → (L v)[0]? = some ((L v).headD 0) := fun v h => by
    cases hL : L v with
    | nil => exact absurd hL h
    | cons x r => rfl
  have sym : ∀ v u, u ∈ L v → v ∈ L u := fun v u h => by
    rw [S.mem he hn hR] at h ⊢
    exact ⟨h.1.symm, fun z => h.2 z.symm⟩
  obtain ⟨v, hv, e⟩ := FT.meets A (W := fun v => L v ≠ []) (h := fun v => (L v).headD 0) ⟨p.1, fun z => by
      have : p.2 ∈ L p.1 := (S.mem he hn hR).mpr ⟨.inl hp, fun z => by
        rcases z with z | z
        · exact np z
        · have h1 := hd _ z
          have h2 := he _ hp
          simp at h1; omega⟩
      rw [z] at this; cases this⟩ fun v hv => by
    have hm := List.mem_of_getElem? (head v hv)
    refine ⟨fun z => ?_, ((S.mem he hn hR).mp hm).1⟩
    have := sym _ _ hm
    rw [z] at this; cases this
  have hm := List.mem_of_getElem? (head v hv)
  have hu : L ((L v).headD 0) ≠ [] := fun z => by
    have := sym _ _ hm
    rw [z] at this; cases this
  have e1 := head v hv
  have e2 := head _ hu
  rw [e] at e2
  rcases ((S.mem he hn hR).mp hm).1 with z | z
  · exact ⟨_, z, e1, e2⟩
  · exact ⟨_, z, e2, e1⟩
theorem Sq.step (S : Sq es d R L) (he : ∀ p ∈ es, p.1 < p.2) (hn : es.Nodup) (hR : ∀ v, (R v).Perm (raw es v)) {p : FT.Ed} (hp : p ∈ es) (h1 : (L p.1)[0]? = some p.2) (h2 : (L p.2)[0]? = some p.1) : Sq es (d ++ [p]) R fun v => if v = p.1 ∨ v = p.2 then (L v).tail else L v := by
  have lt := he p hp
  have np : p ∉ d := fun z => ((S.mem he hn hR).mp (List.mem_of_getElem? h1)).2 (.inl z)
  refine ⟨fun q hq => ?_, ?_, fun v => ?_⟩
  · rcases List.mem_append.mp hq with hq | hq
    · exact S.sub q hq
    · rw [List.mem_singleton] at hq; subst hq; exact hp
  · exact List.nodup_append.mpr ⟨S.nd, by simp, fun a ha b hb e => by
      rw [List.mem_singleton] at hb; subst hb e; exact np ha⟩
  · have cut : ∀ {l : List Nat} {x : Nat}, l[0]? = some x → l = [x] ++ l.tail := fun {l x} h => by
      cases l with
      | nil => cases h
      | cons y r => simp at h; subst h; rfl
    rw [S.eq v, raw_snoc]
    unfold nbr
    by_cases c1 : p.1 = v
    · subst c1
      rw [if_pos rfl, if_pos (.inl rfl), List.append_assoc]
      exact congrArg _ (cut h1)
    · by_cases c2 : p.2 = v
      · subst c2
        rw [if_neg c1, if_pos rfl, if_pos (.inr rfl), List.append_assoc]
        exact congrArg _ (cut h2)
      · rw [if_neg c1, if_neg c2, if_neg (fun z => z.elim (fun z => c1 z.symm) fun z => c2 z.symm), List.append_nil]
/-- at the end -/
theorem Sq.done (S : Sq es d R L) (he : ∀ p ∈ es, p.1 < p.2) (hn : es.Nodup) (hR : ∀ v, (R v).Perm (raw es v)) (hl : es.length ≤ d.length) : d.Perm es ∧ ∀ v, R v = raw d v := by
  have P := sub_perm S.nd S.sub hl
  refine ⟨P, fun v => ?_⟩
  have : L v = [] := by
    rw [List.eq_nil_iff_forall_not_mem]
    intro u hu
    obtain ⟨h1, h2⟩ := (S.mem he hn hR).mp hu
    exact h2 (h1.imp P.mem_iff.mpr P.mem_iff.mpr)
  rw [S.eq v, this, List.append_nil]
end
/-! a row behind swaps -/
def swp {α : Type} (xs : List α) (p : FT.Ed) : List α := match xs[p.1]?, xs[p.2]? with
  | some a, some b => (xs.set p.1 b).set p.2 a
  | _, _ => xs
def after {α : Type} (xs : List α) (l : List FT.Ed) : List α := l.foldl swp xs
theorem swp_eq {α : Type} {xs : List α} {p : FT.Ed} (h1 : p.1 < xs.length) (h2 : p.2 < xs.length) : swp xs p = (xs.set p.1 xs[p.2]).set p.2 xs[p.1] := by
  unfold swp
  rw [List.getElem?_eq_getElem h1, List.getElem?_eq_getElem h2]
theorem swp_perm {α : Type} (xs : List α) (p : FT.Ed) : (swp xs p).Perm xs := by
  unfold swp
  split
  · rename_i a b ha hb
    obtain ⟨h1, e1⟩ := List.getElem?_eq_some_iff.mp ha
    obtain ⟨h2, e2⟩ := List.getElem?_eq_some_iff.mp hb
    subst e1 e2
    exact List.set_set_perm h1 h2
  · exact List.Perm.refl _
theorem after_perm {α : Type} : ∀ (l : List FT.Ed) (xs : List α), (after xs l).Perm xs
  | [], xs => List.Perm.refl _
  | p :: l, xs => (after_perm l (swp xs p)).trans (swp_perm xs p)
theorem after_len {α : Type} (l : List FT.Ed) (xs : List α) : (after xs l).length = xs.length := (after_perm l xs).length_eq
theorem after_snoc {α : Type} (xs : List α) (l : List FT.Ed) (p : FT.Ed) : after xs (l ++ [p]) = swp (after xs l) p := by unfold after; rw [List.foldl_append]; rfl
theorem swp_map {α β : Type} (f : α → β) (xs : List α) (p : FT.Ed) : swp (xs.map f) p = (swp xs p).map f := by
  unfold swp
  rw [List.getElem?_map, List.getElem?_map]
  cases xs[p.1]? with
  | none => rfl
  | some a =>
    cases xs[p.2]? with
    | none => rfl
    | some b => simp [List.map_set]
theorem after_map {α β : Type} (f : α → β) : ∀ (l : List FT.Ed) (xs : List α), after (xs.map f) l = (after xs l).map f
  | [], xs => rfl
  | p :: l, xs => by
    show after (swp (xs.map f) p) l = (after (swp xs p) l).map f
    rw [swp_map, after_map f l]
/-! words -/
def ABC : Str := "abcdefghijklmnopqrstuvwxyz"
def okW (w : Str) : Prop := 1 ≤ w.length ∧ w.length ≤ 8 ∧ ∀ k ∈ w.cps.toList, k ∈ ABC.cps.toList
instance (w : Str) : Decidable (okW w) := by unfold okW; exact inferInstance
def isW : D → Bool
  | .str w => decide (okW w)
  | _ => false
/-- texts of moderate length, of true signs -/
def shortD : D → Bool
  | .str w => decide (w.length ≤ 1000000) && (PyData.str w).canLay0
  | _ => true
theorem short_len {w : Str} (h : shortD (.str w) = true) : w.length ≤ 1000000 := of_decide_eq_true (Bool.and_eq_true_iff.mp h).1
theorem short_can {w : Str} (h : shortD (.str w) = true) : (PyData.str w).canLay0 = true := (Bool.and_eq_true_iff.mp h).2
theorem short_sign {w : Str} (h : shortD (.str w) = true) : ∀ k ∈ w.cps.toList, (PyData.str ⟨#[k]⟩).canLay0 = true := fun k hk => by
  have z : w.cps.all (· < 0x110000) = true := short_can h
  rw [Array.all_eq_true'] at z
  have := z k (Array.mem_toList_iff.mp hk)
  show (#[k] : Array Nat).all (· < 0x110000) = true
  simpa using this
theorem gEq_empty {xs : List D} (h1 : ∀ x ∈ xs, x.canLay0 = true) (h2 : ∀ x ∈ xs, x.depth ≤ 63) : gEq (.list xs) (.list []) = some (.bool xs.isEmpty) := by
  unfold gEq
  rw [eqD_list (shaped_list h1 h2) rfl]
  cases xs <;> rfl
theorem is_item_any (d : D) (h : shortD d = true) : f_is_item [d] = .ok (.bool (isW d)) := by
  refine runP rfl ?_
  cases d with
  | str w =>
    have hl : w.length ≤ 1000000 := short_len h
    have hs : w.cps.size ≤ 1000000 := hl
    by_cases c1 : 1 ≤ w.length
    · by_cases c2 : w.length ≤ 8
      · have l1 : (1 : Int) ≤ w.length := by omega
        have l2 : (w.length : Int) ≤ 8 := by omega
        simp [en0, F_is_item, gLen_str hl, l1, l2, hs]
        rw [lcP_map (f := fun k => PyData.str ⟨#[k]⟩) (fun k : Nat => PyData.bool (decide (k ∈ ABC.cps.toList))) w.cps.toList fun k hk => ⟨_, rfl, by
          simp [gIn_sign, ABC]⟩]
        simp [gAll_map, isW, okW, c1, c2]
        rw [Bool.eq_iff_iff, Array.all_eq_true', decide_eq_true_iff]
        exact ⟨fun z k hk => of_decide_eq_true (z k hk), fun z k hk => decide_eq_true (z k hk)⟩
      · have l1 : (1 : Int) ≤ w.length := by omega
        have l2 : ¬ (w.length : Int) ≤ 8 := by omega
        simp [en0, F_is_item, gLen_str hl, l1, l2, isW, okW, c2]
    · have l1 : ¬ (1 : Int) ≤ w.length := by omega
      simp [en0, F_is_item, gLen_str hl, l1, isW, okW, c1]
  | _ => rfl
/-- a value that is handed in: what is in a list is short -/
def hand : D → Bool
  | .list xs => xs.all shortD && xs.all (fun x => x.canLay0) && xs.all (fun x => decide (x.depth ≤ 63)) && decide (xs.length ≤ 4000)
  | _ => true
theorem hand_list {xs : List D} (h : hand (.list xs) = true) : (∀ x ∈ xs, shortD x = true) ∧ (∀ x ∈ xs, x.canLay0 = true) ∧ (∀ x ∈ xs, x.depth ≤ 63) ∧ xs.length ≤ 4000 := by
  unfold hand at h
  simp only [Bool.and_eq_true, List.all_eq_true, decide_eq_true_eq] at h
  exact ⟨h.1.1.1, h.1.1.2, h.1.2, h.2⟩
def asW : D → Str
  | .str w => w
  | _ => Str.empty
theorem all_words {xs : List D} (h : ∀ x ∈ xs, isW x = true) : xs = (xs.map asW).map .str := by
  induction xs with
  | nil => rfl
  | cons x xs ih =>
    have hx := h x (List.mem_cons_self ..)
    rw [List.map_cons, List.map_cons, ← ih fun y hy => h y (List.mem_cons_of_mem _ hy)]
    cases x with
    | str w => rfl
    | _ => cases hx
def rowOk (n : Nat) : D → Bool
  | .list xs => decide (xs.length = n) && xs.all isW && decide ((xs.map asW).Nodup)
  | _ => false
theorem is_arrangement_any (n : Nat) (d : D) (h : hand d = true) : f_is_arrangement [.int (n : Int), d] = .ok (.bool (rowOk n d)) := by
  refine runP rfl ?_
  cases d with
  | list xs =>
    obtain ⟨s1, s2, s3, s4⟩ := hand_list h
    have hl : xs.length ≤ 1000000 := by omega
    by_cases c1 : xs.length = n
    · have e1 : (xs.length : Int) = n := by omega
      have lc : lcP (gNm 2) (fun _ => .ok true) (pCr (noer f_is_item) (pCons (pV 2) pNil)) xs [.sh (.int (n : Int)), .sh (.list xs), .no] = .ok (xs.map fun x => .bool (isW x)) := by
        have := lcP_map (f := fun x : D => x) (g := gNm 2) (e := pCr (noer f_is_item) (pCons (pV 2) pNil)) (δ := [.sh (.int (n : Int)), .sh (.list xs), .no]) (fun x => PyData.bool (isW x)) xs fun x hx => ⟨_, rfl, by simp [noer_ok (is_item_any x (s1 x hx))]⟩
        simpa using this
      simp [en0, F_is_arrangement, e1, hl, lc, gAll_map]
      by_cases c2 : ∃ x, x ∈ xs ∧ isW x = false
      · have ra : rowOk n (.list xs) = false := by
          obtain ⟨x, hx, z⟩ := c2
          have : xs.all isW = false := List.all_eq_false.mpr ⟨x, hx, by rw [z]; exact Bool.false_ne_true⟩
          show (decide (xs.length = n) && xs.all isW && _) = false
          rw [this]; simp
        simp [c2, ra]
      · have aw : ∀ x ∈ xs, isW x = true := fun x hx => by
          cases z : isW x with
          | true => rfl
          | false => exact absurd ⟨x, hx, z⟩ c2
        have ew := all_words aw
        have gl : gLenSet (.list xs) = some (.int (met (xs.map asW) xs.length)) := by
          have := gLenSet_strs (ys := xs.map asW) (by simp; omega)
          rw [← ew, List.length_map] at this; exact this
        have mf := met_full (xs.map asW) xs.length (by simp)
        rw [show (xs.map asW).take xs.length = xs.map asW by rw [List.take_of_length_le (by simp)]] at mf
        have ra : rowOk n (.list xs) = decide ((xs.map asW).Nodup) := by
          show (decide (xs.length = n) && xs.all isW && decide ((xs.map asW).Nodup)) = _
          rw [decide_eq_true c1, List.all_eq_true.mpr aw]; simp
        simp [c2, gl, ra]
        rw [← mf, c1]
        omega
    · have e1 : ¬ (xs.length : Int) = n := by omega
      simp [en0, F_is_arrangement, e1, rowOk, c1]
  | _ => rfl
/-- a row without hidden words -/
structure Full (ws : List Str) : Prop where
  ne : ws ≠ []
  len : ws.length ≤ 40
  ok : ∀ w ∈ ws, okW w
  nd : ws.Nodup
/-! names -/
theorem Full.perm {ws vs : List Str} (F : Full ws) (p : vs.Perm ws) : Full vs := ⟨fun e => F.ne (by subst e; exact List.Perm.eq_nil p.symm), by rw [p.length_eq]; exact F.len, fun w hw => F.ok w (p.mem_iff.mp hw), p.symm.nodup F.nd⟩
/-! items -/
def lt (i : Nat) : Str := ⟨#[97 + i]⟩
def tail (k : Nat) : Str := lt (k / 26) ++ lt (k % 26)
def nm (style k : Nat) : Str := match style with
  | 0 => if k < 26 then lt k else tail k
  | 1 => tail k
  | _ => tail k ++ ("zzzzzz" : Str)
theorem abc_at : ∀ i, i < 26 → ABC.cps.toList[i]? = some (97 + i) := by decide +kernel
theorem nm_ok : ∀ style, style < 3 → ∀ k, k < 40 → okW (nm style k) := by decide +kernel
theorem nm_nd : ∀ style, style < 3 → ((List.range 40).map (nm style)).Nodup := by decide +kernel
theorem nm_full (style n : Nat) (hs : style < 3) (h1 : 1 ≤ n) (h2 : n ≤ 40) : Full ((List.range n).map (nm style)) := ⟨by
    intro z
    have := congrArg List.length z
    simp at this
    omega, by simpa using h2, fun w hw => by
    obtain ⟨k, hk, rfl⟩ := List.mem_map.mp hw
    exact nm_ok style hs k (by have := List.mem_range.mp hk; omega), by
    have : ((List.range n).map (nm style)).Sublist ((List.range 40).map (nm style)) := (List.range_sublist.mpr h2).map _
    exact this.nodup (nm_nd style hs)⟩
theorem items_ok {B : Nat} {s : List D} (hs : Src B s) (hB : B ≤ 2 ^ 57) (n : Nat) (h1 : 1 ≤ n) (h2 : n ≤ 40) : ∃ (ws : List Str) (s' : List D), f__law_items s [.int (n : Int)] = .ok (.list (ws.map .str), s') ∧ Full ws ∧ ws.length = n ∧ Src (B + 100) s' := by
  suffices w : Wr (f__law_items s [.int (n : Int)]) fun q => ∃ ws : List Str, q.1 = .list (ws.map .str) ∧ Full ws ∧ ws.length = n ∧ Src (B + 100) q.2 by
    obtain ⟨⟨d, s'⟩, e, ws, rfl, h⟩ := w
    exact ⟨ws, s', e, h⟩
  refine Wr_M rfl ?_
  have hp : (2 : Nat) ^ 57 = 144115188075855872 := by decide
  have hp' : (2 : Nat) ^ 59 = 576460752303423488 := by decide
  have hp2 : (2 : Nat) ^ 60 = 1152921504606846976 := by decide
  obtain ⟨st, s1, p1, q1, S1⟩ := pick_ok hs (by omega) (n := 3) (by omega) (by omega)
  simp at p1
  simp [en1, F__law_items, p1, gRg1_nat (show n < 2 ^ 62 by omega)]
  simp only [Wr_bd]
  refine Wr_for0 (fun k δ => ∃ a b, δ = [.ow s1, .sh (.int (n : Int)), .sh (.str ABC), .sh (.int (st : Int)), .ow (((List.range k).map (nm st)).map .str), a, b]) ⟨.no, .no, rfl⟩ ?_ ?_
  · rintro k i δ hk ⟨a, b, rfl⟩
    obtain ⟨hk1, hk2⟩ := List.getElem?_eq_some_iff.mp hk
    simp at hk1 hk2
    subst hk2
    have hl2 : k < 1000000 := by omega
    have labc : ABC.length ≤ 1000000 := by decide +kernel
    obtain ⟨x, hx⟩ : ∃ x, x = k / 26 := ⟨_, rfl⟩
    obtain ⟨y, hy⟩ : ∃ y, y = k % 26 := ⟨_, rfl⟩
    have d26 : gDiv (.int (k : Int)) (.int 26) = some (.int (x : Int)) := by rw [hx]; exact gDiv_int (by decide) (by decide)
    have m26 : gMod (.int (k : Int)) (.int 26) = some (.int (y : Int)) := by rw [hy]; exact gMod_int (by decide)
    have ix : ∀ i : Nat, i < 26 → gIx (.str ABC) (.int (i : Int)) = some (.str (lt i)) := fun i hi => by
      rw [gIx_str labc, DL.atI_k, abc_at i hi]; rfl
    have i1 := ix x (by omega)
    have i2 := ix y (by omega)
    have a1 : gAdd (.str (lt x)) (.str (lt y)) = some (.str (tail k)) := by rw [hx, hy]; exact gAdd_str (by show 1 + 1 ≤ 1000000; decide)
    have a2 : gAdd (.str (tail k)) (.str (Str.ofString "zzzzzz")) = some (.str (tail k ++ ("zzzzzz" : Str))) := gAdd_str (by show (1 + 1) + 6 ≤ 1000000; decide)
    have et : ((List.range (k + 1)).map (nm st)).map PyData.str = ((List.range k).map (nm st)).map PyData.str ++ [.str (nm st k)] := by rw [List.range_succ]; simp
    rw [et]
    by_cases c : k < 26
    · have a4 : ([PyData.str (lt k), .str (tail k), .str (tail k ++ ("zzzzzz" : Str))] : List D)[st]? = some (.str (nm st k)) := by
        match st, q1 with
        | 0, _ => simp [nm, c]
        | 1, _ => rfl
        | 2, _ => rfl
      have i3 := ix k c
      have c' : (k : Int) < 26 := by omega
      simp only [ABC] at i1 i2 i3
      simp [nD, d26, m26, i1, i2, i3, a1, a2, a4, hl2, ABC, c', c]
    · have a4 : ([PyData.str (tail k), .str (tail k), .str (tail k ++ ("zzzzzz" : Str))] : List D)[st]? = some (.str (nm st k)) := by
        match st, q1 with
        | 0, _ => simp [nm, c]
        | 1, _ => rfl
        | 2, _ => rfl
      have c' : ¬ (k : Int) < 26 := by omega
      simp only [ABC] at i1 i2
      simp [nD, d26, m26, i1, i2, a1, a2, a4, hl2, ABC, c', c]
  · rintro δ ⟨a, b, rfl⟩
    simp only [List.length_range]
    have F := nm_full st n q1 h1 h2
    obtain ⟨vs, s2, e2, pv, S2⟩ := shuffle_ok (f := PyData.str) S1 ((List.range n).map (nm st)) (by simp; omega) (by simp; omega)
    simp only [List.map_map] at e2
    simp [e2]
    exact ⟨vs, rfl, F.perm pv, by simpa using pv.length_eq, S2.mono (by simp; omega)⟩
/-! sorted words; arrangements -/
theorem dle_str (p q : Str) : PySem.W.dataLe false id (.str p) (.str q) = decide (p.cps.toList ≤ q.cps.toList) := by
  have h := congrFun (congrFun (PySem.W.dataLe_str (β := Str) (fun p => p)) p) q
  exact h
def sLe (p q : Str) : Bool := decide (p.cps.toList ≤ q.cps.toList)
def sortS (l : List Str) : List Str := l.mergeSort sLe
theorem srtOk_strs {l : List Str} (h : l.length ≤ 1000000) : srtOk (l.map .str) = true := by
  unfold srtOk alk srtb
  simp only [Bool.and_eq_true, List.all_eq_true, decide_eq_true_eq, Bool.or_eq_true, List.length_map]
  refine ⟨⟨⟨fun x hx y hy => ?_, ?_⟩, h⟩, fun x hx => ?_⟩
  · obtain ⟨a, _, rfl⟩ := List.mem_map.mp hx
    obtain ⟨b, _, rfl⟩ := List.mem_map.mp hy
    rfl
  · refine .inr fun x hx => ?_
    obtain ⟨a, _, rfl⟩ := List.mem_map.mp hx
    rfl
  · obtain ⟨a, _, rfl⟩ := List.mem_map.mp hx
    exact Nat.zero_le _
theorem gSort_strs {l : List Str} (h : l.length ≤ 1000000) : gSort [.list (l.map .str)] = some ((sortS l).map .str) := by
  show (if srtOk (l.map .str) then some (srt (l.map .str)) else none) = _
  rw [srtOk_strs h, srt_map dle_str]; rfl
theorem sLe_trans (a b c : Str) : sLe a b = true → sLe b c = true → sLe a c = true := by
  unfold sLe
  simp only [decide_eq_true_eq]
  exact List.le_trans
theorem sLe_total (a b : Str) : (sLe a b || sLe b a) = true := by
  unfold sLe
  simp only [Bool.or_eq_true, decide_eq_true_eq]
  exact List.le_total _ _
theorem sLe_anti (a b : Str) (h1 : sLe a b = true) (h2 : sLe b a = true) : a = b := by
  unfold sLe at h1 h2
  simp only [decide_eq_true_eq] at h1 h2
  have := List.le_antisymm h1 h2
  cases a; cases b
  simp only [Str.mk.injEq]
  exact Array.toList_inj.mp this
theorem sortS_eq {l m : List Str} (h : l.Perm m) : sortS l = sortS m :=
  List.Perm.eq_of_pairwise (le := fun a b => sLe a b = true) (fun a b _ _ h1 h2 => sLe_anti a b h1 h2) (List.pairwise_mergeSort sLe_trans sLe_total l) (List.pairwise_mergeSort sLe_trans sLe_total m) (((List.mergeSort_perm l sLe).trans h).trans (List.mergeSort_perm m sLe).symm)
theorem shaped_strs {ws : List Str} (h : ∀ w ∈ ws, (PyData.str w).canLay0 = true) : SeqAt.shaped (.list (ws.map PyData.str)) = true := shaped_list (fun x hx => by
  obtain ⟨p, hp, rfl⟩ := List.mem_map.mp hx; exact h p hp) fun x hx => by
  obtain ⟨p, _, rfl⟩ := List.mem_map.mp hx; exact Nat.zero_le _
theorem eqv_str (a b : Str) : PyData.eqv (.str a) (.str b) = decide (a = b) := by simp [PyData.eqv, Bool.beq_eq_decide_eq]
theorem eqD_strs {ws vs : List Str} (h : ∀ w ∈ ws, (PyData.str w).canLay0 = true) (h2 : ∀ w ∈ vs, (PyData.str w).canLay0 = true) : eqD (.list (ws.map .str)) (.list (vs.map .str)) = some (decide (ws = vs)) := by
  rw [eqD_list (shaped_strs h) (shaped_strs h2), eqvAll_map eqv_str]
theorem abc_small : ∀ k ∈ ABC.cps.toList, k < 0x110000 := by decide +kernel
theorem okW_can {w : Str} (h : okW w) : (PyData.str w).canLay0 = true := by
  show w.cps.all (· < 0x110000) = true
  rw [Array.all_eq_true']
  intro k hk
  exact decide_eq_true (abc_small k (h.2.2 k (Array.mem_toList_iff.mpr hk)))
theorem full_hand {ws : List Str} (F : Full ws) : hand (.list (ws.map .str)) = true := by
  unfold hand
  simp only [Bool.and_eq_true, List.all_eq_true, decide_eq_true_eq]
  have cs : ∀ x ∈ ws.map PyData.str, shortD x = true ∧ x.canLay0 = true ∧ x.depth ≤ 63 := fun x hx => by
    obtain ⟨w, hw, rfl⟩ := List.mem_map.mp hx
    have o := F.ok w hw
    have ca := okW_can o
    refine ⟨?_, ca, Nat.zero_le _⟩
    show (decide (w.length ≤ 1000000) && (PyData.str w).canLay0) = true
    rw [ca, Bool.and_true]
    exact decide_eq_true (by have := o.2.1; omega)
  refine ⟨⟨⟨fun x hx => (cs x hx).1, fun x hx => (cs x hx).2.1⟩, fun x hx => (cs x hx).2.2⟩, ?_⟩
  rw [List.length_map]
  have := F.len; omega
theorem arr_ok {ws : List Str} (F : Full ws) : f_is_arrangement [.int (ws.length : Int), .list (ws.map .str)] = .ok (.bool true) := by
  rw [is_arrangement_any _ _ (full_hand F)]
  have h1 : (ws.map PyData.str).all isW = true := by
    rw [List.all_eq_true]
    intro x hx
    obtain ⟨w, hw, rfl⟩ := List.mem_map.mp hx
    exact decide_eq_true (F.ok w hw)
  have h2 : (ws.map PyData.str).map asW = ws := by rw [List.map_map]; exact List.map_id' ws
  show Re.ok (PyData.bool (decide ((ws.map PyData.str).length = ws.length) && (ws.map PyData.str).all isW && decide (((ws.map PyData.str).map asW).Nodup))) = _
  rw [h1, h2, List.length_map]
  simp [F.nd]
theorem need_items_ok {n : Nat} (E : D) {ws : List Str} (F : Full ws) (h : ws.length = n) : f_need_items [.tuple [.int (n : Int), E], .list (ws.map .str)] = .ok .none := by
  subst h
  refine runP rfl ?_
  simp [en0, F_need_items, arr_ok F]
/-! where the items went -/
def went (ws vs : List Str) : List Nat := ws.map fun w => vs.idxOf w
theorem ixD_idx (w : Str) : ∀ {vs : List Str}, w ∈ vs → ixD (.str w) (vs.map .str) = some (vs.idxOf w)
  | v :: vs, h => by
    rw [List.map_cons]
    unfold ixD
    rw [eqv_str, List.idxOf_cons]
    by_cases e : v = w
    · subst e; simp
    · have hm : w ∈ vs := (List.mem_cons.mp h).resolve_left (fun z => e z.symm)
      have eb : (v == w) = false := by simpa using e
      rw [decide_eq_false e, if_neg Bool.false_ne_true, ixD_idx w hm, eb]; rfl
  | [], h => by cases h
theorem dict_enum : ∀ (vs : List Str) (k : Nat) (kvs : List (Key × D)), vs.Nodup → ∃ kvs', dictFrom kvs ((vs.zipIdx k).map fun p => PyData.tuple [.str p.1, .int (p.2 : Nat)]) = some kvs' ∧ kvs'.length ≤ kvs.length + vs.length ∧ ∀ w, valD kvs' (.inr w) = if w ∈ vs then some (nD (k + vs.idxOf w)) else valD kvs (.inr w)
  | [], k, kvs, _ => ⟨kvs, rfl, Nat.le_refl _, fun w => by simp⟩
  | v :: vs, k, kvs, h => by
    obtain ⟨hn, hd⟩ := List.nodup_cons.mp h
    obtain ⟨kvs', e, l, q⟩ := dict_enum vs (k + 1) (putD kvs (.inr v) (.int (k : Nat))) hd
    refine ⟨kvs', ?_, ?_, fun w => ?_⟩
    · rw [List.zipIdx_cons, List.map_cons]
      unfold dictFrom
      exact e
    · have := putD_len kvs (.inr v) (.int (k : Nat))
      rw [List.length_cons]; omega
    · rw [q w, valD_put, List.idxOf_cons]
      by_cases hw : w ∈ vs
      · have ne : ¬ v = w := fun z => hn (z ▸ hw)
        have eb : (v == w) = false := by simpa using ne
        rw [if_pos hw, if_pos (List.mem_cons_of_mem _ hw), eb]
        show some (nD (k + 1 + vs.idxOf w)) = some (nD (k + (vs.idxOf w + 1)))
        congr 2; omega
      · rw [if_neg hw]
        by_cases e2 : v = w
        · subst e2
          simp [nD]
        · have : ¬ (Sum.inr w : Key) = Sum.inr v := fun z => e2 (Sum.inr.inj z).symm
          have hm : ¬ w ∈ v :: vs := fun z => (List.mem_cons.mp z).elim (fun z => e2 z.symm) hw
          rw [if_neg this, if_neg hm]
theorem moves_between_ok {ws vs : List Str} (h : ∀ w ∈ ws, w ∈ vs) (nd : vs.Nodup) (hl : ws.length ≤ 1000000) (hl2 : vs.length ≤ 1000000) : f_moves_between [.list (ws.map .str), .list (vs.map .str)] = .ok (.list ((went ws vs).map nD)) := by
  refine Wr.eq.mp (Wr_P rfl ?_)
  obtain ⟨kvs, e, _, q⟩ := dict_enum vs 0 [] nd
  have lc := lcP_map (f := PyData.str) (g := gNm 4) (e := pDg 2 (pV 4)) (δ := [.sh (.list (ws.map .str)), .sh (.list (vs.map .str)), .dk kvs, .no, .no]) (fun w => nD (vs.idxOf w)) ws fun w hw => ⟨_, rfl, by
    have := q w
    rw [if_pos (h w hw)] at this
    simp [this]⟩
  have l1 := lcL_map (f := fun p : Str × Nat => PyData.tuple [.int (p.2 : Nat), .str p.1]) (vs := [3, 4]) (g := gTpN 2 (gsCons (gNm 3) (gsCons (gNm 4) gsNil))) (e := pPr (pV 4) (pV 3)) (δ := [.sh (.list (ws.map .str)), .sh (.list (vs.map .str)), .no, .no, .no]) (fun p : Str × Nat => PyData.tuple [.str p.1, .int (p.2 : Nat)]) vs.zipIdx fun p hp => ⟨_, rfl, by simp, by simp⟩
  simp [en0, F_moves_between, mapIdx_map, hl2, ePr_pu]
  rw [l1]
  simp [e, lc, hl, went]
/-! orders that are accepted -/
theorem sortE_eq {l es : List FT.Ed} (h : l.Perm es) (hs : es.Pairwise fun a b => eLt a b = true) : sortE l = es := by
  refine List.Perm.eq_of_pairwise (le := fun a b => eLe a b = true) (fun a b _ _ h1 h2 => ?_) (sortE_sorted l) (hs.imp fun {a b} h => ?_) ((sortE_perm l).trans h)
  · unfold eLe at h1 h2
    simp at h1 h2
    exact Prod.ext (by omega) (by omega)
  · unfold eLt at h
    unfold eLe
    simp at h ⊢
    omega
theorem is_order_ok (n : Nat) {l es : List FT.Ed} (h : l.Perm es) (G : Good n es) (hl : es.length ≤ 1000) : f_is_order [.tuple [.int (n : Int), .list (es.map eD)], .list (l.map eD)] = .ok (.bool true) := by
  refine runP rfl ?_
  have ll : l.length ≤ 1000 := by rw [h.length_eq]; exact hl
  have lc := lcP_map (f := eD) (g := gNm 4) (e := pCr (noer f_is_edge) (pCons (pV 4) (pCons (pV 2) pNil))) (δ := [.sh (.tuple [.int (n : Int), .list (es.map eD)]), .sh (.list (l.map eD)), .sh (.int (n : Int)), .sh (.list (es.map eD)), .no]) (fun _ => PyData.bool true) l fun p hp => ⟨_, rfl, by
    obtain ⟨h1, h2⟩ := G.1 p (h.mem_iff.mp hp)
    simp [noer_ok (is_edge_ok p n h1 h2)]⟩
  have ga : gAll [.list (l.map fun _ => PyData.bool true)] = some (.bool true) := by
    rw [gAll_map (fun _ => true)]; simp
  have gs := gSort_esD (l := l) (by omega)
  rw [sortE_eq h G.2] at gs
  have ge : gEq (.list (es.map eD)) (.list (es.map eD)) = some (.bool true) := by unfold gEq; rw [eqD_esD]; simp
  simp [en0, F_is_order, show l.length ≤ 1000000 by omega, lc, ga, gs, ge]
theorem need_ok (n : Nat) (h1 : 1 ≤ n) (h2 : n ≤ 40) {es : List FT.Ed} (he : Good n es) (A : FT.Ac es) (hl : es.length ≤ 40) : f_need_forest [.tuple [.int (n : Int), .list (es.map eD)]] = .ok .none := by
  refine runP rfl ?_
  simp [en0, F_need_forest, forest_yes n h1 h2 es he (by omega) A]
theorem need_order_ok (n : Nat) {l es : List FT.Ed} (h : l.Perm es) (G : Good n es) (hl : es.length ≤ 1000) : f_need_order [.tuple [.int (n : Int), .list (es.map eD)], .list (l.map eD)] = .ok .none := by
  refine runP rfl ?_
  simp [en0, F_need_order, is_order_ok n h G hl]
/-! is_edge and is_order of any object -/
def isZ (a b : Int) : D → Bool
  | .int i => decide (a ≤ i) && decide (i ≤ b)
  | _ => false
theorem is_integer_any (x : D) (a b : Int) : f_is_integer [x, .int a, .int b] = .ok (.bool (isZ a b x)) := by
  refine runP rfl ?_
  cases x <;> simp [en0, F_is_integer, isiD, tyN, isZ]
  rename_i i
  by_cases c : a ≤ i <;> simp [c]
theorem isZ_int {a b : Int} {x : D} (h : isZ a b x = true) : ∃ i : Int, x = .int i ∧ a ≤ i ∧ i ≤ b := by
  unfold isZ at h
  split at h
  · simp only [Bool.and_eq_true, decide_eq_true_eq] at h
    exact ⟨_, rfl, h.1, h.2⟩
  · cases h
def isE (n : Nat) : D → Bool
  | .tuple [.int a, .int b] => decide (0 ≤ a) && decide (a < b) && decide (b < (n : Int))
  | _ => false
theorem isE_spec {n : Nat} {d : D} (h : isE n d = true) : ∃ p : FT.Ed, d = eD p ∧ p.1 < p.2 ∧ p.2 < n := by
  unfold isE at h
  split at h
  · rename_i a b
    simp only [Bool.and_eq_true, decide_eq_true_eq] at h
    obtain ⟨⟨h1, h2⟩, h3⟩ := h
    refine ⟨(a.toNat, b.toNat), ?_, by simp only; omega, by simp only; omega⟩
    unfold eD
    rw [show ((a.toNat, b.toNat).1 : Nat) = a.toNat from rfl, Int.toNat_of_nonneg h1, Int.toNat_of_nonneg (by omega)]
  · cases h
theorem isE_eD {n : Nat} {p : FT.Ed} (h1 : p.1 < p.2) (h2 : p.2 < n) : isE n (eD p) = true := by
  unfold eD isE
  simp; omega
theorem is_edge_any {d : D} (n : Nat) (hn : 1 ≤ n) (hd : ∀ xs, d = .tuple xs → xs.length ≤ 1000000) : f_is_edge [d, .int (n : Int)] = .ok (.bool (isE n d)) := by
  refine runP rfl ?_
  cases d with
  | tuple xs =>
    have hl := hd xs rfl
    match xs, hl with
    | [], _ => simp [en0, F_is_edge, isiD, tyN, isE]
    | [x], _ => simp [en0, F_is_edge, isiD, tyN, isE]
    | x :: y :: z :: r, h =>
      have : ¬ ((r.length : Int) + 1 + 1 + 1 = 2) := by omega
      simp [en0, F_is_edge, isiD, tyN, isE, this]
    | [x, y], _ =>
      have e1 := is_integer_any x 0 ((n : Int) - 1)
      have e2 := is_integer_any y 0 ((n : Int) - 1)
      have lc := lcP_map (f := fun x : D => x) (g := gNm 2) (e := pCr (noer f_is_integer) (pCons (pV 2) (pCons (pK (.int 0)) (pCons (pOp gSub (pV 1) (pK (.int 1))) pNil)))) (δ := [.sh (.tuple [x, y]), .sh (.int (n : Int)), .no]) (fun x => PyData.bool (isZ 0 ((n : Int) - 1) x)) [x, y] fun z hz => ⟨_, rfl, by
        have e := is_integer_any z 0 ((n : Int) - 1)
        simp [noer_ok e]⟩
      have ga : gAll [.list ([x, y].map fun x => PyData.bool (isZ 0 ((n : Int) - 1) x))] = some (.bool ([x, y].all (isZ 0 ((n : Int) - 1)))) := gAll_map _ _
      rw [List.map_id'] at lc
      simp only [List.map_cons, List.map_nil] at ga
      by_cases c : [x, y].all (isZ 0 ((n : Int) - 1)) = true
      · have cx : isZ 0 ((n : Int) - 1) x = true := by simp at c; exact c.1
        have cy : isZ 0 ((n : Int) - 1) y = true := by simp at c; exact c.2
        obtain ⟨a, rfl, a1, a2⟩ := isZ_int cx
        obtain ⟨b, rfl, b1, b2⟩ := isZ_int cy
        rw [c] at ga
        have e : isE n (.tuple [.int a, .int b]) = decide (a < b) := by
          unfold isE
          by_cases g : a < b <;> simp [g] <;> omega
        simp [en0, F_is_edge, isiD, tyN, lc, ga, e]
      · have cf : [x, y].all (isZ 0 ((n : Int) - 1)) = false := by simpa using c
        rw [cf] at ga
        have e : isE n (.tuple [x, y]) = false := by
          cases hE : isE n (.tuple [x, y]) with
          | false => rfl
          | true =>
            obtain ⟨p, h, h1, h2⟩ := isE_spec hE
            unfold eD at h
            injection h with h
            injection h with h3 h4
            injection h4 with h4 _
            subst h3 h4
            exfalso
            apply c
            simp [isZ]; omega
        simp [en0, F_is_edge, isiD, tyN, lc, ga, e]
  | _ => simp [en0, F_is_edge, isiD, tyN, isE]
theorem all_edges {n : Nat} : ∀ {xs : List D}, (∀ x ∈ xs, isE n x = true) → ∃ l : List FT.Ed, xs = l.map eD ∧ ∀ p ∈ l, p.1 < p.2 ∧ p.2 < n
  | [], _ => ⟨[], rfl, fun p h => by cases h⟩
  | x :: xs, h => by
    obtain ⟨p, rfl, h1, h2⟩ := isE_spec (h x List.mem_cons_self)
    obtain ⟨l, rfl, hl⟩ := all_edges fun y hy => h y (List.mem_cons_of_mem _ hy)
    exact ⟨p :: l, rfl, fun q hq => by
      rcases List.mem_cons.mp hq with rfl | hq
      · exact ⟨h1, h2⟩
      · exact hl q hq⟩
theorem eD_inj {p q : FT.Ed} (h : eD p = eD q) : p = q := by
  unfold eD at h
  injection h with h
  injection h with h1 h2
  injection h2 with h2 _
  injection h1 with h1
  injection h2 with h2
  exact Prod.ext (by omega) (by omega)
theorem map_eD_inj : ∀ {l m : List FT.Ed}, l.map eD = m.map eD → l = m
  | [], [], _ => rfl
  | [], _ :: _, h => by cases h
  | _ :: _, [], h => by cases h
  | p :: l, q :: m, h => by
    rw [List.map_cons, List.map_cons] at h
    injection h with h1 h2
    rw [eD_inj h1, map_eD_inj h2]
/-- an order of these edges -/
def IsO (es : List FT.Ed) (d : D) : Prop := ∃ l : List FT.Ed, d = .list (l.map eD) ∧ l.Perm es
open Classical in
noncomputable def vO (es : List FT.Ed) (d : D) : Bool := decide (IsO es d)
theorem vO_yes {es : List FT.Ed} {d : D} (h : IsO es d) : vO es d = true := by unfold vO; simp [h]
theorem vO_no {es : List FT.Ed} {d : D} (h : ¬ IsO es d) : vO es d = false := by unfold vO; simp [h]
theorem vO_edges {n : Nat} {es : List FT.Ed} (G : Good n es) (l : List FT.Ed) : vO es (.list (l.map eD)) = decide (sortE l = es) := by
  by_cases c : sortE l = es
  · rw [decide_eq_true c]
    exact vO_yes ⟨l, rfl, by rw [← c]; exact (sortE_perm l).symm⟩
  · rw [decide_eq_false c]
    refine vO_no fun ⟨m, e, P⟩ => c ?_
    injection e with e
    rw [map_eD_inj e]
    exact sortE_eq P G.2
theorem is_order_any {n : Nat} (hn : 1 ≤ n) {es : List FT.Ed} (G : Good n es) {k w : Nat} {d : D} (h : Td k w d) (hw : w ≤ 190000) : f_is_order [.tuple [.int (n : Int), .list (es.map eD)], d] = .ok (.bool (vO es d)) := by
  have other : (∀ xs, d ≠ .list xs) → vO es d = false := fun hx => vO_no fun ⟨l, e, _⟩ => hx _ e
  cases d with
  | list xs =>
    obtain ⟨hx, hl⟩ := h.list
    have ed : ∀ x ∈ xs, f_is_edge [x, .int (n : Int)] = .ok (.bool (isE n x)) := fun x hm => is_edge_any n hn fun ys e => by
      have := hx x hm
      rw [e] at this
      have := this.tuple.2; omega
    have lc := lcP_map (f := fun x : D => x) (g := gNm 4) (e := pCr (noer f_is_edge) (pCons (pV 4) (pCons (pV 2) pNil))) (δ := [.sh (.tuple [.int (n : Int), .list (es.map eD)]), .sh (.list xs), .sh (.int (n : Int)), .sh (.list (es.map eD)), .no]) (fun x => PyData.bool (isE n x)) xs fun x hm => ⟨_, rfl, by simp [noer_ok (ed x hm)]⟩
    rw [List.map_id'] at lc
    have ga : gAll [.list (xs.map fun x => PyData.bool (isE n x))] = some (.bool (xs.all (isE n))) := gAll_map _ _
    have xl : xs.length ≤ 1000000 := by omega
    refine runP rfl ?_
    by_cases c : ∀ x ∈ xs, isE n x = true
    · obtain ⟨l, rfl, _⟩ := all_edges c
      have ca : (l.map eD).all (isE n) = true := by rw [List.all_eq_true]; exact c
      rw [ca, List.map_map] at ga
      have gs := gSort_esD (l := l) (by simpa using xl)
      have ge : gEq (.list ((sortE l).map eD)) (.list (es.map eD)) = some (.bool (decide (sortE l = es))) := by unfold gEq; rw [eqD_esD]; rfl
      rw [vO_edges G]
      simp at xl
      simp [en0, F_is_order, xl, lc, ga, gs, ge]
    · have ca : xs.all (isE n) = false := by
        cases q : xs.all (isE n) with
        | false => rfl
        | true => rw [List.all_eq_true] at q; exact absurd q c
      rw [ca] at ga
      have : vO es (.list xs) = false := vO_no fun ⟨l, e, P⟩ => c fun x hm => by
        injection e with e
        subst e
        obtain ⟨p, hp, rfl⟩ := List.mem_map.mp hm
        have := G.1 p (P.mem_iff.mp hp)
        exact isE_eD this.1 this.2
      simp [en0, F_is_order, xl, lc, ga, this]
  | _ =>
    refine runP rfl ?_
    rw [other fun xs e => by cases e]
    simp [en0, F_is_order, isiD, tyN]
/-! the law's own test -/
def isP : D → Bool
  | .tuple [.int _, .int _] => true
  | _ => false
def isInt : D → Bool
  | .int _ => true
  | _ => false
theorem isP_spec {d : D} (h : isP d = true) : ∃ a b : Int, d = .tuple [.int a, .int b] := by
  unfold isP at h
  split at h
  · exact ⟨_, _, rfl⟩
  · cases h
theorem eqv_pair {d : D} (h : isP d = true) (p : FT.Ed) : PyData.eqv d (eD p) = true ↔ d = eD p := by
  obtain ⟨a, b, rfl⟩ := isP_spec h
  unfold eD
  simp [PyData.eqv, PyData.eqvAll]
theorem eqvAll_pairs : ∀ (S : List D) (es : List FT.Ed), (∀ x ∈ S, isP x = true) → (PyData.eqvAll S (es.map eD) = true ↔ S = es.map eD)
  | [], [], _ => by simp [PyData.eqvAll]
  | [], _ :: _, _ => by simp [PyData.eqvAll]
  | _ :: _, [], _ => by simp [PyData.eqvAll]
  | x :: S, p :: es, h => by
    have e := eqv_pair (h x List.mem_cons_self) p
    have ih := eqvAll_pairs S es fun y hy => h y (List.mem_cons_of_mem _ hy)
    rw [List.map_cons]
    simp only [PyData.eqvAll, Bool.and_eq_true, e, ih, List.cons.injEq]
theorem srt_pairs {xs : List D} (h : ∀ x ∈ xs, isP x = true) (hl : xs.length ≤ 1000000) : gSort [.list xs] = some (srt xs) := by
  have ok : srtOk xs = true := by
    unfold srtOk alk srtb
    simp only [Bool.and_eq_true, List.all_eq_true, decide_eq_true_eq, Bool.or_eq_true]
    refine ⟨⟨⟨fun x hx y hy => ?_, .inl fun x hx => ?_⟩, hl⟩, fun x hx => ?_⟩
    · obtain ⟨a, b, rfl⟩ := isP_spec (h x hx)
      obtain ⟨c, d, rfl⟩ := isP_spec (h y hy)
      rfl
    · obtain ⟨a, b, rfl⟩ := isP_spec (h x hx)
      rfl
    · obtain ⟨a, b, rfl⟩ := isP_spec (h x hx)
      show PyData.depth (.tuple [.int a, .int b]) ≤ 64
      have : PyData.depth (.tuple [.int a, .int b]) = 1 := rfl
      omega
  show (if srtOk xs then some (srt xs) else none) = _
  rw [ok]; rfl
theorem srt_perm (xs : List D) : (srt xs).Perm xs := List.mergeSort_perm _ _
theorem isO_perm {n : Nat} {es : List FT.Ed} (G : Good n es) {xs : List D} (h : xs.Perm (es.map eD)) : IsO es (.list xs) := by
  obtain ⟨l, rfl, _⟩ := all_edges (n := n) (xs := xs) fun x hx => by
    obtain ⟨p, hp, rfl⟩ := List.mem_map.mp (h.mem_iff.mp hx)
    exact isE_eD (G.1 p hp).1 (G.1 p hp).2
  refine ⟨l, rfl, ?_⟩
  have dec : ∀ m : List FT.Ed, (m.map eD).map (fun d => match d with | .tuple [.int a, .int b] => (a.toNat, b.toNat) | _ => ((0, 0) : FT.Ed)) = m := fun m => by
    rw [List.map_map]
    refine (List.map_congr_left fun p _ => ?_).trans (List.map_id m)
    rfl
  have := h.map (fun d => match d with | .tuple [.int a, .int b] => (a.toNat, b.toNat) | _ => ((0, 0) : FT.Ed))
  rwa [dec, dec] at this
theorem gNe_nil {F : List D} (h : SeqAt.shaped (.list F) = true) : gNe (.list F) (.list []) = some (.bool (!F.isEmpty)) := by
  unfold gNe
  rw [eqD_list h rfl]
  cases F <;> rfl
theorem law_is_order_any {n : Nat} {es : List FT.Ed} (G : Good n es) (hl : es.length ≤ 1000) {k w : Nat} {d : D} (h : Td k w d) (hk : k ≤ 58) (hw : w ≤ 190000) : f__law_is_order [.list (es.map eD), d] = .ok (.bool (vO es d)) := by
  have other : (∀ xs, d ≠ .list xs) → vO es d = false := fun hx => vO_no fun ⟨l, e, _⟩ => hx _ e
  cases d with
  | list xs =>
    obtain ⟨hx, hl2⟩ := h.list
    have xl : xs.length ≤ 1000000 := by omega
    refine Wr.eq.mp (Wr_P rfl ?_)
    by_cases len : xs.length = es.length
    · have len' : (xs.length : Int) = (es.length : Int) := by omega
      simp [en0, F__law_is_order, len', xl]
      simp only [Wr_bd]
      rw [show forL (gNm 2) = forL (gNm 2) from rfl, ← List.map_id' (l := xs)]
      refine Wr_for0 (l := xs) (f := fun x : D => x) (fun i δ => ∃ a, δ = [.sh (.list (es.map eD)), .sh (.list xs), a, .no] ∧ ∀ x ∈ xs.take i, isP x = true) ⟨.no, by rw [List.map_id'], by simp⟩ ?_ ?_
      · rintro i x δ hi ⟨a, rfl, hp⟩
        have hm := List.mem_of_getElem? hi
        have bad : isP x = false → vO es (.list xs) = false := fun hb => vO_no fun ⟨l, e, P⟩ => by
          injection e with e
          subst e
          obtain ⟨p, hp, rfl⟩ := List.mem_map.mp hm
          cases hb
        have good : isP x = true → ∀ y ∈ xs.take (i + 1), isP y = true := fun hg y hy => by
          rw [List.take_succ, hi] at hy
          rcases List.mem_append.mp hy with hy | hy
          · exact hp y hy
          · simp at hy; subst hy; exact hg
        cases hxx : x with
        | tuple ys =>
          subst hxx
          have ty := (hx _ hm).tuple
          match ys, ty, bad, good with
          | [], _, bad, _ => simp [bad (by simp [isP])]
          | [y], _, bad, _ => simp [bad (by simp [isP])]
          | y :: z :: u :: r, _, bad, _ =>
            have : ¬ ((r.length : Int) + 1 + 1 + 1 = 2) := by omega
            simp [this, bad (by simp [isP])]
          | [y, z], ty, bad, good =>
            have lc := lcP_all (f := fun x : D => x) (g := gNm 3) (t := pOr (pNot (pTe (pIsi "int" (pV 3)))) (pTe (pIsi "bool" (pV 3)))) (e := pV 3) (δ := [.sh (.list (es.map eD)), .sh (.list xs), .sh (.tuple [y, z]), .no]) (p := fun y => !isInt y) (h := fun x : D => x) [y, z] fun u hu => ⟨_, rfl, by cases u <;> simp [isiD, tyN, isInt], fun _ => by simp⟩
            rw [List.map_id', List.map_id'] at lc
            have ty2 : ∀ u ∈ [y, z], Td k w u := ty.1
            have tF : SeqAt.shaped (.list ([y, z].filter fun y => !isInt y)) = true := (tdl fun u hu => ty2 u (List.mem_filter.mp hu).1).shaped (by omega)
            have ne := gNe_nil tF
            have em : ([y, z].filter fun y => !isInt y).isEmpty = isP (.tuple [y, z]) := by
              cases y <;> cases z <;> simp [isInt, isP]
            rw [em] at ne
            generalize ([y, z].filter fun y => !isInt y) = F at *
            by_cases c : isP (.tuple [y, z]) = true
            · rw [c] at ne
              simp [lc, ne]
              exact good c
            · have cf : isP (.tuple [y, z]) = false := by simpa using c
              rw [cf] at ne
              simp [lc, ne, bad cf]
        | _ => subst hxx; simp [isiD, tyN, bad (by simp [isP])]
      · rintro δ ⟨a, rfl, hp⟩
        rw [List.take_length] at hp
        have gs := srt_pairs hp xl
        have sp := srt_perm xs
        have tS : SeqAt.shaped (.list (srt xs)) = true := (tdl fun u hu => hx u (sp.mem_iff.mp hu)).shaped (by omega)
        have ge : gEq (.list (srt xs)) (.list (es.map eD)) = some (.bool (vO es (.list xs))) := by
          unfold gEq
          rw [eqD_list tS (shaped_esD es)]
          have hS : ∀ x ∈ srt xs, isP x = true := fun x hx => hp x (sp.mem_iff.mp hx)
          have iff := eqvAll_pairs (srt xs) es hS
          by_cases c : srt xs = es.map eD
          · rw [iff.mpr c, vO_yes (isO_perm G (by rw [← c]; exact sp.symm))]; rfl
          · have : PyData.eqvAll (srt xs) (es.map eD) = false := by
              cases q : PyData.eqvAll (srt xs) (es.map eD) with
              | false => rfl
              | true => exact absurd (iff.mp q) c
            rw [this, vO_no fun ⟨l, e, P⟩ => c (by
              injection e with e
              subst e
              have g := gSort_esD (l := l) (by simpa using xl)
              rw [gs] at g
              injection g with g
              rw [g, sortE_eq P G.2])]; rfl
        simp [gs, ge]
    · have len' : ¬ ((xs.length : Int) = (es.length : Int)) := by omega
      have : vO es (.list xs) = false := vO_no fun ⟨l, e, P⟩ => len (by
        injection e with e
        subst e
        simpa using P.length_eq)
      simp [en0, F__law_is_order, len', xl, this]
  | _ =>
    refine runP rfl ?_
    rw [other fun xs e => by cases e]
    simp [en0, F__law_is_order, isiD, tyN]
/-! small numbers, edges, rows of numbers, as data whose text is short -/
theorem td_num {x : Nat} (h : x < 40) (k : Nat) : Td k 6 (nD x) := td_nat k (b := 6) (show x < 64 by omega) (by decide)
theorem td_edges {n : Nat} (hn : n ≤ 40) {es : List FT.Ed} (he : ∀ p ∈ es, p.1 < p.2 ∧ p.2 < n) (hl : es.length ≤ 40) : Td 2 600 (.list (es.map eD)) := by
  have a : ∀ x ∈ es.map eD, Td 1 14 x := fun x hx => by
    obtain ⟨p, hp, rfl⟩ := List.mem_map.mp hx
    obtain ⟨h1, h2⟩ := he p hp
    exact (td_tuple (k := 0) (w := 6) (n := 2) (fun y hy => by
      simp only [List.mem_cons, List.not_mem_nil, or_false] at hy
      rcases hy with rfl | rfl
      · exact td_num (x := p.1) (by omega) 0
      · exact td_num (x := p.2) (by omega) 0) (Nat.le_refl _)).mono (Nat.le_refl _) (Nat.le_refl _)
  exact (tdl a).mono (Nat.le_refl _) (Nat.le_trans (wA_mul a (n := 40) (by rw [List.length_map]; exact hl)) (by decide))
theorem td_graph {n : Nat} (hn : n ≤ 40) {es : List FT.Ed} (he : ∀ p ∈ es, p.1 < p.2 ∧ p.2 < n) (hl : es.length ≤ 40) : Td 5 1000 (.tuple [.int (n : Int), .list (es.map eD)]) := by
  have b := td_edges hn he hl
  have c : Td 0 6 (.int (n : Int)) := td_nat 0 (b := 6) (show n < 64 by omega) (by decide)
  refine ((tdt (k := 4) (w := 600) ?_).mono (Nat.le_refl _) ?_)
  · simp only [List.forall_mem_cons]
    exact ⟨c.mono (by decide) (by decide), b.mono (by decide) (Nat.le_refl _), fun x hx => nomatch hx⟩
  · have := b.wgt
    have := c.wgt
    simp only [PyData.weightAll]; omega
/-! swapped -/
theorem swapped_ok {n : Nat} (xs : List D) (l : List FT.Ed) (he : ∀ p ∈ l, p.1 < p.2 ∧ p.2 < n) (hn : xs.length = n) (hl : n ≤ 1000000) : f_swapped [.list xs, .list (l.map eD)] = .ok (.list (after xs l)) := by
  refine Wr.eq.mp (Wr_P rfl ?_)
  simp [en0, F_swapped, show xs.length ≤ 1000000 by omega]
  simp only [Wr_bd]
  refine Wr_for0 (fun i δ => ∃ a b, δ = [.sh (.list xs), .sh (.list (l.map eD)), .ow (after xs (l.take i)), a, b]) ⟨_, _, rfl⟩ ?_ ?_
  · rintro i p δ hi ⟨a, b, rfl⟩
    obtain ⟨h1, h2⟩ := he p (List.mem_of_getElem? hi)
    have et : l.take (i + 1) = l.take i ++ [p] := by rw [List.take_succ, hi]; rfl
    have st : after xs (l.take (i + 1)) = swp (after xs (l.take i)) p := by rw [et, after_snoc]
    obtain ⟨c, hc⟩ : ∃ c, c = after xs (l.take i) := ⟨_, rfl⟩
    have lc : c.length = n := by rw [hc, after_len, hn]
    rw [st, ← hc]
    have g1 : c[p.1]? = some (c[p.1]'(by omega)) := List.getElem?_eq_getElem (by omega)
    have g2 : c[p.2]? = some (c[p.2]'(by omega)) := List.getElem?_eq_getElem (by omega)
    rw [swp_eq (by omega) (by omega)]
    generalize c[p.1]'(by omega) = v1 at g1
    generalize c[p.2]'(by omega) = v2 at g2
    have k1 : ixN c.length (p.1 : Int) = some p.1 := ixN_nat (by omega)
    have k2 : ixN c.length (p.2 : Int) = some p.2 := ixN_nat (by omega)
    simp [eD, g1, g2, k1, k2]
  · rintro δ ⟨a, b, rfl⟩
    simp
theorem swapped_str {n : Nat} (ws : List Str) (l : List FT.Ed) (he : ∀ p ∈ l, p.1 < p.2 ∧ p.2 < n) (hn : ws.length = n) (hl : n ≤ 1000000) : f_swapped [.list (ws.map .str), .list (l.map eD)] = .ok (.list ((after ws l).map .str)) := by rw [← after_map]; exact swapped_ok _ l he (by simpa using hn) hl
/-! _law_applied -/
theorem law_applied_ok {n : Nat} (xs : List D) (l : List FT.Ed) (he : ∀ p ∈ l, p.1 < p.2 ∧ p.2 < n) (hn : xs.length = n) (hl : n ≤ 1000000) : f__law_applied [.list xs, .list (l.map eD)] = .ok (after xs l) := by
  refine Wr.eq.mp (Wr_PF rfl ?_)
  simp [en0, F__law_applied, show xs.length ≤ 1000000 by omega]
  simp only [Wr_bd]
  refine Wr_for0 (fun i δ => ∃ a b, δ = [.sh (.list xs), .sh (.list (l.map eD)), .ow (after xs (l.take i)), a, b]) ⟨_, _, rfl⟩ ?_ ?_
  · rintro i p δ hi ⟨a, b, rfl⟩
    obtain ⟨h1, h2⟩ := he p (List.mem_of_getElem? hi)
    have et : l.take (i + 1) = l.take i ++ [p] := by rw [List.take_succ, hi]; rfl
    have st : after xs (l.take (i + 1)) = swp (after xs (l.take i)) p := by rw [et, after_snoc]
    obtain ⟨c, hc⟩ : ∃ c, c = after xs (l.take i) := ⟨_, rfl⟩
    have lc : c.length = n := by rw [hc, after_len, hn]
    rw [st, ← hc]
    have g1 : c[p.1]? = some (c[p.1]'(by omega)) := List.getElem?_eq_getElem (by omega)
    have g2 : c[p.2]? = some (c[p.2]'(by omega)) := List.getElem?_eq_getElem (by omega)
    rw [swp_eq (by omega) (by omega)]
    generalize c[p.1]'(by omega) = v1 at g1
    generalize c[p.2]'(by omega) = v2 at g2
    have k1 : ixN c.length (p.1 : Int) = some p.1 := ixN_nat (by omega)
    have k2 : ixN c.length (p.2 : Int) = some p.2 := ixN_nat (by omega)
    simp [eD, g1, g2, k1, k2]
  · rintro δ ⟨a, b, rfl⟩
    simp
theorem law_applied_str {n : Nat} (ws : List Str) (l : List FT.Ed) (he : ∀ p ∈ l, p.1 < p.2 ∧ p.2 < n) (hn : ws.length = n) (hl : n ≤ 1000000) : f__law_applied [.list (ws.map .str), .list (l.map eD)] = .ok ((after ws l).map .str) := by rw [← after_map]; exact law_applied_ok _ l he (by simpa using hn) hl
theorem need_both_ok (n : Nat) (h1 : 1 ≤ n) (h2 : n ≤ 40) {es : List FT.Ed} (he : Good n es) (A : FT.Ac es) (hl : es.length ≤ 40) {ws vs : List Str} (F : Full ws) (hn : ws.length = n) (P : vs.Perm ws) : f_need_both [.tuple [.int (n : Int), .list (es.map eD)], .list (ws.map .str), .list (vs.map .str)] = .ok .none := by
  refine runP rfl ?_
  have Fv := F.perm P
  have wl := F.len
  have vl := Fv.len
  have g1 := gSort_strs (l := ws) (by omega)
  have g2 := gSort_strs (l := vs) (by omega)
  rw [sortS_eq P] at g2
  have pm : (sortS ws).Perm ws := List.mergeSort_perm ws sLe
  have ca : ∀ w ∈ sortS ws, (PyData.str w).canLay0 = true := fun w hw => okW_can (F.ok w (pm.mem_iff.mp hw))
  have ge : gNe (.list ((sortS ws).map .str)) (.list ((sortS ws).map .str)) = some (.bool false) := by
    unfold gNe; rw [eqD_strs ca ca]; simp
  simp [en0, F_need_both, need_ok n h1 h2 he A hl, need_items_ok _ F hn, need_items_ok _ Fv (P.length_eq.trans hn), g1, g2, ge]
theorem gIn_eD2 (x : Nat) (e : FT.Ed) : gIn (.int (x : Int)) (eD e) = some (.bool (decide (x = e.1 ∨ x = e.2))) := by
  unfold gIn
  have : inD (.int (x : Int)) (eD e) = some (decide (x = e.1 ∨ x = e.2)) := by
    unfold inD eD
    simp only
    have s1 : SeqAt.shaped (.int (x : Int)) = true := rfl
    have s2 : SeqAt.shaped (.tuple [.int (e.1 : Int), .int (e.2 : Int)]) = true := rfl
    rw [s1, s2]
    simp [PyData.eqv]
    rw [Bool.eq_iff_iff]
    simp
    omega
  rw [this]; rfl
theorem td_word {w : Str} (h : okW w) : Td 0 8 (.str w) := td_str 0 h.2.1 fun k hk => by
  have : ∀ k ∈ ABC.cps.toList, k < 1114112 := by decide +kernel
  exact this k (h.2.2 k hk)
theorem td_words {ws : List Str} (F : Full ws) : Td 1 400 (.list (ws.map .str)) := by
  have tw : ∀ x ∈ ws.map PyData.str, Td 0 8 x := fun x hx => by
    obtain ⟨w, hw, rfl⟩ := List.mem_map.mp hx
    have o := F.ok w hw
    exact td_str 0 o.2.1 fun k hk => abc_small k (o.2.2 k hk)
  exact (tdl tw).mono (by decide) (Nat.le_trans (wA_mul tw (n := 40) (by rw [List.length_map]; exact F.len)) (by decide))
theorem can_words {ws : List Str} (F : Full ws) : ∀ w ∈ ws, (PyData.str w).canLay0 = true := fun w hw => okW_can (F.ok w hw)
theorem cut_sub (xs : List D) (a b : Option Int) : ∃ ys, gSl (.list xs) a b = some (.list ys) ∧ ys.Sublist xs := ⟨cutD xs a b, rfl, by
  unfold cutD
  first
    | exact (List.drop_sublist _ _).trans (List.take_sublist _ _)
    | exact (List.take_sublist _ _).trans (List.drop_sublist _ _)⟩
theorem gAdd_at {A B : List D} (h : A.length + B.length ≤ 1000000) : gAdd (.list A) (.list B) = some (.list (A ++ B)) := gAdd_list h
theorem t1' {x : D} (hx : Td 1 200 x) : Td 3 700 (.tuple [x]) := (td_tuple (n := 1) (fun y hy => by
  simp only [List.mem_cons, List.not_mem_nil, or_false] at hy
  subst hy; exact hx) (by simp)).mono (by omega) (by omega)
theorem t2' {x y : D} (hx : Td 1 200 x) (hy : Td 1 200 y) : Td 3 700 (.tuple [x, y]) := (td_tuple (n := 2) (fun z hz => by
  simp only [List.mem_cons, List.not_mem_nil, or_false] at hz
  rcases hz with rfl | rfl
  · exact hx
  · exact hy) (by simp)).mono (by omega) (by omega)
theorem t3' {x y z : D} (hx : Td 1 200 x) (hy : Td 1 200 y) (hz : Td 1 200 z) : Td 3 700 (.tuple [x, y, z]) := (td_tuple (n := 3) (fun u hu => by
  simp only [List.mem_cons, List.not_mem_nil, or_false] at hu
  rcases hu with rfl | rfl | rfl
  · exact hx
  · exact hy
  · exact hz) (by simp)).mono (by omega) (by omega)
theorem l2' {x y : D} (hx : Td 1 200 x) (hy : Td 1 200 y) : Td 3 700 (.list [x, y]) := (td_list (n := 2) (fun z hz => by
  simp only [List.mem_cons, List.not_mem_nil, or_false] at hz
  rcases hz with rfl | rfl
  · exact hx
  · exact hy) (by simp)).mono (by omega) (by omega)
theorem str40b : ((List.range 40).all fun a => match gStr [.int (a : Nat)] with | some d => tdb 0 8 d | none => false) = true := by decide +kernel
theorem str40 {a : Nat} (h : a < 40) : ∃ d, gStr [.int (a : Int)] = some d ∧ Td 0 8 d := by
  have := List.all_eq_true.mp str40b a (List.mem_range.mpr h)
  cases q : gStr [.int (a : Int)] with
  | none => rw [q] at this; cases this
  | some d => rw [q] at this; exact ⟨d, rfl, td0 this⟩
theorem spoilt_ok {B : Nat} {s : List D} (hs : Src B s) (hB : B ≤ 2 ^ 57) (n : Nat) (h1 : 1 ≤ n) (h2 : n ≤ 40) {l : List FT.Ed} (hl : ∀ p ∈ l, p.1 < p.2 ∧ p.2 < n) (ll : l.length ≤ 40) : ∃ (d : D) (s' : List D), f__law_spoilt s [.list (l.map eD), .int (n : Int)] = .ok (d, s') ∧ Td 6 90000 d ∧ Src (B + 10) s' := by
  suffices w : Wr (f__law_spoilt s [.list (l.map eD), .int (n : Int)]) fun q => Td 6 90000 q.1 ∧ Src (B + 10) q.2 by
    obtain ⟨⟨d, s'⟩, e, h⟩ := w
    exact ⟨d, s', e, h⟩
  refine Wr_M rfl ?_
  have hp1 : (2 : Nat) ^ 57 = 144115188075855872 := by decide
  have hp2 : (2 : Nat) ^ 60 = 1152921504606846976 := by decide
  obtain ⟨k, s1, e1, hk, S1⟩ := pick_ok hs (by omega) (n := max 1 l.length) (by omega) (by omega)
  have mx : (if (1 : Int) < (l.length : Int) then (l.length : Int) else 1) = ((max 1 l.length : Nat) : Int) := by split <;> omega
  obtain ⟨O, hO⟩ : ∃ O, O = l.map eD := ⟨_, rfl⟩
  have Ol : O.length = l.length := by rw [hO]; simp
  rw [← mx, ← Ol] at e1
  obtain ⟨u, s2, e2, hu, S2⟩ := pick_ok S1 (by omega) (n := n) (by omega) (by omega)
  obtain ⟨v, s3, e3, hv, S3⟩ := pick_ok S2 (by omega) (n := n) (by omega) (by omega)
  obtain ⟨r, s4, e4, hr, S4⟩ := pick_ok S3 (by omega) (n := 19) (by omega) (by omega)
  obtain ⟨t, s5, e5, ht, S5⟩ := pick_ok S4 (by omega) (n := 16) (by omega) (by omega)
  push_cast at e4 e5
  have Ot : ∀ x ∈ O, Td 2 500 x := fun x hx => by
    rw [hO] at hx
    obtain ⟨p, hp, rfl⟩ := List.mem_map.mp hx
    have := hl p hp
    have := td_tuple (k := 0) (w := 6) (n := 2) (xs := [.int (p.1 : Int), .int (p.2 : Int)]) (fun x hx => by
      simp only [List.mem_cons, List.not_mem_nil, or_false] at hx
      rcases hx with rfl | rfl
      · exact td_nat 0 (b := 6) (by omega) (by decide)
      · exact td_nat 0 (b := 6) (by omega) (by decide)) (by simp)
    exact this.mono (by omega) (by omega)
  obtain ⟨a, b, ha, hb, ag⟩ : ∃ a b : Nat, a < 40 ∧ b < 40 ∧ ∀ x4 x5 x6 x7 x8 x9 : Sl, agS (gTpN 2 (gsCons (gNm 4) (gsCons (gNm 5) gsNil))) (Pu (pIf (pTe (pOp gNe (pV 1) (pFz (pLst (pNil))))) (pOp gIx (pV 1) (pV 3)) (pTup (pCons (pK (.int 0)) (pCons (pK (.int 1)) (pNil)))))) [.ow s1, .sh (.list O), .sh (.int (n : Int)), .sh (.int (k : Int)), x4, x5, x6, x7, x8, x9] = .ok (.nx [.ow s1, .sh (.list O), .sh (.int (n : Int)), .sh (.int (k : Int)), .sh (.int (a : Int)), .sh (.int (b : Int)), x6, x7, x8, x9]) := by
    have ge : gNe (.list O) (.list []) = some (.bool (!decide (l = []))) := by
      have := eqD_esD l []
      rw [List.map_nil] at this
      unfold gNe
      rw [hO, this]; rfl
    by_cases c : l = []
    · rw [decide_eq_true c] at ge
      exact ⟨0, 1, by omega, by omega, fun _ _ _ _ _ _ => by simp [ge]⟩
    · rw [decide_eq_false c] at ge
      have kl : k < l.length := by
        have := List.length_pos_iff.mpr c
        omega
      have g := hl _ (List.getElem_mem kl)
      refine ⟨l[k].1, l[k].2, by omega, by omega, fun _ _ _ _ _ _ => ?_⟩
      have ix : O[k]? = some (.tuple [.int (l[k].1 : Int), .int (l[k].2 : Int)]) := by
        rw [hO, List.getElem?_map, List.getElem?_eq_getElem kl]; rfl
      simp [ge, ix]
  have Ov : ∀ {A : List D}, A.Sublist O → ∀ x ∈ A, Td 2 500 x := fun h x hx => Ot x (h.mem hx)
  have Oll : ∀ {A : List D}, A.Sublist O → A.length ≤ 40 := fun h => by have := h.length_le; omega
  obtain ⟨C1, hC1⟩ : ∃ C1, O.take k = C1 := ⟨_, rfl⟩
  have s1' : C1.Sublist O := by rw [← hC1]; exact List.take_sublist _ _
  obtain ⟨C4, hC4⟩ : ∃ C4, O.drop k = C4 := ⟨_, rfl⟩
  have s4' : C4.Sublist O := by rw [← hC4]; exact List.drop_sublist _ _
  obtain ⟨C2, g2, s2'⟩ := cut_sub O (some ((k : Int) + 1)) none
  obtain ⟨C3, g3, s3'⟩ := cut_sub O (some (k : Int)) (some ((k : Int) + 1))
  obtain ⟨C6, g6, s6'⟩ := cut_sub O (some ((k : Int) - 1)) none
  obtain ⟨C5, g5, s5'⟩ := cut_sub C6 none (some 1)
  have s5'' : C5.Sublist O := s5'.trans s6'
  obtain ⟨Z, M, gZ, hZ, hM, ism⟩ : ∃ (Z : Int) (M : Nat), gPow (.int 10) (.int 59) = some (.int Z) ∧ Z.natAbs + 1000 ≤ M ∧ 1000 ≤ M ∧ ∀ (k : Nat) (z : Int), z.natAbs ≤ M → Td k 200 (.int z) :=
    ⟨10 ^ 59, 10 ^ 59 + 1000, rfl, by decide +kernel, by decide +kernel, fun k z h => td_int k (Nat.lt_of_le_of_lt h (by decide +kernel))⟩
  obtain ⟨sa, gs, tsa⟩ := str40 ha
  have gRep3 : ∀ x : D, gRep [x] (.int 3) = some [x, x, x] := fun x => rfl
  have gn : gNeg (.int 1) = some (.int (-1)) := rfl
  rw [← hO]
  simp [-agS_ap, en1, F__law_spoilt, e1, ag, e2, e3, e4, gn, gZ, gs, gAdd_list, gRep3]
  simp only [Wr_bd]
  have ia := ism 1 (a : Int) (by omega)
  have ib := ism 1 (b : Int) (by omega)
  have im := ism 1 (if v < u then (v : Int) else u) (by split <;> omega)
  have iM := ism 1 (if u < v then (v : Int) else u) (by split <;> omega)
  refine Wr_ix' (P := Td 3 700) (by simp; omega) ?_ fun x tx => ?_
  · simp only [List.forall_mem_cons]
    refine ⟨t2' ib ia, l2' ia ib, t3' ia ib ib, t1' ia, td_none _ _, ia.mono (by omega) (by omega), t2' ia (ism 1 n (by omega)), t2' (ism 1 (-1) (by omega)) ib, t2' ia (ism 1 ((b : Int) + Z) (by omega)), td0 (by decide +kernel), t2' (td_bool _ _ _) ib, td0 (by decide +kernel), t2' (tsa.mono (by omega) (by omega)) ib, t2' ia (td_none _ _), ?_, td0 (by decide +kernel), t2' im iM, t2' im iM, t2' im iM, fun x hx => nomatch hx⟩
    have := td_tuple (k := 0) (w := 200) (n := 2) (xs := [.int (a : Int), .int (b : Int)]) (fun x hx => by
      simp only [List.mem_cons, List.not_mem_nil, or_false] at hx
      rcases hx with rfl | rfl
      · exact ism 0 a (by omega)
      · exact ism 0 b (by omega)) (by simp)
    exact (td_tuple (n := 1) (fun y hy => by
      simp only [List.mem_cons, List.not_mem_nil, or_false] at hy
      subst hy; exact this) (by simp)).mono (by omega) (by omega)
  · have up : ∀ {A : List D}, A.Sublist O → ∀ y ∈ A, Td 3 700 y := fun h y hy => (Ov h y hy).mono (by omega) (by omega)
    have tx1 : ∀ y ∈ [x], Td 3 700 y := fun y hy => by
      simp only [List.mem_cons, List.not_mem_nil, or_false] at hy
      subst hy; exact tx
    obtain ⟨D1, a1, d1, l1⟩ := add_all (up s1') (up s2') (Oll s1') (Oll s2')
    obtain ⟨D2, a2, d2, l2⟩ := add_all (up (List.Sublist.refl O)) (up s3') (Oll (List.Sublist.refl O)) (Oll s3')
    obtain ⟨D3, a3, d3, l3⟩ := add_all (m := 1) (up s1') tx1 (Oll s1') (by simp)
    obtain ⟨D4, a4, d4, l4⟩ := add_all d3 (up s2') l3 (Oll s2')
    obtain ⟨D5, a5, d5, l5⟩ := add_all d3 (up s4') l3 (Oll s4')
    obtain ⟨D6, a6, d6, l6⟩ := add_all (up s1') (up s5'') (Oll s1') (Oll s5'')
    obtain ⟨D7, a7, d7, l7⟩ := add_all d6 (up s2') l6 (Oll s2')
    have gt : gTuple [.list O] = some (.tuple O) := rfl
    have gRep2 : ∀ x : D, gRep [x] (.int 2) = some [x, x] := fun x => rfl
    have big : ∀ {A : List D}, (∀ y ∈ A, Td 3 700 y) → A.length ≤ 121 → Td 6 90000 (.list A) := fun h hl => (td_list h hl).mono (by omega) (by omega)
    simp [hC1, hC4, g2, g3, g6, g5, a1, a2, a3, a4, a5, a6, a7, gt, gRep2, gAdd_list, e5]
    simp only [Wr_bd]
    have tO : Td 4 30000 (.list O) := (td_list Ot (by rw [Ol]; exact ll)).mono (by omega) (by omega)
    have tO2 : Td 4 30000 (.tuple O) := (td_tuple Ot (by rw [Ol]; exact ll)).mono (by omega) (by omega)
    refine Wr_ix' (P := Td 6 90000) (by simp; omega) ?_ fun y ty => ?_
    · simp only [List.forall_mem_cons]
      refine ⟨tO2.mono (by omega) (by omega), big d1 (by omega), big d2 (by omega), big d4 (by omega), big d5 (by omega), td_none _ _, td0 (by decide +kernel), td_bool _ _ _, td0 (by decide +kernel), td0 (by decide +kernel), td0 (by decide +kernel), td0 (by decide +kernel), td0 (by decide +kernel), ?_, big d7 (by omega), big d7 (by omega), fun x hx => nomatch hx⟩
      exact (td_list (n := 1) (fun z hz => by
        simp only [List.mem_cons, List.not_mem_nil, or_false] at hz
        subst hz; exact tO) (by simp)).mono (by omega) (by omega)
    · simp
      exact ⟨ty, S5.mono (by omega)⟩
theorem same_class_ok {B : Nat} {s : List D} (hs : Src B s) (hB : B ≤ 2 ^ 57) {l : List FT.Ed} (ll : l.length ≤ 40) : ∃ (m : List FT.Ed) (s' : List D), f__law_same_class s [.list (l.map eD)] = .ok (.list (m.map eD), s') ∧ m.Perm l ∧ Src (B + 120) s' := by
  suffices w : Wr (f__law_same_class s [.list (l.map eD)]) fun q => ∃ m : List FT.Ed, q.1 = .list (m.map eD) ∧ m.Perm l ∧ Src (B + 120) q.2 by
    obtain ⟨⟨d, s'⟩, e, m, rfl, h⟩ := w
    exact ⟨m, s', e, h⟩
  refine Wr_M rfl ?_
  have hp1 : (2 : Nat) ^ 57 = 144115188075855872 := by decide
  have hp2 : (2 : Nat) ^ 60 = 1152921504606846976 := by decide
  have g3 : gMul (.int 3) (.int (l.length : Int)) = some (.int ((3 * l.length : Nat) : Int)) := by
    rw [gMul_int]
    · push_cast; rfl
    · have q2 : (l.length : Int).natAbs.log2 < 10 := log2_lt (by show l.length < 1024; omega) (by decide)
      have : (3 : Int).natAbs.log2 = 1 := by decide
      omega
  have gr := gRg1_nat (n := 3 * l.length) (by omega)
  push_cast at g3 gr
  simp [en1, F__law_same_class, g3, gr]
  simp only [Wr_bd]
  refine Wr_for0 (l := List.range (3 * l.length)) (f := nD) (fun i δ => ∃ (s1 : List D) (m : List FT.Ed) (a b : Sl), δ = [.ow s1, .sh (.list (l.map eD)), .ow (m.map eD), a, b, .no] ∧ m.Perm l ∧ Src (B + i) s1) ⟨s, l, _, _, rfl, List.Perm.refl _, hs⟩ ?_ ?_
  · rintro i j δ hi ⟨s1, m, a, b, rfl, P, S⟩
    obtain ⟨hi1, hi2⟩ := List.getElem?_eq_some_iff.mp hi
    simp at hi1 hi2
    subst hi2
    have ml := P.length_eq
    obtain ⟨k, s2, e2, hk, S2⟩ := pick_ok S (by omega) (n := max 1 (l.length - 1)) (by omega) (by omega)
    have mx : (if (1 : Int) < (l.length : Int) - 1 then (l.length : Int) - 1 else 1) = ((max 1 (l.length - 1) : Nat) : Int) := by split <;> omega
    rw [← mx] at e2
    simp [nD, e2]
    by_cases c : k + 1 < l.length
    · have c' : (k : Int) + 1 < (l.length : Int) := by omega
      have k1 : ((k : Int) + 1) = ((k + 1 : Nat) : Int) := by omega
      obtain ⟨p, hp⟩ : ∃ p, m[k]? = some p := ⟨_, List.getElem?_eq_getElem (by omega)⟩
      obtain ⟨q, hq⟩ : ∃ q, m[k + 1]? = some q := ⟨_, List.getElem?_eq_getElem (by omega)⟩
      have at1 : atI (m.map eD) ((k : Int) + 1) = some (eD q) := by rw [k1, atI_k, List.getElem?_map, hq]; rfl
      have i1 : ixN m.length (k : Int) = some k := ixN_nat (by omega)
      have i2 : ixN m.length ((k : Int) + 1) = some (k + 1) := by rw [k1]; exact ixN_nat (by omega)
      have lc := lcP_all (f := nD) (g := gNm 5) (t := pTe (pOp gIn (pV 5) (pIxB 2 (pOp gAdd (pV 4) (pK (.int 1)))))) (e := pV 5) (δ := [.ow s2, .sh (.list (l.map eD)), .ow (m.map eD), .sh (.int (i : Int)), .sh (.int (k : Int)), .no]) (p := fun x => decide (x = q.1 ∨ x = q.2)) (h := nD) [p.1, p.2] fun x _ => ⟨_, rfl, by
        have := gIn_eD2 x q
        simp [nD, at1, this], fun _ => by simp⟩
      have e2 := eqD_nsD ([p.1, p.2].filter fun x => decide (x = q.1 ∨ x = q.2)) []
      obtain ⟨b, gb⟩ : ∃ b, gEq (.list (([p.1, p.2].filter fun x => decide (x = q.1 ∨ x = q.2)).map nD)) (.list []) = some (.bool b) := ⟨_, by
        unfold gEq
        show (eqD (.list _) (.list (([] : List Nat).map nD))).map PyData.bool = _
        rw [e2]; rfl⟩
      simp only [List.map_cons, List.map_nil] at lc
      have tp : tupOf (eD p) = .ok [nD p.1, nD p.2] := rfl
      generalize ([p.1, p.2].filter fun x => decide (x = q.1 ∨ x = q.2)).map nD = F at *
      have sp : ((m.map eD).set k (eD q)).set (k + 1) (eD p) = ((m.set k q).set (k + 1) p).map eD := by simp
      have Ps : ((m.set k q).set (k + 1) p).Perm m := by
        obtain ⟨q1, q2⟩ := List.getElem?_eq_some_iff.mp hq
        obtain ⟨p1, p2⟩ := List.getElem?_eq_some_iff.mp hp
        subst q2 p2
        exact List.set_set_perm p1 q1
      cases b with
      | false =>
        simp [c', hp, tp, lc, gb]
        exact ⟨s2, m, ⟨rfl, rfl⟩, P, by rw [← Nat.add_assoc]; exact S2⟩
      | true =>
        simp [c', hp, hq, tp, lc, gb, at1, i1, i2]
        exact ⟨s2, (m.set k q).set (k + 1) p, ⟨rfl, sp⟩, Ps.trans P, by rw [← Nat.add_assoc]; exact S2⟩
    · have c' : ¬ ((k : Int) + 1 < (l.length : Int)) := by omega
      simp [c']
      exact ⟨s2, m, ⟨rfl, rfl⟩, P, by rw [← Nat.add_assoc]; exact S2⟩
  · rintro δ ⟨s1, m, a, b, rfl, P, S⟩
    simp at S
    simp
    exact ⟨m, rfl, P, S.mono (by omega)⟩
theorem moves_perm (n : Nat) (h1 : 1 ≤ n) (h2 : n ≤ 40) {es : List FT.Ed} (G : Good n es) (A : FT.Ac es) (hl : es.length ≤ 40) {ws vs : List Str} (F : Full ws) (hw : ws.length = n) (P : vs.Perm ws) : ∃ d, f_moves [.tuple [.int (n : Int), .list (es.map eD)], .list (ws.map .str), .list (vs.map .str)] = .ok d := by
  suffices w : Wr (f_moves [.tuple [.int (n : Int), .list (es.map eD)], .list (ws.map .str), .list (vs.map .str)]) fun _ => True by
    obtain ⟨d, e, _⟩ := w
    exact ⟨d, e⟩
  refine Wr_P rfl ?_
  have Fv := F.perm P
  have mb := moves_between_ok (ws := ws) (vs := vs) (fun w hw => P.mem_iff.mpr hw) Fv.nd (by have := F.len; omega) (by have := Fv.len; omega)
  have nb := need_both_ok n h1 h2 G A hl F hw P
  simp [en0, F_moves, nb, mb]
theorem apply_yes (n : Nat) (h1 : 1 ≤ n) (h2 : n ≤ 40) {es l : List FT.Ed} (G : Good n es) (A : FT.Ac es) (hl : es.length ≤ 40) (P : l.Perm es) {ws : List Str} (F : Full ws) (hw : ws.length = n) : f_apply_order [.tuple [.int (n : Int), .list (es.map eD)], .list (ws.map .str), .list (l.map eD)] = .ok (.list ((after ws l).map .str)) := by
  refine Wr.eq.mp (Wr_P rfl ?_)
  have sw := swapped_ok (n := n) (ws.map PyData.str) l (fun p hp => G.1 p (P.mem_iff.mp hp)) (by simpa using hw) (by omega)
  rw [after_map] at sw
  simp [en0, F_apply_order, need_ok n h1 h2 G A hl, need_items_ok _ F hw, need_order_ok n P G (by omega), sw]
theorem apply_no (n : Nat) (h1 : 1 ≤ n) (h2 : n ≤ 40) {es : List FT.Ed} (G : Good n es) (A : FT.Ac es) (hl : es.length ≤ 40) {ws : List Str} (F : Full ws) (hw : ws.length = n) {k w : Nat} {d : D} (h : Td k w d) (hw2 : w ≤ 190000) (no : ¬ IsO es d) : f_apply_order [.tuple [.int (n : Int), .list (es.map eD)], .list (ws.map .str), d] = .er ⟨"NoOrder", none⟩ := by
  have io := is_order_any h1 G h hw2
  rw [vO_no no] at io
  have nd : f_need_order [.tuple [.int (n : Int), .list (es.map eD)], d] = .er ⟨"NoOrder", none⟩ := by
    refine runPe rfl ?_
    simp [en0, F_need_order, io]
  refine runPe rfl ?_
  simp [en0, F_apply_order, need_ok n h1 h2 G A hl, need_items_ok _ F hw, nd]
theorem fits_yes (n : Nat) (h1 : 1 ≤ n) (h2 : n ≤ 40) {es l : List FT.Ed} (G : Good n es) (A : FT.Ac es) (hl : es.length ≤ 40) (P : l.Perm es) {ws vs : List Str} (F : Full ws) (hw : ws.length = n) (Pv : vs.Perm ws) : f_order_fits [.tuple [.int (n : Int), .list (es.map eD)], .list (ws.map .str), .list (vs.map .str), .list (l.map eD)] = .ok (.bool (decide (after ws l = vs))) := by
  refine runP rfl ?_
  obtain ⟨m, mv⟩ := moves_perm n h1 h2 G A hl F hw Pv
  have ay := apply_yes n h1 h2 G A hl P F hw
  have ge : gEq (.list ((after ws l).map .str)) (.list (vs.map .str)) = some (.bool (decide (after ws l = vs))) := by
    unfold gEq; rw [eqD_strs (can_words (F.perm (after_perm l ws))) (can_words (F.perm Pv))]; rfl
  simp [en0, F_order_fits, mv, ay, ge]
theorem fits_no (n : Nat) (h1 : 1 ≤ n) (h2 : n ≤ 40) {es : List FT.Ed} (G : Good n es) (A : FT.Ac es) (hl : es.length ≤ 40) {ws vs : List Str} (F : Full ws) (hw : ws.length = n) (Pv : vs.Perm ws) {k w : Nat} {d : D} (h : Td k w d) (hw2 : w ≤ 190000) (no : ¬ IsO es d) : f_order_fits [.tuple [.int (n : Int), .list (es.map eD)], .list (ws.map .str), .list (vs.map .str), d] = .ok (.bool false) := by
  refine runP rfl ?_
  obtain ⟨m, mv⟩ := moves_perm n h1 h2 G A hl F hw Pv
  have an := apply_no n h1 h2 G A hl F hw h hw2 no
  simp [en0, F_order_fits, mv, an]
theorem law_true : LawTrue := fun ns hlen hbits => by
  refine Wr.eq.mp (Wr_P rfl ?_)
  obtain ⟨m, hm, gm⟩ : ∃ m : Nat, m ≤ 6 ∧ gRg1 [.int (2 + (if (ns.length : Int) < 4 then (ns.length : Int) else 4))] = some ((List.range m).map nD) := by
    refine ⟨2 + min 4 ns.length, by omega, ?_⟩
    rw [← gRg1_nat (by omega)]
    congr 2
    congr 1
    split <;> omega
  obtain ⟨s0, e0, S0⟩ : ∃ s0, f__law_source [.list (ns.map .int)] = .ok s0 ∧ Src 0 s0 := by
    obtain ⟨s0, e0, S0⟩ := source_ok ns hlen
    exact ⟨s0, e0, S0⟩
  have g12 : gRg1 [.int 12] = some ((List.range 12).map nD) := gRg1_nat (n := 12) (by decide)
  simp [en0, F_law, gm, e0]
  simp only [Wr_bd]
  refine Wr_for0 (l := List.range m) (f := nD) (fun i δ => ∃ s a b c d e f g h j k o p, δ = [.sh (.list (ns.map .int)), .ow s, a, b, c, d, e, f, g, h, j, k, o, p, .no] ∧ Src (10000 * i) s) ⟨_, _, _, _, _, _, _, _, _, _, _, _, _, rfl, S0⟩ ?_ ?_
  · rintro i k0 δ hi ⟨s, a, b, c, d, e, f, g, h, j, k, o, p, rfl, Ss⟩
    obtain ⟨hi1, hi2⟩ := List.getElem?_eq_some_iff.mp hi
    simp at hi1 hi2
    subst hi2
    have hp2 : (2 : Nat) ^ 58 = 288230376151711744 := by decide
    have hp1 : (2 : Nat) ^ 57 = 144115188075855872 := by decide
    have hp3 : (2 : Nat) ^ 59 = 576460752303423488 := by decide
    have hp4 : (2 : Nat) ^ 60 = 1152921504606846976 := by decide
    obtain ⟨r, s1, e1, hr, S1⟩ := pick_ok Ss (by omega) (n := 3) (by omega) (by omega)
    obtain ⟨q, hq, eq⟩ : ∃ q : Nat, (1 ≤ q ∧ q ≤ 40) ∧ atI ([PyData.int 12, .int 40] : List D) (if i = 0 then (1 : Int) else 0) = some (.int (q : Int)) := by
      by_cases c : i = 0
      · exact ⟨40, by decide, by rw [if_pos c]; rfl⟩
      · exact ⟨12, by decide, by rw [if_neg c]; rfl⟩
    obtain ⟨z, ⟨z1, z2⟩, ez⟩ := at3 (P := fun z => 1 ≤ z ∧ z ≤ 40) 4 12 q r hr (by decide) (by decide) hq
    obtain ⟨n, es, s2, e2, n1, n2, Gd, A, hl, S2⟩ := graph_ok S1 (by omega) z z1 z2
    have n3 : n ≤ 40 := by omega
    obtain ⟨ws, s3, e3, F, hw, S3⟩ := items_ok S2 (by omega) n n1 n3
    obtain ⟨l, s4, e4, P, S4⟩ := shuffle_ok (f := eD) S3 es (by omega) (by omega)
    have le : ∀ p ∈ l, p.1 < p.2 ∧ p.2 < n := fun p hp => Gd.1 p (P.mem_iff.mp hp)
    have ll : l.length ≤ 40 := by rw [P.length_eq]; exact hl
    have F1 := law_applied_str ws l le hw (by omega)
    obtain ⟨r4, s5, e5, hr4, S5⟩ := pick_ok S4 (by omega) (n := 4) (by omega) (by omega)
    obtain ⟨u, s6, e6, hu, S6⟩ := pick_ok S5 (by omega) (n := n) (by omega) (by omega)
    obtain ⟨v, s7, e7, hv, S7⟩ := pick_ok S6 (by omega) (n := n) (by omega) (by omega)
    push_cast at e1 e5 ez
    simp [nD, e1, eq, ez, e2, e3, e4, F1]
    rw [Wr_bd]
    refine Wr.imp (Q := fun fl => ∃ (vs : List Str) (s' : List D) (x7 x8 : Sl), fl = .nx [.sh (.list (ns.map .int)), .ow s', .sh (.int (i : Int)), .sh (.tuple [.int (n : Int), .list (es.map eD)]), .sh (.list (ws.map .str)), .sh (.list (l.map eD)), .ow (vs.map .str), x7, x8, h, j, k, o, p, .no] ∧ vs.Perm ws ∧ Src (10000 * i + 2000) s') ?_ ?_
    · by_cases c : r4 = 0
      · subst c
        have Pa := after_perm l ws
        have la : (after ws l).length = n := by rw [after_len, hw]
        have i1 : ixN (after ws l).length (u : Int) = some u := ixN_nat (by omega)
        have i2 : ixN (after ws l).length (v : Int) = some v := ixN_nat (by omega)
        have x1 : (after ws l)[u]? = some ((after ws l)[u]'(by omega)) := List.getElem?_eq_getElem (by omega)
        have x2 : (after ws l)[v]? = some ((after ws l)[v]'(by omega)) := List.getElem?_eq_getElem (by omega)
        have Ps := List.set_set_perm (as := after ws l) (i := u) (j := v) (by omega) (by omega)
        simp [e5, e6, e7, i1, i2, x1, x2]
        exact ⟨((after ws l).set u ((after ws l)[v]'(by omega))).set v ((after ws l)[u]'(by omega)), s7, ⟨rfl, by simp⟩, Ps.trans Pa, S7.mono (by omega)⟩
      · have c' : ¬ ((r4 : Int) = 0) := by omega
        simp [e5, c', c]
        exact ⟨after ws l, s5, ⟨rfl, rfl⟩, after_perm l ws, S5.mono (by omega)⟩
    · rintro fl ⟨vs, s', x7, x8, rfl, Pv, S'⟩
      have Fv := F.perm Pv
      obtain ⟨m1, t1, f1, P1, T1⟩ := same_class_ok S' (by omega) (l := l) ll
      obtain ⟨m2, t2, f2, P2, T2⟩ := shuffle_ok (f := eD) T1 l (by omega) (by omega)
      have ted : ∀ x : List FT.Ed, x.Perm es → Td 6 90000 (.list (x.map eD)) := fun x hx => (td_edges n3 (fun p hp => Gd.1 p (hx.mem_iff.mp hp)) (by rw [hx.length_eq]; exact hl)).mono (by omega) (by omega)
      simp [f1, f2, g12]
      simp only [Wr_bd, Wr_nb]
      refine Wr_lcL (l := List.range 12) (f := nD) (fun v out δ => ∃ s1, δ = [.sh (.list (ns.map .int)), .ow s1, .sh (.int (i : Int)), .sh (.tuple [.int (n : Int), .list (es.map eD)]), .sh (.list (ws.map .str)), .sh (.list (l.map eD)), .sh (.list (vs.map .str)), x7, x8, .sh (.list [.list (l.map eD), .list (m1.map eD), .list (m2.map eD), .list (es.map eD)]), j, k, o, p, .no] ∧ out.length = v ∧ (∀ x ∈ out, Td 6 90000 x) ∧ Src (10000 * i + 3000 + 10 * v) s1) ⟨t2, rfl, rfl, by simp, T2.mono (by omega)⟩ ?_ ?_
      · rintro v w out δ hv ⟨s1, rfl, ho, ht, hS⟩
        have hv12 : v < 12 := by simpa using (List.getElem?_eq_some_iff.mp hv).1
        obtain ⟨d, s2, e, td, S2⟩ := spoilt_ok hS (by omega) n n1 n3 le ll
        simp [noer2_ok e]
        refine ⟨by omega, fun x hx => ?_, S2.mono (by omega)⟩
        rcases hx with hx | rfl
        · exact ht x hx
        · exact td
      · rintro out δ ⟨s1, rfl, ho, ht, hS⟩
        simp at ho
        obtain ⟨TS, hTS, ta⟩ : ∃ TS, gAdd (.list [.list (l.map eD), .list (m1.map eD), .list (m2.map eD), .list (es.map eD)]) (.list out) = some (.list TS) ∧ ∀ x ∈ TS, Td 6 90000 x := by
          refine ⟨_, gAdd_list (by simp; omega), fun x hx => ?_⟩
          rcases List.mem_append.mp hx with hx | hx
          · simp only [List.mem_cons, List.not_mem_nil, or_false] at hx
            rcases hx with rfl | rfl | rfl | rfl
            · exact ted _ P
            · exact ted _ (P1.trans P)
            · exact ted _ (P2.trans P)
            · exact ted _ (List.Perm.refl _)
          · exact ht x hx
        simp [hTS]
        rw [← List.map_id' (l := TS)]
        refine Wr_for0 (l := TS) (f := fun x : D => x) (fun _ δ => ∃ j k o p, δ = [.sh (.list (ns.map .int)), .ow s1, .sh (.int (i : Int)), .sh (.tuple [.int (n : Int), .list (es.map eD)]), .sh (.list (ws.map .str)), .sh (.list (l.map eD)), .sh (.list (vs.map .str)), x7, x8, .sh (.list TS), j, k, o, p, .no]) ⟨j, k, o, p, by rw [List.map_id']⟩ ?_ ?_
        · rintro i3 x δ hx ⟨j, k, o, p, rfl⟩
          have tx := ta x (List.mem_of_getElem? hx)
          have tK : Td 8 100000 (.list [.tuple [.int (n : Int), .list (es.map eD)], .list (ws.map .str), .list (vs.map .str), x]) := (tdl (k := 6) (w := 90000) (by
            simp only [List.forall_mem_cons]
            exact ⟨(td_graph n3 Gd.1 hl).mono (by omega) (by omega), (td_words F).mono (by omega) (by omega), (td_words Fv).mono (by omega) (by omega), tx, fun x hx => nomatch hx⟩)).mono (by decide) (by
            have b1 := (td_graph n3 Gd.1 hl).wgt
            have b2 := (td_words F).wgt
            have b3 := (td_words Fv).wgt
            have b4 := tx.wgt
            simp only [PyData.weightAll]; omega)
          have R1 := tK.gRepr
          generalize PyData.shown (.list [.tuple [.int (n : Int), .list (es.map eD)], .list (ws.map .str), .list (vs.map .str), x]) = K1 at R1
          have lo := law_is_order_any Gd (by omega) tx (by omega) (by omega)
          have rb : ∀ b : Bool, gRepr [.bool b] = some (.str (PyData.shown (.bool b))) := fun b => (td_bool 0 0 b).gRepr
          by_cases c : IsO es x
          · obtain ⟨l3, rfl, P3⟩ := c
            rw [vO_yes ⟨l3, rfl, P3⟩] at lo
            have la := law_applied_str ws l3 (fun p hp => Gd.1 p (P3.mem_iff.mp hp)) hw (by omega)
            have fy := fits_yes n n1 n3 Gd A hl P3 F hw Pv
            have ge : gEq (.list ((after ws l3).map .str)) (.list (vs.map .str)) = some (.bool (decide (after ws l3 = vs))) := by
              unfold gEq; rw [eqD_strs (can_words (F.perm (after_perm l3 ws))) (can_words Fv)]; rfl
            generalize decide (after ws l3 = vs) = bb at *
            generalize after ws l3 = W3 at *
            generalize l3.map eD = L3 at *
            simp [R1, lo, la, fy, ge, rb]
          · rw [vO_no c] at lo
            have fn := fits_no n n1 n3 Gd A hl F hw Pv tx (by omega) c
            simp [R1, lo, fn, rb]
        · rintro δ ⟨j, k, o, p, rfl⟩
          simp
          exact hS.mono (by rw [List.length_range]; omega)
  · rintro δ ⟨s, a, b, c, d, e, f, g, h, j, k, o, p, rfl, Ss⟩
    simp
end Law

open PySem PySem.W PyProof.Rows
set_option maxRecDepth 100000 in
set_option maxHeartbeats 0 in
theorem PySem.Challenge.cw_onceswapped_k33_order_fits_any_object_holds : PySem.Challenge.rw_onceswapped_k33_order_fits_any_object.Holds := by
  w_on; o_law; k_head; (case hw => w_witness2)
  k_fill
  refine Law.walk Law.law_true (l := PySem.Challenge.rw_onceswapped_k33_order_fits_any_object) rfl rfl (fun w h Y => PySem.W.kIn_of Y) ?F
  case F =>
    intro w mg fa h KX G hmg
    refine' Law.all_mk Law.law_true KX G hmg ?a1 ?l1 ?c1 ?k1 ?a2 ?l2 ?c2 ?k2 ?a3 ?l3 ?c3 ?k3 ?a4 ?l4 ?c4 ?k4 ?a5 ?l5 ?c5 ?k5 ?a6 ?l6 ?c6 ?k6 ?a7 ?l7 ?c7 ?k7 ?a8 ?l8 ?c8 ?k8 ?a9 ?l9 ?c9 ?k9 ?a10 ?l10 ?c10 ?k10 ?a11 ?l11 ?c11 ?k11 ?a12 ?l12 ?c12 ?k12 ?a13 ?l13 ?c13 ?k13 ?a14 ?l14 ?c14 ?k14 ?a15 ?l15 ?c15 ?k15 ?a16 ?l16 ?c16 ?k16 ?a17 ?l17 ?c17 ?k17 ?a18 ?l18 ?c18 ?k18 ?a19 ?l19 ?c19 ?k19 ?a20 ?l20 ?c20 ?k20 ?a21 ?l21 ?c21 ?k21 ?a22 ?l22 ?c22 ?k22 ?a23 ?l23 ?c23 ?k23 ?a24 ?l24 ?c24 ?k24 ?a25 ?l25 ?c25 ?k25 ?a26 ?l26 ?c26 ?k26 ?z_abs ?z_all ?z_bool ?z_enumerate ?z_int ?z_isinstance ?z_len ?z_list ?z_max ?z_min ?z_range ?z_repr ?z_set ?z_sorted ?z_str ?z_tuple ?z_zip ?y_LETTERS ?y_MOST_LETTERS ?y_MOST_POSITIONS ?eg_NoArrangement ?eb_NoArrangement ?et_NoArrangement ?ex_NoArrangement ?ek_NoArrangement ?eg_NoForest ?eb_NoForest ?et_NoForest ?ex_NoForest ?ek_NoForest ?eg_NoOrder ?eb_NoOrder ?et_NoOrder ?ex_NoOrder ?ek_NoOrder ?ed_NoOrder ?es_NoOrder_NoArrangement ?es_NoOrder_NoForest ?es_NoOrder_NoOrder
    (case a1 => k_is); (case l1 => k_is); (case c1 => k_is); (case k1 => k_is); (case a2 => k_is); (case l2 => k_is)
    (case c2 => k_is); (case k2 => k_is); (case a3 => k_is); (case l3 => k_is); (case c3 => k_is); (case k3 => k_is)
    (case a4 => k_is); (case l4 => k_is); (case c4 => k_is); (case k4 => k_is); (case a5 => k_is); (case l5 => k_is)
    (case c5 => k_is); (case k5 => k_is); (case a6 => k_is); (case l6 => k_is); (case c6 => k_is); (case k6 => k_is)
    (case a7 => k_is); (case l7 => k_is); (case c7 => k_is); (case k7 => k_is); (case a8 => k_is); (case l8 => k_is)
    (case c8 => k_is); (case k8 => k_is); (case a9 => k_is); (case l9 => k_is); (case c9 => k_is); (case k9 => k_is)
    (case a10 => k_is); (case l10 => k_is); (case c10 => k_is); (case k10 => k_is); (case a11 => k_is); (case l11 => k_is)
    (case c11 => k_is); (case k11 => k_is); (case a12 => k_is); (case l12 => k_is); (case c12 => k_is); (case k12 => k_is)
    (case a13 => k_is); (case l13 => k_is); (case c13 => k_is); (case k13 => k_is); (case a14 => k_is); (case l14 => k_is)
    (case c14 => k_is); (case k14 => k_is); (case a15 => k_is); (case l15 => k_is); (case c15 => k_is); (case k15 => k_is)
    (case a16 => k_is); (case l16 => k_is); (case c16 => k_is); (case k16 => k_is); (case a17 => k_is); (case l17 => k_is)
    (case c17 => k_is); (case k17 => k_is); (case a18 => k_is); (case l18 => k_is); (case c18 => k_is); (case k18 => k_is)
    (case a19 => k_is); (case l19 => k_is); (case c19 => k_is); (case k19 => k_is); (case a20 => k_is); (case l20 => k_is)
    (case c20 => k_is); (case k20 => k_is); (case a21 => k_is); (case l21 => k_is); (case c21 => k_is); (case k21 => k_is)
    (case a22 => k_is); (case l22 => k_is); (case c22 => k_is); (case k22 => k_is); (case a23 => k_is); (case l23 => k_is)
    (case c23 => k_is); (case k23 => k_is); (case a24 => k_is); (case l24 => k_is); (case c24 => k_is); (case k24 => k_is)
    (case a25 => k_is); (case l25 => k_is); (case c25 => k_is); (case k25 => k_is); (case a26 => k_is); (case l26 => k_is)
    (case c26 => k_is); (case k26 => k_is); (case z_abs => k_is); (case z_all => k_is); (case z_bool => k_is); (case z_enumerate => k_is)
    (case z_int => k_is); (case z_isinstance => k_is); (case z_len => k_is); (case z_list => k_is); (case z_max => k_is); (case z_min => k_is)
    (case z_range => k_is); (case z_repr => k_is); (case z_set => k_is); (case z_sorted => k_is); (case z_str => k_is); (case z_tuple => k_is)
    (case z_zip => k_is); (case y_LETTERS => k_is); (case y_MOST_LETTERS => k_is); (case y_MOST_POSITIONS => k_is); (case eg_NoArrangement => k_is); (case eb_NoArrangement => k_is)
    (case et_NoArrangement => k_is); (case ex_NoArrangement => k_exc); (case ek_NoArrangement => k_is); (case eg_NoForest => k_is); (case eb_NoForest => k_is); (case et_NoForest => k_is)
    (case ex_NoForest => k_exc); (case ek_NoForest => k_is); (case eg_NoOrder => k_is); (case eb_NoOrder => k_is); (case et_NoOrder => k_is); (case ex_NoOrder => k_exc)
    (case ek_NoOrder => k_is); (case ed_NoOrder => k_is); (case es_NoOrder_NoArrangement => first | rfl | k_is); (case es_NoOrder_NoForest => first | rfl | k_is); (case es_NoOrder_NoOrder => first | rfl | k_is)
#print axioms PySem.Challenge.cw_onceswapped_k33_order_fits_any_object_holds

