import PyProof.Rows.All
import Wide.All
import OpenK.AllK
import Wide.FinOn
import HandS.ForMost
import HandS.IsInst
import HandS.Gcd
import HandS.Zip
import HandS.TupAny
import HandS.TupMul
import HandS.Style
import HandS.AnyAll
import KE.DataFind
import KE.SortData
import KE.DataMinMax
import KE.DataAny
import KE.DatumIndex
import HandS.Replace
import PyProof.Rows.RegReprOcc
import KE.KRevSl
import HandS.Set
import HandS.Strs
import HandS.SetKeys
import HandS.SetFor
import HandS.TupSets
import HandS.More
import KE.GoesEnum
import KE.GoesMore
import HandS.GenList
import PyProof.ConsumeS
import PyProof.GenCompD
import HandS.EndTab
import KE.KNest
import PySem.Challenge.RW_wordmoot_k84_whole_wheels_turns_and_face
set_option Elab.async false
set_option linter.all false
set_option maxRecDepth 100000
set_option maxHeartbeats 4000000

/-! ## part A: data, heaps, the relation between slots and values -/
namespace WM
open PySem PySem.Spec PyProof.Rows L2

abbrev D := PyData
abbrev Frag := PySem.W.Frag

/-! ### texts as lists of codes -/
def mkS (l : List Nat) : Str := ⟨l.toArray⟩
def cs (x : Str) : List Nat := x.cps.toList
theorem cs_mkS (l : List Nat) : cs (mkS l) = l := rfl
theorem mkS_cs (x : Str) : mkS (cs x) = x := by
  cases x
  simp [mkS, cs]
theorem cs_inj {x y : Str} (h : cs x = cs y) : x = y := by
  rw [← mkS_cs x, ← mkS_cs y, h]
theorem mkS_inj {a b : List Nat} (h : mkS a = mkS b) : a = b := by
  have := congrArg cs h
  exact this
theorem length_mkS (l : List Nat) : (mkS l).length = l.length := by
  simp [mkS, Str.length]
theorem length_cs (x : Str) : (cs x).length = x.length := by
  simp [cs, Str.length]
theorem append_mkS (x y : Str) : x ++ y = mkS (cs x ++ cs y) := by
  cases x; cases y
  show Str.append _ _ = _
  simp [Str.append, mkS, cs]

/-! ### heaps that grow -/
def isTbl : HO → Bool
  | .tbl _ => true
  | _ => false
/-- what stood stands (code tables apart) -/
structure Ext (H H' : Hp) : Prop where
  keep : ∀ b o, H b = some o → isTbl o = false → H' b = some o
  dom : ∀ b o, H b = some o → ∃ o', H' b = some o'
  tb : ∀ b, GxR.TabG H b → GxR.TabG H' b
theorem Ext.of {H H' : Hp} (h : ∀ b o, H b = some o → H' b = some o) : Ext H H' := ⟨fun b o e _ => h b o e, fun b o e => ⟨o, h b o e⟩, fun b ⟨ps, e, t⟩ => ⟨ps, h b _ e, t⟩⟩
theorem Ext.refl (H : Hp) : Ext H H := .of fun _ _ h => h
theorem Ext.trans {H H1 H2 : Hp} (a : Ext H H1) (b : Ext H1 H2) : Ext H H2 := ⟨fun c o h t => b.keep c o (a.keep c o h t) t, fun c o h => by
  obtain ⟨o1, h1⟩ := a.dom c o h
  exact b.dom c o1 h1, fun c h => b.tb c (a.tb c h)⟩
theorem Ext.upd {H : Hp} {p : Addr} {o : HO} (h : H p = none) : Ext H (upd H p o) := .of fun b x e => by
  rw [upd_ne (ne_of_none e h)]
  exact e
theorem Ext.none {H H' : Hp} (e : Ext H H') {p : Addr} (h : H' p = none) : H p = none := by
  cases q : H p with
  | none => rfl
  | some o =>
    obtain ⟨o', z⟩ := e.dom p o q
    rw [h] at z; cases z
/-- a part of the heap masked -/
noncomputable def frz (H : Hp) (O : Addr → Prop) : Hp := fun b => @ite _ (O b) (Classical.propDecidable _) none (H b)
theorem frz_of {H : Hp} {O : Addr → Prop} {b : Addr} {o : HO} (h : frz H O b = some o) : ¬ O b ∧ H b = some o := by
  unfold frz at h
  by_cases c : O b
  · rw [if_pos c] at h; cases h
  · rw [if_neg c] at h; exact ⟨c, h⟩
theorem frz_mk {H : Hp} {O : Addr → Prop} {b : Addr} {o : HO} (c : ¬ O b) (h : H b = some o) : frz H O b = some o := by
  unfold frz
  rw [if_neg c]; exact h
theorem Ext.frz {H H' : Hp} {O : Addr → Prop} (e : Ext H H') : Ext (frz H O) (frz H' O) := ⟨fun b o h t => by
  obtain ⟨c, h⟩ := frz_of h
  exact frz_mk c (e.keep b o h t), fun b o h => by
  obtain ⟨c, h⟩ := frz_of h
  obtain ⟨o', z⟩ := e.dom b o h
  exact ⟨o', frz_mk c z⟩, fun b ⟨ps, h, t⟩ => by
  obtain ⟨c, h⟩ := frz_of h
  obtain ⟨ps', h', t'⟩ := e.tb b ⟨ps, h, t⟩
  exact ⟨ps', frz_mk c h', t'⟩⟩
theorem Ext.unfrz {H : Hp} {O : Addr → Prop} : Ext (WM.frz H O) H := .of fun b o h => (frz_of h).2

/-! ### data in a heap -/
theorem Ext.rd {H H' : Hp} (e : Ext H H') {a : Addr} {u : HO} (t : isTbl u = false) (h : Rd H a u) : Rd H' a u := by
  rcases h with h | ⟨o, h⟩
  · exact .inl (e.keep _ _ h t)
  · exact .inr ⟨o, e.keep _ _ h rfl⟩
theorem Ext.sqL {K : Frag} {H H' : Hp} (e : Ext H H') {a : Addr} {xs : List V} (h : SqL K H a xs) : SqL K H' a xs := by
  rcases h with h | h
  · exact .inl (e.rd rfl h)
  · exact .inr h
theorem Ext.sqT {K : Frag} {H H' : Hp} (e : Ext H H') {a : Addr} {xs : List V} (h : SqT K H a xs) : SqT K H' a xs := by
  rcases h with h | h
  · exact .inl (e.rd rfl h)
  · exact .inr h
mutual
/-- v is, in the heap, the data d -/
inductive Dq (K : Frag) (H : Hp) : V → D → Prop
  | non : Dq K H .non .none
  | bl (b : Bool) : Dq K H (.bl b) (.bool b)
  | int (i : Int) : Dq K H (.int i) (.int i)
  | str (x : Str) (z : x.length ≤ 16777216) : Dq K H (.str x) (.str x)
  | lst {a : Addr} {xs : List V} {ds : List D} : H a = some (.lst xs) → DqAll K H xs ds → Dq K H (.ref a) (.list ds)
  | tup {a : Addr} {xs : List V} {ds : List D} : SqT K H a xs → DqAll K H xs ds → Dq K H (.ref a) (.tuple ds)
inductive DqAll (K : Frag) (H : Hp) : List V → List D → Prop
  | nil : DqAll K H [] []
  | cons {v : V} {vs : List V} {d : D} {ds : List D} : Dq K H v d → DqAll K H vs ds → DqAll K H (v :: vs) (d :: ds)
end
mutual
theorem dpMono {K : Frag} {H H' : Hp} (e : Ext H H') : ∀ (d : D) (v : V), Dq K H v d → Dq K H' v d
  | .none, _, h => by cases h; exact .non
  | .bool b, _, h => by cases h; exact .bl b
  | .int i, _, h => by cases h; exact .int i
  | .str x, _, h => by
    cases h with
    | str _ z => exact .str x z
  | .list ds, _, h => by
    cases h with
    | lst s a => exact .lst (e.keep _ _ s rfl) (dpMonoAll e ds _ a)
  | .tuple ds, _, h => by
    cases h with
    | tup s a => exact .tup (e.sqT s) (dpMonoAll e ds _ a)
  | .dict _, _, h => by cases h
theorem dpMonoAll {K : Frag} {H H' : Hp} (e : Ext H H') : ∀ (ds : List D) (vs : List V), DqAll K H vs ds → DqAll K H' vs ds
  | [], _, h => by cases h; exact .nil
  | d :: ds, _, h => by
    cases h with
    | cons h1 h2 => exact .cons (dpMono e d _ h1) (dpMonoAll e ds _ h2)
end
theorem DqAll.len {K : Frag} {H : Hp} : ∀ {vs : List V} {ds : List D}, DqAll K H vs ds → vs.length = ds.length
  | [], [], _ => rfl
  | _ :: _, _ :: _, .cons _ t => by rw [List.length_cons, List.length_cons, DqAll.len t]
theorem DqAll.get {K : Frag} {H : Hp} : ∀ {vs : List V} {ds : List D} {i : Nat} {d : D}, DqAll K H vs ds → ds[i]? = some d → ∃ v, vs[i]? = some v ∧ Dq K H v d
  | _, _, 0, _, .cons h _, e => by simp at e; subst e; exact ⟨_, rfl, h⟩
  | _, _, i + 1, _, .cons _ t, e => by
    obtain ⟨v, h1, h2⟩ := DqAll.get (i := i) t (by simpa using e)
    exact ⟨v, by simpa using h1, h2⟩
theorem DqAll.get' {K : Frag} {H : Hp} : ∀ {vs : List V} {ds : List D} {i : Nat} {v : V}, DqAll K H vs ds → vs[i]? = some v → ∃ d, ds[i]? = some d ∧ Dq K H v d
  | _, _, 0, _, .cons h _, e => by simp at e; subst e; exact ⟨_, rfl, h⟩
  | _, _, i + 1, _, .cons _ t, e => by
    obtain ⟨v, h1, h2⟩ := DqAll.get' (i := i) t (by simpa using e)
    exact ⟨v, by simpa using h1, h2⟩
theorem DqAll.append {K : Frag} {H : Hp} : ∀ {vs ws : List V} {ds es : List D}, DqAll K H vs ds → DqAll K H ws es → DqAll K H (vs ++ ws) (ds ++ es)
  | _, _, _, _, .nil, s => s
  | _, _, _, _, .cons h t, s => .cons h (DqAll.append t s)
theorem DqAll.take {K : Frag} {H : Hp} : ∀ {vs : List V} {ds : List D} (n : Nat), DqAll K H vs ds → DqAll K H (vs.take n) (ds.take n)
  | _, _, 0, _ => .nil
  | _, _, _ + 1, .nil => .nil
  | _, _, n + 1, .cons h t => .cons h (DqAll.take n t)
theorem DqAll.drop {K : Frag} {H : Hp} : ∀ {vs : List V} {ds : List D} (n : Nat), DqAll K H vs ds → DqAll K H (vs.drop n) (ds.drop n)
  | _, _, 0, h => h
  | _, _, _ + 1, .nil => .nil
  | _, _, n + 1, .cons _ t => DqAll.drop n t
theorem DqAll.set {K : Frag} {H : Hp} : ∀ {vs : List V} {ds : List D} {v : V} {d : D} (i : Nat), DqAll K H vs ds → Dq K H v d → DqAll K H (vs.set i v) (ds.set i d)
  | _, _, _, _, _, .nil, _ => .nil
  | _, _, _, _, 0, .cons _ t, h => .cons h t
  | _, _, _, _, i + 1, .cons q t, h => .cons q (DqAll.set i t h)
theorem DqAll.erase {K : Frag} {H : Hp} : ∀ {vs : List V} {ds : List D} (i : Nat), DqAll K H vs ds → DqAll K H (vs.eraseIdx i) (ds.eraseIdx i)
  | _, _, _, .nil => .nil
  | _, _, 0, .cons _ t => t
  | _, _, i + 1, .cons q t => .cons q (DqAll.erase i t)
theorem DqAll.snoc {K : Frag} {H : Hp} {vs : List V} {ds : List D} {v : V} {d : D} (h : DqAll K H vs ds) (q : Dq K H v d) : DqAll K H (vs ++ [v]) (ds ++ [d]) := DqAll.append h (.cons q .nil)
theorem DqAll.reverse {K : Frag} {H : Hp} : ∀ {vs : List V} {ds : List D}, DqAll K H vs ds → DqAll K H vs.reverse ds.reverse
  | _, _, .nil => .nil
  | _, _, .cons h t => by
    rw [List.reverse_cons, List.reverse_cons]
    exact DqAll.snoc (DqAll.reverse t) h

/-! ### data without lists: what a masked list cannot be a part of -/
mutual
def nl : D → Bool
  | .none => true
  | .bool _ => true
  | .int _ => true
  | .str _ => true
  | .tuple xs => nlAll xs
  | .list _ => false
  | .dict _ => false
def nlAll : List D → Bool
  | [] => true
  | x :: xs => nl x && nlAll xs
end
def lstO : HO → Bool
  | .lst _ => true
  | .dK _ => true
  | _ => false
/-- a dict's entries; its keys are ints and texts -/
inductive DkAll (K : Frag) (H : Hp) : List (L2.Key × V) → List (D × D) → Prop
  | nil : DkAll K H [] []
  | cons {k : L2.Key} {v : V} {d e : D} {kvs : List (L2.Key × V)} {ds : List (D × D)} : Dq K H (L2.kV k) d → Dq K H v e → DkAll K H kvs ds → DkAll K H ((k, v) :: kvs) ((d, e) :: ds)
def Dk (K : Frag) (H : Hp) (o : HO) (kvs : List (D × D)) : Prop := ∃ ks, o = .dK ks ∧ DkAll K H ks kvs
theorem dkMono {K : Frag} {H H' : Hp} (e : Ext H H') : ∀ {ks : List (L2.Key × V)} {kvs : List (D × D)}, DkAll K H ks kvs → DkAll K H' ks kvs
  | _, _, .nil => .nil
  | _, _, .cons a b c => .cons (dpMono e _ _ a) (dpMono e _ _ b) (dkMono e c)
theorem Dk.mono {K : Frag} {H H' : Hp} {o : HO} {kvs : List (D × D)} (e : Ext H H') (h : Dk K H o kvs) : Dk K H' o kvs := by
  obtain ⟨ks, h1, h2⟩ := h
  exact ⟨ks, h1, dkMono e h2⟩
theorem Dk.tb {K : Frag} {H : Hp} {o : HO} {kvs : List (D × D)} (h : Dk K H o kvs) : isTbl o = false := by
  obtain ⟨ks, rfl, _⟩ := h; rfl
theorem Dk.ls {K : Frag} {H : Hp} {o : HO} {kvs : List (D × D)} (h : Dk K H o kvs) : lstO o = true := by
  obtain ⟨ks, rfl, _⟩ := h; rfl
mutual
theorem nl_frz {K : Frag} {H : Hp} {O : Addr → Prop} (hO : ∀ b o, O b → H b = some o → lstO o = true) : ∀ (d : D) (v : V), nl d = true → Dq K H v d → Dq K (frz H O) v d
  | .none, _, _, h => by cases h; exact .non
  | .bool b, _, _, h => by cases h; exact .bl b
  | .int i, _, _, h => by cases h; exact .int i
  | .str x, _, _, h => by
    cases h with
    | str _ z => exact .str x z
  | .list ds, _, n, h => by simp [nl] at n
  | .tuple ds, _, n, h => by
    cases h with
    | tup s a =>
      refine .tup ?_ (nl_frzAll hO ds _ (by simpa [nl] using n) a)
      rcases s with (s | ⟨o, s⟩) | s
      · refine .inl (.inl (frz_mk (fun c => ?_) s))
        have := hO _ _ c s
        cases this
      · refine .inl (.inr ⟨o, frz_mk (fun c => ?_) s⟩)
        have := hO _ _ c s
        cases this
      · exact .inr s
  | .dict _, _, _, h => by cases h
theorem nl_frzAll {K : Frag} {H : Hp} {O : Addr → Prop} (hO : ∀ b o, O b → H b = some o → lstO o = true) : ∀ (ds : List D) (vs : List V), nlAll ds = true → DqAll K H vs ds → DqAll K (frz H O) vs ds
  | [], _, _, h => by cases h; exact .nil
  | d :: ds, _, n, h => by
    cases h with
    | cons h1 h2 =>
      simp only [nlAll, Bool.and_eq_true] at n
      exact .cons (nl_frz hO d _ n.1 h1) (nl_frzAll hO ds _ n.2 h2)
end

/-! ### what an expression gives: data, a list just made, a list that a name of the def holds -/
inductive R where
  | d (x : D)
  | f (xs : List D)
  | b (xs : List D)
  | fd (kvs : List (D × D))
  | bd (kvs : List (D × D))
def R.toD : R → D
  | .d x => x
  | .f xs => .list xs
  | .b xs => .list xs
  | .fd kvs => .dict kvs
  | .bd kvs => .dict kvs
/-- what may be kept elsewhere -/
def R.share : R → Option D
  | .d x => some x
  | .f xs => some (.list xs)
  | .b _ => none
  | .fd _ => none
  | .bd _ => none
abbrev Msk := Addr → Prop
def Rv (K : Frag) (O : Msk) (H H' : Hp) (v : V) : R → Prop
  | .d x => Dq K (frz H' O) v x
  | .f xs => ∃ a vs, v = .ref a ∧ H a = none ∧ H' a = some (.lst vs) ∧ DqAll K (frz H' fun b => O b ∨ b = a) vs xs
  | .b xs => ∃ a vs, v = .ref a ∧ Rd H' a (.lst vs) ∧ DqAll K (frz H' O) vs xs
  | .fd kvs => ∃ a o, v = .ref a ∧ H a = none ∧ H' a = some o ∧ Dk K (frz H' fun b => O b ∨ b = a) o kvs
  | .bd kvs => ∃ a o, v = .ref a ∧ Rd H' a o ∧ Dk K (frz H' O) o kvs

/-- a name's slot: nothing, data, a list of its own, such a list while a loop walks it, a list that is only read -/
inductive Sl where
  | no
  | va (x : D)
  | rd (xs : List D)
  | ow (xs : List D)
  | lk (xs : List D)
  | od (kvs : List (D × D))
  | rdd (kvs : List (D × D))

def SlOk (K : Frag) (H0 : Hp) (O : Msk) (H : Hp) (a : Option Addr) (v : Option (Option V)) : Option Sl → Prop
  | none => a = none
  | some .no => a = none
  | some (.va x) => a = none ∧ ∃ u, v = some (some u) ∧ Dq K (frz H O) u x
  | some (.rd xs) => a = none ∧ ∃ p vs, v = some (some (.ref p)) ∧ Rd H0 p (.lst vs) ∧ Rd H p (.lst vs) ∧ DqAll K (frz H O) vs xs
  | some (.ow xs) => ∃ p vs, a = some p ∧ v = some (some (.ref p)) ∧ H p = some (.lst vs) ∧ DqAll K (frz H O) vs xs
  | some (.lk xs) => ∃ p vs, a = some p ∧ v = some (some (.ref p)) ∧ H p = some (.lst vs) ∧ DqAll K (frz H O) vs xs
  | some (.od kvs) => ∃ p o, a = some p ∧ v = some (some (.ref p)) ∧ H p = some o ∧ Dk K (frz H O) o kvs
  | some (.rdd kvs) => a = none ∧ ∃ p o, v = some (some (.ref p)) ∧ Rd H0 p o ∧ Rd H p o ∧ Dk K (frz H O) o kvs

def Ow (O : Msk) (A : Nat → Option Addr) : Msk := fun b => O b ∨ ∃ i, A i = some b
/-- where the code objects' tables stand -/
class Tabs where
  T : Addr → Prop
section
variable [τ : Tabs]
/-- the slots as they are, against the values; H0 the heap at the def's entry, O what is masked for the callers' sake, A where the names' own lists lie -/
structure Rel (K : Frag) (H0 : Hp) (O : Msk) (A : Nat → Option Addr) (σ : L2.St) (H : Hp) (ρ : List Sl) : Prop where
  len : ρ.length = σ.length
  ext : Ext H0 H
  out : ∀ b, O b → ∃ o, H b = some o ∧ lstO o = true
  new : ∀ i a, A i = some a → H0 a = none
  inj : ∀ i j a, A i = some a → A j = some a → i = j
  slot : ∀ i, SlOk K H0 (Ow O A) H (A i) σ[i]? ρ[i]?
  tabs : ∀ P, Tabs.T P → GxR.TabG H P

section
variable {K : Frag} {H0 H H' : Hp} {O : Msk} {A : Nat → Option Addr} {σ : L2.St} {ρ : List Sl}
theorem SlOk.mono {a : Option Addr} {v : Option (Option V)} {s : Option Sl} (h : SlOk K H0 O H a v s) (e : Ext H H') : SlOk K H0 O H' a v s := by
  cases s with
  | none => exact h
  | some s =>
    cases s with
    | no => exact h
    | va x =>
      obtain ⟨h0, u, h1, h2⟩ := h
      exact ⟨h0, u, h1, dpMono e.frz _ _ h2⟩
    | rd xs =>
      obtain ⟨h0, p, vs, h1, hz, h2, h3⟩ := h
      exact ⟨h0, p, vs, h1, hz, e.rd rfl h2, dpMonoAll e.frz _ _ h3⟩
    | ow xs =>
      obtain ⟨p, vs, h1, h2, h3, h4⟩ := h
      exact ⟨p, vs, h1, h2, e.keep _ _ h3 rfl, dpMonoAll e.frz _ _ h4⟩
    | lk xs =>
      obtain ⟨p, vs, h1, h2, h3, h4⟩ := h
      exact ⟨p, vs, h1, h2, e.keep _ _ h3 rfl, dpMonoAll e.frz _ _ h4⟩
    | od kvs =>
      obtain ⟨p, o, h1, h2, h3, h4⟩ := h
      exact ⟨p, o, h1, h2, e.keep _ _ h3 h4.tb, h4.mono e.frz⟩
    | rdd kvs =>
      obtain ⟨h0, p, o, h1, hz, h2, h3⟩ := h
      exact ⟨h0, p, o, h1, hz, e.rd h3.tb h2, h3.mono e.frz⟩
theorem lst_keep (e : Ext H H') {b : Addr} (h : ∃ o, H b = some o ∧ lstO o = true) : ∃ o, H' b = some o ∧ lstO o = true := by
  obtain ⟨o, h1, h2⟩ := h
  refine ⟨o, e.keep b o h1 ?_, h2⟩
  cases o <;> simp_all [lstO, isTbl]
theorem Rel.mono (r : Rel K H0 O A σ H ρ) (e : Ext H H') : Rel K H0 O A σ H' ρ :=
  ⟨r.len, r.ext.trans e, fun b h => lst_keep e (r.out b h), r.new, r.inj, fun i => (r.slot i).mono e, fun P h => e.tb P (r.tabs P h)⟩
theorem Rel.lsts (r : Rel K H0 O A σ H ρ) : ∀ b, Ow O A b → ∃ o, H b = some o ∧ lstO o = true := by
  rintro b (h | ⟨i, h⟩)
  · exact r.out b h
  · have s := r.slot i
    cases e : ρ[i]? with
    | none => rw [e] at s; rw [show A i = none from s] at h; cases h
    | some x =>
      rw [e] at s
      cases x with
      | no => rw [show A i = none from s] at h; cases h
      | va x => rw [s.1] at h; cases h
      | rd x => rw [s.1] at h; cases h
      | ow xs =>
        obtain ⟨p, vs, h1, _, h3, _⟩ := s
        rw [h1] at h; cases h
        exact ⟨_, h3, rfl⟩
      | lk xs =>
        obtain ⟨p, vs, h1, _, h3, _⟩ := s
        rw [h1] at h; cases h
        exact ⟨_, h3, rfl⟩
      | od kvs =>
        obtain ⟨p, o, h1, _, h3, h4⟩ := s
        rw [h1] at h; cases h
        exact ⟨_, h3, h4.ls⟩
      | rdd x => rw [s.1] at h; cases h
theorem Rel.hid (r : Rel K H0 O A σ H ρ) : ∀ b o, Ow O A b → H b = some o → lstO o = true := fun b o h e => by
  obtain ⟨o', h1, h2⟩ := r.lsts b h
  rw [e] at h1; cases h1; exact h2
theorem Rel.free (r : Rel K H0 O A σ H ρ) {p : Addr} (h : H p = none) : ¬ Ow O A p := fun c => by
  obtain ⟨o, h1, _⟩ := r.lsts p c
  rw [h] at h1; cases h1
end

end

/-! ### the uses of a result -/
section
variable {K : Frag} {O : Msk} {H0 H H' H'' : Hp} {v : V} {r : R}
theorem frz_sub {H : Hp} {O O' : Msk} (h : ∀ b o, H b = some o → O' b → O b) : Ext (frz H O) (frz H O') := .of fun b o q => by
  obtain ⟨c, q⟩ := frz_of q
  exact frz_mk (fun z => c (h b o q z)) q
theorem Rv.mono (h : Rv K O H H' v r) (e : Ext H' H'') : Rv K O H H'' v r := by
  cases r with
  | d x => exact dpMono e.frz _ _ h
  | f xs =>
    obtain ⟨a, vs, h0, h1, h2, h3⟩ := h
    exact ⟨a, vs, h0, h1, e.keep _ _ h2 rfl, dpMonoAll e.frz _ _ h3⟩
  | b xs =>
    obtain ⟨a, vs, h0, h2, h3⟩ := h
    exact ⟨a, vs, h0, e.rd rfl h2, dpMonoAll e.frz _ _ h3⟩
  | fd kvs =>
    obtain ⟨a, o, h0, h1, h2, h3⟩ := h
    exact ⟨a, o, h0, h1, e.keep _ _ h2 h3.tb, h3.mono e.frz⟩
  | bd kvs =>
    obtain ⟨a, o, h0, h2, h3⟩ := h
    exact ⟨a, o, h0, e.rd h3.tb h2, h3.mono e.frz⟩
/-- from an earlier heap on -/
theorem Rv.back (h : Rv K O H H' v r) (e : Ext H0 H) : Rv K O H0 H' v r := by
  cases r with
  | d x => exact h
  | f xs =>
    obtain ⟨a, vs, h0, h1, h2, h3⟩ := h
    exact ⟨a, vs, h0, e.none h1, h2, h3⟩
  | b xs => exact h
  | fd kvs =>
    obtain ⟨a, o, h0, h1, h2, h3⟩ := h
    exact ⟨a, o, h0, e.none h1, h2, h3⟩
  | bd kvs => exact h
/-- its items, where it is a list: where it lies, and the items in what is not masked -/
theorem Rv.items {xs : List D} (h : Rv K O H H' v r) (e : r.toD = .list xs) : ∃ a vs, v = .ref a ∧ Rd H' a (.lst vs) ∧ DqAll K (frz H' O) vs xs := by
  cases r with
  | d x =>
    have e : x = .list xs := e
    subst e
    have h : Dq K (frz H' O) v (.list xs) := h
    cases h with
    | lst s a => exact ⟨_, _, rfl, .inl (Ext.unfrz.keep _ _ s rfl), a⟩
  | f ys =>
    obtain ⟨a, vs, h0, h1, h2, h3⟩ := h
    cases e
    exact ⟨a, vs, h0, .inl h2, dpMonoAll (frz_sub fun b o _ c => .inl c) _ _ h3⟩
  | b ys =>
    obtain ⟨a, vs, h0, h2, h3⟩ := h
    cases e
    exact ⟨a, vs, h0, h2, h3⟩
  | fd kvs => cases e
  | bd kvs => cases e
/-- its entries, where it is a dict -/
theorem Rv.dict {kvs : List (D × D)} (h : Rv K O H H' v r) (e : r.toD = .dict kvs) : ∃ a o, v = .ref a ∧ Rd H' a o ∧ Dk K (frz H' O) o kvs := by
  cases r with
  | d x =>
    have e : x = .dict kvs := e
    subst e
    have h : Dq K (frz H' O) v (.dict kvs) := h
    cases h
  | f ys => cases e
  | b ys => cases e
  | fd ys =>
    obtain ⟨a, o, h0, h1, h2, h3⟩ := h
    cases e
    exact ⟨a, o, h0, .inl h2, h3.mono (frz_sub fun b o _ c => .inl c)⟩
  | bd ys =>
    obtain ⟨a, o, h0, h2, h3⟩ := h
    cases e
    exact ⟨a, o, h0, h2, h3⟩
theorem Rv.itemsT {xs : List D} (h : Rv K O H H' v r) (e : r.toD = .tuple xs) : ∃ a vs, v = .ref a ∧ SqT K H' a vs ∧ DqAll K (frz H' O) vs xs := by
  cases r with
  | d x =>
    have e : x = .tuple xs := e
    subst e
    have h : Dq K (frz H' O) v (.tuple xs) := h
    cases h with
    | tup s a => exact ⟨_, _, rfl, Ext.unfrz.sqT s, a⟩
  | f ys => cases e
  | b ys => cases e
  | fd ys => cases e
  | bd ys => cases e
/-- kept elsewhere -/
theorem Rv.share {x : D} (h : Rv K O H H' v r) (hO : ∀ b, O b → ∃ o, H b = some o) (e : r.share = some x) : Dq K (frz H' O) v x := by
  cases r with
  | d y => cases e; exact h
  | f ys =>
    cases e
    obtain ⟨a, vs, rfl, h1, h2, h3⟩ := h
    refine .lst (frz_mk (fun c => ?_) h2) (dpMonoAll (frz_sub fun b o _ c => .inl c) _ _ h3)
    obtain ⟨o, q⟩ := hO a c
    rw [h1] at q; cases q
  | b ys => cases e
  | fd ys => cases e
  | bd ys => cases e
end
end WM

/-! ## part B: the small language and what it computes -/
namespace WM
open PySem PySem.Spec PyProof.Rows L2

inductive B1 where
  | len | tuple | list | sorted | abs | int | sum | max | min | all | any | bool | ord | sset | lset | set
  deriving DecidableEq, Repr
inductive B2 where
  | max2 | min2 | gcd
  deriving DecidableEq, Repr
inductive M1 where
  | join | count | index | startswith | endswith | tcount | tindex
  deriving DecidableEq, Repr
inductive Ty where
  | int | bool | str | tuple | list
  deriving DecidableEq, Repr
inductive Tg where
  | nm (i : Nat)
  | tp (is : List Nat)
  deriving Repr
/-- what is done with what a generator expression gives -/
inductive Gc where
  | all | any | tuple | sum | min | max
  deriving DecidableEq, Repr

mutual
inductive E where
  | var (i : Nat)
  | cst (c : Const)
  | glb (k : Nat)
  | tup (es : Es)
  | lst (es : Es)
  | bin (op : Operator) (a b : E)
  | neg (a : E)
  | inv (a : E)
  | cmp (op : CmpOp) (a b : E)
  | chn (op op' : CmpOp) (a b c : E)
  | and (es : Es)
  | or (es : Es)
  | ife (c a b : E)
  | ix (a b : E)
  | sl (a : E) (lo hi : Oe)
  | rev (a : E)
  | call (f : Nat) (es : Es)
  | b1 (f : B1) (a : E)
  | b2 (f : B2) (a b : E)
  | isi (a : E) (t : Ty)
  | m1 (f : M1) (o a : E)
  | lc (own : List (Str × Nat)) (t : Tg) (it : It) (ifs : Es) (e : E)
  | lc2 (own : List (Str × Nat)) (t : Tg) (it : It) (t2 : Tg) (it2 : It) (ifs : Es) (e : E)
  | gx (c : Gc) (own : List (Str × Nat)) (t : Tg) (it : It) (ifs : Es) (e : E)
  | dnew
  | ddp (k v : E)
  | dg1 (a k : E)
  | dg2 (a k x : E)
inductive Es where
  | nil
  | cons (e : E) (es : Es)
inductive Oe where
  | no
  | so (e : E)
inductive It where
  | e (a : E)
  | rg1 (a : E)
  | rg2 (a b : E)
  | rg3 (a b c : E)
  | zp (a b : E)
  | en (a : E)
end
mutual
inductive S where
  | skip
  | asg (t : Tg) (e : E)
  | seti (i : Nat) (k e : E)
  | aug (i : Nat) (op : Operator) (e : E)
  | app (i : Nat) (e : E)
  | ext (i : Nat) (e : E)
  | rem (i : Nat) (e : E)
  | ite (c : E) (a b : Ss)
  | loop (t : Tg) (it : It) (b : Ss)
  | whl (c : E) (b : Ss)
  | ret (e : E)
  | retN
  | brk
  | cnt
inductive Ss where
  | nil
  | cons (s : S) (ss : Ss)
end
def Es.len : Es → Nat
  | .nil => 0
  | .cons _ es => es.len + 1

/-! ### the operators on data -/
/-- data that is compared: no dict, not deeper than n -/
def okN : Nat → D → Bool
  | _, .none => true
  | _, .bool _ => true
  | _, .int _ => true
  | _, .str _ => true
  | _, .dict _ => false
  | 0, .list _ => false
  | 0, .tuple _ => false
  | n + 1, .list xs => xs.all (okN n)
  | n + 1, .tuple xs => xs.all (okN n)
abbrev okD (d : D) : Bool := okN 60 d
/-- a part of a list, as a slice asks -/
def cutL {α : Type} (xs : List α) (lo hi : Option Int) : List α := (xs.drop (HT.sIx xs.length 0 lo)).take (HT.sIx xs.length xs.length hi - HT.sIx xs.length 0 lo)
def szOk (n : Nat) : Bool := decide (n ≤ 16777216)
def intOk (i : Int) : Bool := decide (-(2 ^ 64) < i) && decide (i < 2 ^ 64)

def binD (op : Operator) (x y : D) : Option R := match op with
  | .Add => match x, y with
    | .int i, .int j => some (.d (.int (i + j)))
    | .str a, .str b => if szOk (a.length + b.length) then some (.d (.str (mkS (cs a ++ cs b)))) else none
    | .tuple a, .tuple b => if szOk (a.length + b.length) then some (.d (.tuple (a ++ b))) else none
    | .list a, .list b => if szOk (a.length + b.length) then some (.f (a ++ b)) else none
    | _, _ => none
  | .Sub => match x, y with
    | .int i, .int j => some (.d (.int (i - j)))
    | _, _ => none
  | .Mult => match x, y with
    | .int i, .int j => if intOk i || intOk j then some (.d (.int (i * j))) else none
    | .str a, .int k => if szOk (a.length * k.toNat) && decide (k < 2 ^ 62) && decide (-(2 ^ 62) < k) then some (.d (.str (mkS (List.replicate k.toNat (cs a)).flatten))) else none
    | .list a, .int k => if szOk (a.length * k.toNat) && decide (k < 2 ^ 62) && decide (-(2 ^ 62) < k) then some (.f (List.replicate k.toNat a).flatten) else none
    | .tuple a, .int k => if !a.isEmpty && decide (a.length ≤ 1000) && decide (2 ≤ k) && decide (k ≤ 1000) then some (.d (.tuple (List.replicate k.toNat a).flatten)) else none
    | _, _ => none
  | .FloorDiv => match x, y with
    | .int i, .int j => if decide (0 < j) && decide (j < 1073741824) then some (.d (.int (i / j))) else none
    | _, _ => none
  | .Mod => match x, y with
    | .int i, .int j => if decide (0 < j) then some (.d (.int (i % j))) else none
    | _, _ => none
  | .Pow => match x, y with
    | .int i, .int j => if decide (0 ≤ j) && decide (j ≤ 1000000) && decide (i.natAbs < 2 ^ 64) then some (.d (.int (i ^ j.toNat))) else none
    | _, _ => none
  | _ => none
def isNone : D → Bool
  | .none => true
  | _ => false
/-! dicts; a key is an int or a text -/
def isKey : D → Bool
  | .int _ => true
  | .str _ => true
  | _ => false
def lookD (kvs : List (D × D)) (k : D) : Option D := (kvs.find? fun p => PyData.eqv p.1 k).map (·.2)
def putD (kvs : List (D × D)) (k v : D) : List (D × D) := if kvs.any (fun p => PyData.eqv p.1 k) then kvs.map fun p => if PyData.eqv p.1 k then (p.1, v) else p else kvs ++ [(k, v)]
/-- stands within -/
def isSub (c z : List Nat) : Bool := (List.range (z.length + 1)).any fun i => decide ((z.drop i).take c.length = c)
def cmpD (op : CmpOp) (x y : D) : Option Bool := match op with
  | .Eq => if okD x && okD y then some (PyData.eqv x y) else none
  | .NotEq => if okD x && okD y then some (!PyData.eqv x y) else none
  | .Lt => if okD x && okD y && PySem.W.alike x y && !isNone x then some (PySem.W.dataLt x y) else none
  | .Gt => if okD x && okD y && PySem.W.alike x y && !isNone x then some (PySem.W.dataLt y x) else none
  | .LtE => if okD x && okD y && PySem.W.alike x y && !isNone x then some (!PySem.W.dataLt y x) else none
  | .GtE => if okD x && okD y && PySem.W.alike x y && !isNone x then some (!PySem.W.dataLt x y) else none
  | .Is => if isNone y then some (isNone x) else none
  | .IsNot => if isNone y then some (!isNone x) else none
  | .In => match y with
    | .list ys => if okD x && okD y then some (ys.any fun z => PyData.eqv z x) else none
    | .tuple ys => if okD x && okD y then some (ys.any fun z => PyData.eqv z x) else none
    | .str z => match x with
      | .str c => match cs c with
        | [k] => some (decide (k ∈ cs z))
        | l => some (isSub l (cs z))
      | _ => none
    | .dict kvs => if isKey x then some (lookD kvs x).isSome else none
    | _ => none
  | .NotIn => match y with
    | .list ys => if okD x && okD y then some (!ys.any fun z => PyData.eqv z x) else none
    | .tuple ys => if okD x && okD y then some (!ys.any fun z => PyData.eqv z x) else none
    | .str z => match x with
      | .str c => match cs c with
        | [k] => some (!decide (k ∈ cs z))
        | l => some (!isSub l (cs z))
      | _ => none
    | .dict kvs => if isKey x then some (!(lookD kvs x).isSome) else none
    | _ => none
/-- truth -/
def tru : D → Option Bool
  | .none => some false
  | .bool b => some b
  | .int i => some (i != 0)
  | .str x => some (x.length != 0)
  | .list xs => some (!xs.isEmpty)
  | .tuple xs => some (!xs.isEmpty)
  | .dict _ => none
def ixD (x y : D) : Option D := match x, y with
  | .list xs, .int i => atI xs i
  | .tuple xs, .int i => atI xs i
  | .str z, .int i => (atI (cs z) i).map fun c => .str (mkS [c])
  | .dict kvs, k => if isKey k then lookD kvs k else none
  | _, _ => none
def slD (x : D) (lo hi : Option Int) : Option R := match x with
  | .list xs => some (.f (cutL xs lo hi))
  | .tuple xs => some (.d (.tuple (cutL xs lo hi)))
  | .str z => some (.d (.str (mkS (cutL (cs z) lo hi))))
  | _ => none
def revD (x : D) : Option R := match x with
  | .list xs => some (.f xs.reverse)
  | .str z => some (.d (.str (mkS (cs z).reverse)))
  | .tuple xs => some (.d (.tuple xs.reverse))
  | _ => none
def intsOf : List D → Option (List Int)
  | [] => some []
  | .int i :: r => (intsOf r).map (i :: ·)
  | _ :: _ => none
def boolsOf : List D → Option (List Bool)
  | [] => some []
  | .bool b :: r => (boolsOf r).map (b :: ·)
  | _ :: _ => none
def strsOf : List D → Option (List (List Nat))
  | [] => some []
  | .str b :: r => (strsOf r).map (cs b :: ·)
  | _ :: _ => none
/-- items that can be ordered among each other -/
def ordAll (xs : List D) : Bool := xs.all fun x => okD x && !isNone x && xs.all fun y => PySem.W.alike x y
/-- all are tuples with an item, or none is a tuple -/
def sortOk (xs : List D) : Bool := xs.all (fun d => match d with | .tuple (_ :: _) => true | _ => false) || xs.all (fun d => match d with | .tuple _ => false | _ => true)
/-- stable -/
def sortD (xs : List D) : List D := xs.mergeSort fun a b => !PySem.W.dataLt b a
def isI : D → Bool
  | .int _ => true
  | _ => false
def isS : D → Bool
  | .str _ => true
  | _ => false
/-- what a set may hold -/
def keyOk (xs : List D) : Bool := (xs.all isI || xs.all isS) && decide (xs.length ≤ 4000)
def keyMx (xs : List D) : Bool := xs.all (fun x => isI x || isS x) && decide (xs.length ≤ 4000)
def isU : D → Bool
  | .tuple ys => ys.all isI
  | _ => false
def keyUx (xs : List D) : Bool := xs.all isU && decide (xs.length < 64)
def dedD : List D → List D
  | [] => []
  | x :: r => if (dedD r).any (fun y => PyData.eqv y x) then dedD r else x :: dedD r
def itemsD : D → Option (List D)
  | .list xs => some xs
  | .tuple xs => some xs
  | .str z => some ((cs z).map fun c => .str (mkS [c]))
  | _ => none
def b1D (f : B1) (x : D) : Option R := match f with
  | .len => match x with
    | .list xs => some (.d (.int xs.length))
    | .tuple xs => some (.d (.int xs.length))
    | .str z => some (.d (.int z.length))
    | .dict kvs => some (.d (.int kvs.length))
    | _ => none
  | .tuple => match x with
    | .list xs => some (.d (.tuple xs))
    | .tuple xs => some (.d (.tuple xs))
    | _ => none
  | .list => match x with
    | .list xs => some (.f xs)
    | .tuple xs => some (.f xs)
    | .str z => some (.f ((cs z).map fun c => .str (mkS [c])))
    | _ => none
  | .abs => match x with
    | .int i => some (.d (.int (if i < 0 then -i else i)))
    | _ => none
  | .int => match x with
    | .int i => some (.d (.int i))
    | _ => none
  | .sum => match x with
    | .list xs => (intsOf xs).map fun is => .d (.int is.sum)
    | _ => none
  | .all => match x with
    | .list xs => (boolsOf xs).map fun bs => .d (.bool (bs.all id))
    | _ => none
  | .any => match x with
    | .list xs => (boolsOf xs).map fun bs => .d (.bool (bs.any id))
    | _ => none
  | .max => match x with
    | .list (y :: r) => if ordAll (y :: r) then some (.d (PySem.W.maxD y r)) else none
    | .tuple (y :: r) => if ordAll (y :: r) then some (.d (PySem.W.maxD y r)) else none
    | _ => none
  | .min => match x with
    | .list (y :: r) => if ordAll (y :: r) then some (.d (PySem.W.minD y r)) else none
    | .tuple (y :: r) => if ordAll (y :: r) then some (.d (PySem.W.minD y r)) else none
    | _ => none
  | .sorted => match x with
    | .dict kvs => if ((kvs.map (·.1)).all isI || (kvs.map (·.1)).all isS) && decide (kvs.length < 64) then some (.f (sortD (kvs.map (·.1)))) else none
    | _ => (itemsD x).bind fun xs => if ordAll xs && sortOk xs && szOk xs.length then some (.f (sortD xs)) else none
  | .sset => (itemsD x).bind fun xs => if keyOk xs then some (.f (sortD (dedD xs))) else none
  | .lset => (itemsD x).bind fun xs => if keyMx xs then some (.d (.int (dedD xs).length)) else if keyUx xs then some (.d (.int (dedD xs).length)) else none
  | _ => none
def b2D (f : B2) (x y : D) : Option R := match f with
  | .max2 => match x, y with
    | .int i, .int j => some (.d (.int (if j > i then j else i)))
    | _, _ => none
  | .min2 => match x, y with
    | .int i, .int j => some (.d (.int (if j < i then j else i)))
    | .str x, .str y => some (.d (.str (if decide (cs y < cs x) = true then y else x)))
    | _, _ => none
  | .gcd => match x, y with
    | .int i, .int j => some (.d (.int (Nat.gcd i.natAbs j.natAbs)))
    | _, _ => none
def isiD (t : Ty) : D → Bool
  | .bool _ => match t with | .int => true | .bool => true | _ => false
  | .int _ => match t with | .int => true | _ => false
  | .str _ => match t with | .str => true | _ => false
  | .tuple _ => match t with | .tuple => true | _ => false
  | .list _ => match t with | .list => true | _ => false
  | _ => false
/-- z.join(xs) -/
def joinL (z : List Nat) : List (List Nat) → List Nat
  | [] => []
  | [x] => x
  | x :: r => x ++ z ++ joinL z r
abbrev findD (x : D) (xs : List D) : Option Nat := PySem.SeqAt.dataPlace xs x
def prefL : List Nat → List Nat → Bool
  | [], _ => true
  | a :: r, b :: s => a == b && prefL r s
  | _ :: _, [] => false
def m1D (f : M1) (o a : D) : Option R := match f with
  | .join => match o, a with
    | .str z, .list xs => (strsOf xs).bind fun ls => if szOk ((ls.map List.length).sum + z.length * ls.length) then some (.d (.str (mkS (joinL (cs z) ls)))) else none
    | .str z, .tuple xs => (strsOf xs).bind fun ls => if szOk ((ls.map List.length).sum + z.length * ls.length) then some (.d (.str (mkS (joinL (cs z) ls)))) else none
    | _, _ => none
  | .index => match o, a with
    | .list xs, y => if okD o && okD y then (findD y xs).map fun (k : Nat) => R.d (.int (k : Int)) else none
    | _, _ => none
  | .count => match o, a with
    | .list xs, y => if okD o && okD y then some (.d (.int (xs.countP fun z => PyData.eqv z y))) else none
    | _, _ => none
  | .startswith => match o, a with
    | .str x, .str y => some (.d (.bool (prefL (cs y) (cs x))))
    | _, _ => none
  | .endswith => match o, a with
    | .str x, .str y => some (.d (.bool (decide ((cs y).length ≤ (cs x).length) && decide ((cs x).drop ((cs x).length - (cs y).length) = cs y))))
    | _, _ => none
  | .tcount => match o, a with
    | .str x, .str y => match cs y with
      | [c] => some (.d (.int ((cs x).count c : Nat)))
      | _ => none
    | _, _ => none
  | .tindex => match o, a with
    | .str x, .str y => match cs y with
      | [c] => if c ∈ cs x then some (.d (.int ((cs x).idxOf c : Nat))) else none
      | _ => none
    | _, _ => none
def cstD : Const → Option D
  | .none => some .none
  | .bool b => some (.bool b)
  | .int i => some (.int i)
  | .str x => some (.str x)
  | _ => none

/-! ### environments -/
def setS (ρ : List Sl) (i : Nat) (x : Sl) : Option (List Sl) := match ρ[i]? with
  | some (.lk _) => none
  | some _ => some (ρ.set i x)
  | none => none
def setsS (ρ : List Sl) : List Nat → List D → Option (List Sl)
  | [], [] => some ρ
  | i :: is, x :: xs => (setS ρ i (.va x)).bind fun ρ' => setsS ρ' is xs
  | _, _ => none
def asgD (t : Tg) (x : D) (ρ : List Sl) : Option (List Sl) := match t with
  | .nm i => setS ρ i (.va x)
  | .tp is => match x with
    | .tuple xs => setsS ρ is xs
    | _ => none
def asgR (t : Tg) (r : R) (ρ : List Sl) : Option (List Sl) := match t with
  | .nm i => match r with
    | .d x => setS ρ i (.va x)
    | .f xs => setS ρ i (.ow xs)
    | .fd kvs => setS ρ i (.od kvs)
    | .b _ => none
    | .bd _ => none
  | .tp is => match r with
    | .d (.tuple xs) => setsS ρ is xs
    | _ => none
/-- a name's own list goes over to another name; the first name is not read again before it is set anew -/
def movR (t : Tg) (e : E) (ρ : List Sl) : Option (List Sl) := match t, e with
  | .nm i, .var j => match ρ[j]? with
    | some (.ow xs) => if i = j then none else (setS ρ i (.ow xs)).map fun ρ' => ρ'.set j .no
    | some (.rd xs) => setS ρ i (.rd xs)
    | some (.od kvs) => if i = j then none else (setS ρ i (.od kvs)).map fun ρ' => ρ'.set j .no
    | _ => none
  | _, _ => none
def asgM (t : Tg) (e : E) (r : R) (ρ : List Sl) : Option (List Sl) := match r with
  | .b _ => movR t e ρ
  | .bd _ => movR t e ρ
  | .d x => asgR t (.d x) ρ
  | .f xs => asgR t (.f xs) ρ
  | .fd kvs => asgR t (.fd kvs) ρ
def plainSl : Option Sl → Bool
  | some .no => true
  | some (.va _) => true
  | some (.rd _) => true
  | some (.rdd _) => true
  | _ => false
def wipeS (ρ : List Sl) : List Nat → Option (List Sl)
  | [] => some ρ
  | i :: is => (wipeS ρ is).bind fun ρ' => if plainSl ρ'[i]? then some (ρ'.set i .no) else none
def shareAll : List R → Option (List D)
  | [] => some []
  | r :: rs => r.share.bind fun x => (shareAll rs).map (x :: ·)
abbrev Phi := Nat → List D → Option R
def lcRun (t : Tg) (ρ : List Sl) (p : List Sl → Option Bool) (f : List Sl → Option R) : List D → Option (List D)
  | [] => some []
  | x :: xs => (asgD t x ρ).bind fun ρ1 => (p ρ1).bind fun b => match b with
    | true => (f ρ1).bind fun r => r.share.bind fun y => (lcRun t ρ p f xs).map (y :: ·)
    | false => lcRun t ρ p f xs
def asB : Option R → Option Bool
  | some (.d (.bool b)) => some b
  | _ => none
def Tg.slots : Tg → List Nat
  | .nm i => [i]
  | .tp is => is
/-- two clauses, the first without a test -/
def lc2Run (t : Tg) (ρ : List Sl) (src : List Sl → Option (List D)) (w : List Nat) (t2 : Tg) (p : List Sl → Option Bool) (f : List Sl → Option R) : List D → Option (List D)
  | [] => some []
  | x :: xs => (asgD t x ρ).bind fun ρ1 => (src ρ1).bind fun ys => (wipeS ρ1 w).bind fun ρ2 => (lcRun t2 ρ2 p f ys).bind fun zs => (lc2Run t ρ src w t2 p f xs).map (zs ++ ·)
/-- all, any stop early -/
def gxRun (stop : Bool) (t : Tg) (ρ : List Sl) (p : List Sl → Option Bool) (f : List Sl → Option R) : List D → Option Bool
  | [] => some (!stop)
  | x :: xs => (asgD t x ρ).bind fun ρ1 => (p ρ1).bind fun b => match b with
    | true => (asB (f ρ1)).bind fun k => if k == stop then some stop else gxRun stop t ρ p f xs
    | false => gxRun stop t ρ p f xs
def rangeL (lo : Int) (n : Nat) : List D := (List.range n).map fun (i : Nat) => .int (lo + i)
def bndOk (i : Int) : Bool := decide (-(2 ^ 62) ≤ i) && decide (i < 2 ^ 62)
def pairL : List D → List D → List D
  | x :: xs, y :: ys => .tuple [x, y] :: pairL xs ys
  | _, _ => []
def enumL (n : Nat) : List D → List D
  | [] => []
  | x :: xs => .tuple [.int (n : Nat), x] :: enumL (n + 1) xs
/-- lo, lo + c, .. before hi -/
def rangeC (lo c : Int) (n : Nat) : List D := (List.range n).map fun (i : Nat) => .int (lo + i * c)

def binR (op : Operator) (x y : R) : Option R := match op, x with
  | .Mult, .d (.list _) => none
  | .Mult, .b _ => none
  | _, _ => binD op x.toD y.toD

/-- x op= y of ints and texts -/
def augR (op : Operator) (x : D) (y : R) : Option D := match op with
  | .Add => match x, y.toD with
    | .int i, .int j => some (.int (i + j))
    | .str a, .str b => if szOk (a.length + b.length) then some (.str (mkS (cs a ++ cs b))) else none
    | _, _ => none
  | .Sub => match x, y.toD with
    | .int i, .int j => some (.int (i - j))
    | _, _ => none
  | .Mult => match x, y.toD with
    | .int i, .int j => if intOk i || intOk j then some (.int (i * j)) else none
    | _, _ => none
  | _ => none
/-- what is walked: a list that a name holds only by that name -/
def itB (a : E) (x : R) : Option (List D) := match x with
  | .b xs => match a with
    | .var _ => some xs
    | _ => none
  | .f xs => some xs
  | .d x => itemsD x
  | .fd _ => none
  | .bd _ => none

/-- the same, of lists alone -/
def itL (a : E) (x : R) : Option (List D) := match x with
  | .d (.list xs) => some xs
  | .d _ => none
  | x => itB a x

/-- zip of two texts, two tuples, two lists -/
def zipB (a : E) (x : R) (b : E) (y : R) : Option (List D) := match x, y with
  | .d (.str s), .d (.str t) => some (pairL ((cs s).map fun c => .str (mkS [c])) ((cs t).map fun c => .str (mkS [c])))
  | .d (.tuple xs), .d (.tuple ys) => some (pairL xs ys)
  | x, y => (itL a x).bind fun xs => (itL b y).map fun ys => pairL xs ys

/-! ### expressions -/
structure Gt where
  /-- the program's defs, by number -/
  fn : List Str
  /-- the module's constants -/
  gl : List (Str × D)
/-- as a value (false) or as a test (true) -/
def fin (m : Bool) (r : Option R) : Option R := match m with
  | false => r
  | true => r.bind fun x => (tru x.toD).map fun b => .d (.bool b)
mutual
def ev (G : Gt) (Φ : Phi) : E → Bool → List Sl → Option R
  | .var i, m, ρ => fin m (match ρ[i]? with
    | some (.va x) => some (.d x)
    | some (.ow xs) => some (.b xs)
    | some (.lk xs) => some (.b xs)
    | some (.rd xs) => some (.b xs)
    | some (.od kvs) => some (.bd kvs)
    | some (.rdd kvs) => some (.bd kvs)
    | _ => none)
  | .cst c, m, _ => fin m ((cstD c).map .d)
  | .glb k, m, _ => fin m ((G.gl[k]?).map fun p => .d p.2)
  | .tup es, m, ρ => fin m ((evs G Φ es ρ).bind fun rs => (shareAll rs).map fun xs => .d (.tuple xs))
  | .lst es, m, ρ => fin m ((evs G Φ es ρ).bind fun rs => (shareAll rs).map fun xs => .f xs)
  | .bin op a b, m, ρ => fin m ((ev G Φ a false ρ).bind fun x => (ev G Φ b false ρ).bind fun y => binR op x y)
  | .neg a, m, ρ => fin m ((ev G Φ a false ρ).bind fun x => match x.toD with
    | .int i => some (.d (.int (-i)))
    | _ => none)
  | .inv a, m, ρ => (asB (ev G Φ a m ρ)).map fun b => .d (.bool (!b))
  | .cmp op a b, m, ρ => (ev G Φ a false ρ).bind fun x => (ev G Φ b false ρ).bind fun y => (cmpD op x.toD y.toD).map fun k => .d (.bool k)
  | .chn op op' a b c, m, ρ => (ev G Φ a false ρ).bind fun x => (ev G Φ b false ρ).bind fun y => (cmpD op x.toD y.toD).bind fun k => match k with
    | true => (ev G Φ c false ρ).bind fun z => (cmpD op' y.toD z.toD).map fun k => .d (.bool k)
    | false => some (.d (.bool false))
  | .and es, m, ρ => andV G Φ es m ρ
  | .or es, m, ρ => orV G Φ es m ρ
  | .ife c a b, m, ρ => match m with
    | true => none
    | false => (asB (ev G Φ c true ρ)).bind fun k => match k with
      | true => ev G Φ a false ρ
      | false => ev G Φ b false ρ
  | .ix a b, m, ρ => fin m ((ev G Φ a false ρ).bind fun x => (ev G Φ b false ρ).bind fun y => (ixD x.toD y.toD).map .d)
  | .sl a lo hi, m, ρ => fin m ((ev G Φ a false ρ).bind fun x => (evo G Φ lo ρ).bind fun l => (evo G Φ hi ρ).bind fun h => slD x.toD l h)
  | .rev a, m, ρ => fin m ((ev G Φ a false ρ).bind fun x => revD x.toD)
  | .call f es, m, ρ => fin m ((evs G Φ es ρ).bind fun rs => (Φ f (rs.map R.toD)).bind fun r => match r with
    | .b _ => none
    | .bd _ => none
    | r => some r)
  | .b1 f a, m, ρ => fin m ((ev G Φ a false ρ).bind fun x => b1D f x.toD)
  | .b2 f a b, m, ρ => fin m ((ev G Φ a false ρ).bind fun x => (ev G Φ b false ρ).bind fun y => b2D f x.toD y.toD)
  | .isi a t, m, ρ => fin m ((ev G Φ a false ρ).map fun x => .d (.bool (isiD t x.toD)))
  | .m1 f o a, m, ρ => fin m ((ev G Φ o false ρ).bind fun x => (ev G Φ a false ρ).bind fun y => m1D f x.toD y.toD)
  | .lc own t it ifs e, m, ρ => fin m ((evIt G Φ it ρ).bind fun xs => (wipeS ρ (own.map (·.2))).bind fun ρ0 => if szOk xs.length then (lcRun t ρ0 (fun ρ => tvs G Φ ifs ρ) (fun ρ => ev G Φ e false ρ) xs).map .f else none)
  | .lc2 own t it t2 it2 ifs e, m, ρ => fin m ((evIt G Φ it ρ).bind fun xs => (wipeS ρ (own.map (·.2))).bind fun ρ0 => (lc2Run t ρ0 (fun ρ => evIt G Φ it2 ρ) t2.slots t2 (fun ρ => tvs G Φ ifs ρ) (fun ρ => ev G Φ e false ρ) xs).bind fun zs => if szOk zs.length then some (.f zs) else none)
  | .gx c own t it ifs e, m, ρ => fin m ((evIt G Φ it ρ).bind fun xs => (wipeS ρ (own.map (·.2))).bind fun ρ0 => match c with
    | .all => (gxRun false t ρ0 (fun ρ => tvs G Φ ifs ρ) (fun ρ => ev G Φ e false ρ) xs).map fun b => .d (.bool b)
    | .any => (gxRun true t ρ0 (fun ρ => tvs G Φ ifs ρ) (fun ρ => ev G Φ e false ρ) xs).map fun b => .d (.bool b)
    | _ => none)
  | .dnew, m, _ => fin m (some (.fd []))
  | .ddp k v, m, ρ => fin m ((ev G Φ k false ρ).bind fun x => (ev G Φ v false ρ).bind fun y => y.share.bind fun z => if isKey x.toD then some (.fd [(x.toD, z)]) else none)
  | .dg1 a k, m, ρ => fin m ((ev G Φ a false ρ).bind fun x => (ev G Φ k false ρ).bind fun y => match x.toD with
    | .dict kvs => if isKey y.toD then some (.d ((lookD kvs y.toD).getD .none)) else none
    | _ => none)
  | .dg2 a k d, m, ρ => fin m ((ev G Φ a false ρ).bind fun x => (ev G Φ k false ρ).bind fun y => (ev G Φ d false ρ).bind fun z => match x.toD with
    | .dict kvs => match z with
      | .d w => if isKey y.toD then some (.d ((lookD kvs y.toD).getD w)) else none
      | _ => none
    | _ => none)
def evs (G : Gt) (Φ : Phi) : Es → List Sl → Option (List R)
  | .nil, _ => some []
  | .cons e es, ρ => (ev G Φ e false ρ).bind fun r => (evs G Φ es ρ).map (r :: ·)
/-- a clause's tests: none or one -/
def tvs (G : Gt) (Φ : Phi) : Es → List Sl → Option Bool
  | .nil, _ => some true
  | .cons e es, ρ => match es with
    | .nil => asB (ev G Φ e true ρ)
    | .cons _ _ => none
def andV (G : Gt) (Φ : Phi) : Es → Bool → List Sl → Option R
  | .nil, _, _ => none
  | .cons e es, m, ρ => match es with
    | .nil => ev G Φ e m ρ
    | .cons a r => (asB (ev G Φ e m ρ)).bind fun b => match b with
      | true => andV G Φ es m ρ
      | false => some (.d (.bool false))
def orV (G : Gt) (Φ : Phi) : Es → Bool → List Sl → Option R
  | .nil, _, _ => none
  | .cons e es, m, ρ => match es with
    | .nil => ev G Φ e m ρ
    | .cons a r => (asB (ev G Φ e m ρ)).bind fun b => match b with
      | true => some (.d (.bool true))
      | false => orV G Φ es m ρ
def evo (G : Gt) (Φ : Phi) : Oe → List Sl → Option (Option Int)
  | .no, _ => some none
  | .so e, ρ => (ev G Φ e false ρ).bind fun x => match x.toD with
    | .int i => some (some i)
    | _ => none
def evIt (G : Gt) (Φ : Phi) : It → List Sl → Option (List D)
  | .e a, ρ => (ev G Φ a false ρ).bind fun x => itB a x
  | .rg1 a, ρ => (ev G Φ a false ρ).bind fun x => match x.toD with
    | .int j => if bndOk j then some (rangeL 0 j.toNat) else none
    | _ => none
  | .rg2 a b, ρ => (ev G Φ a false ρ).bind fun x => (ev G Φ b false ρ).bind fun y => match x.toD, y.toD with
    | .int i, .int j => if bndOk i && bndOk j then some (rangeL i (j - i).toNat) else none
    | _, _ => none
  | .rg3 a b c, ρ => (ev G Φ a false ρ).bind fun x => (ev G Φ b false ρ).bind fun y => (ev G Φ c false ρ).bind fun z => match x.toD, y.toD, z.toD with
    | .int i, .int j, .int k => if decide (k ≠ 0) && decide (k.natAbs < 1073741824) && PySem.Builtin.Range.small i j k then some (rangeC i k (PySem.Builtin.Range.rangeSize i j k).toNat) else none
    | _, _, _ => none
  | .zp a b, ρ => (ev G Φ a false ρ).bind fun x => (ev G Φ b false ρ).bind fun y => zipB a x b y
  | .en a, ρ => (ev G Φ a false ρ).bind fun x => (itL a x).map fun xs => enumL 0 xs
end
/-- a test -/
def tv (G : Gt) (Φ : Phi) (e : E) (ρ : List Sl) : Option Bool := asB (ev G Φ e true ρ)

/-! ### statements -/
inductive Out where
  | next (ρ : List Sl)
  | brk (ρ : List Sl)
  | cnt (ρ : List Sl)
  | ret (r : R)
def It.locks : It → List Nat
  | .e (.var i) => [i]
  | .zp a b => (match a with | .var i => [i] | _ => []) ++ (match b with | .var i => [i] | _ => [])
  | .en (.var i) => [i]
  | _ => []
def lockS : List Nat → List Sl → List Sl
  | [], ρ => ρ
  | i :: is, ρ => match (lockS is ρ)[i]? with
    | some (.ow xs) => (lockS is ρ).set i (.lk xs)
    | _ => lockS is ρ
def isOw : Option Sl → Bool
  | some (.ow _) => true
  | _ => false
def unlockS : List Nat → List Sl → List Sl
  | [], ρ => ρ
  | i :: is, ρ => match (unlockS is ρ)[i]? with
    | some (.lk xs) => (unlockS is ρ).set i (.ow xs)
    | _ => unlockS is ρ
def forRun (step : D → List Sl → Option Out) : List D → List Sl → Option Out
  | [], ρ => some (.next ρ)
  | x :: xs, ρ => (step x ρ).bind fun o => match o with
    | .next ρ' => forRun step xs ρ'
    | .cnt ρ' => forRun step xs ρ'
    | .brk ρ' => some (.next ρ')
    | .ret r => some (.ret r)
def whlRun (test : List Sl → Option Bool) (step : List Sl → Option Out) : Nat → List Sl → Option Out
  | 0, _ => none
  | n + 1, ρ => (test ρ).bind fun b => match b with
    | false => some (.next ρ)
    | true => (step ρ).bind fun o => match o with
      | .next ρ' => whlRun test step n ρ'
      | .cnt ρ' => whlRun test step n ρ'
      | .brk ρ' => some (.next ρ')
      | .ret r => some (.ret r)
/-- what a return gives: a name's own list goes out as new -/
def retR (e : E) (ρ : List Sl) (r : R) : Option R := match r with
  | .b _ => match e with
    | .var i => match ρ[i]? with
      | some (.ow xs) => some (.f xs)
      | some (.lk xs) => some (.f xs)
      | _ => none
    | _ => none
  | .bd _ => match e with
    | .var i => match ρ[i]? with
      | some (.od kvs) => some (.fd kvs)
      | _ => none
    | _ => none
  | r => some r
mutual
def ex (G : Gt) (Φ : Phi) (W : Nat) : S → List Sl → Option Out
  | .skip, ρ => some (.next ρ)
  | .asg t e, ρ => (ev G Φ e false ρ).bind fun r => (asgM t e r ρ).map .next
  | .seti i k e, ρ => (ev G Φ e false ρ).bind fun r => r.share.bind fun x => match ρ[i]? with
    | some (.ow xs) => (ev G Φ k false ρ).bind fun y => match y.toD with
      | .int j => (ixN xs.length j).map fun m => .next (ρ.set i (.ow (xs.set m x)))
      | _ => none
    | some (.od kvs) => (ev G Φ k false ρ).bind fun y => if isKey y.toD && szOk (kvs.length + 1) then some (.next (ρ.set i (.od (putD kvs y.toD x)))) else none
    | _ => none
  | .aug i op e, ρ => match ρ[i]? with
    | some (.va x) => (ev G Φ e false ρ).bind fun y => (augR op x y).map fun z => .next (ρ.set i (.va z))
    | _ => none
  | .app i e, ρ => match ρ[i]? with
    | some (.ow xs) => (ev G Φ e false ρ).bind fun r => r.share.bind fun x => if szOk (xs.length + 1) then some (.next (ρ.set i (.ow (xs ++ [x])))) else none
    | _ => none
  | .ext i e, ρ => match ρ[i]? with
    | some (.ow xs) => (ev G Φ e false ρ).bind fun r => match r.share.getD .none with
      | .list ys => if szOk (xs.length + ys.length) then some (.next (ρ.set i (.ow (xs ++ ys)))) else none
      | _ => none
    | _ => none
  | .rem i e, ρ => match ρ[i]? with
    | some (.ow xs) => (ev G Φ e false ρ).bind fun r => if okD r.toD && okD (.list xs) then (findD r.toD xs).map fun k => .next (ρ.set i (.ow (xs.eraseIdx k))) else none
    | _ => none
  | .ite c a b, ρ => (tv G Φ c ρ).bind fun k => match k with
    | true => exs G Φ W a ρ
    | false => exs G Φ W b ρ
  | .loop t it b, ρ => (evIt G Φ it ρ).bind fun xs => (forRun (fun x ρ => (asgD t x ρ).bind fun ρ' => exs G Φ W b ρ') xs (lockS it.locks ρ)).map fun o => match o with
    | .next ρ' => .next (unlockS (it.locks.filter fun i => isOw ρ[i]?) ρ')
    | o => o
  | .whl c b, ρ => whlRun (fun ρ => tv G Φ c ρ) (fun ρ => exs G Φ W b ρ) W ρ
  | .ret e, ρ => (ev G Φ e false ρ).bind fun r => (retR e ρ r).map .ret
  | .retN, _ => some (.ret (.d .none))
  | .brk, ρ => some (.brk ρ)
  | .cnt, ρ => some (.cnt ρ)
def exs (G : Gt) (Φ : Phi) (W : Nat) : Ss → List Sl → Option Out
  | .nil, ρ => some (.next ρ)
  | .cons s ss, ρ => (ex G Φ W s ρ).bind fun o => match o with
    | .next ρ' => exs G Φ W ss ρ'
    | o => some o
end

/-! ### the program -/
structure Fn where
  np : Nat
  nl : Nat
  body : Ss
def argS : D → Sl
  | .list xs => .rd xs
  | .dict kvs => .rdd kvs
  | x => .va x
def entry (np nl : Nat) (ds : List D) : List Sl := ds.map argS ++ List.replicate (nl - np) Sl.no
def outR : Option Out → Option R
  | some (.ret r) => some r
  | some (.next _) => some (.d .none)
  | _ => none
def call (G : Gt) (T : List Fn) (W : Nat) : Nat → Phi
  | 0, _, _ => none
  | n + 1, f, ds => match T[f]? with
    | some fn => if ds.length = fn.np then outR (exs G (call G T W n) W fn.body (entry fn.np fn.nl ds)) else none
    | none => none
end WM

/-! ## part C: the operators and built-ins keep their word -/
namespace WM
open PySem PySem.Spec PyProof.Rows L2

/-- a value that is used up: data, a list by its items -/
def Cv (K : Frag) (O : Msk) (H : Hp) (v : V) : D → Prop
  | .list xs => ∃ a vs, v = .ref a ∧ Rd H a (.lst vs) ∧ DqAll K (frz H O) vs xs
  | .dict kvs => ∃ a o, v = .ref a ∧ Rd H a o ∧ Dk K (frz H O) o kvs
  | d => Dq K (frz H O) v d
section
variable {K : Frag} {O : Msk} {H0 H H' : Hp} {v : V} {r : R} {d : D}
theorem Rv.cv (h : Rv K O H0 H v r) : Cv K O H v r.toD := by
  cases r with
  | d x =>
    cases x with
    | list xs =>
      have h : Dq K (frz H O) v (.list xs) := h
      cases h with
      | lst s a => exact ⟨_, _, rfl, .inl (Ext.unfrz.keep _ _ s rfl), a⟩
    | dict kvs => exact (by have h : Dq K (frz H O) v (.dict kvs) := h; cases h)
    | _ => exact h
  | f xs => exact h.items rfl
  | b xs => exact h.items rfl
  | fd kvs => exact h.dict rfl
  | bd kvs => exact h.dict rfl
/-- a result that is used up -/
def Uv (K : Frag) (O : Msk) (H : Hp) (v : V) : R → Prop
  | .d x => Dq K (frz H O) v x
  | .f xs => ∃ a vs, v = .ref a ∧ H a = some (.lst vs) ∧ DqAll K (frz H O) vs xs
  | .b xs => ∃ a vs, v = .ref a ∧ Rd H a (.lst vs) ∧ DqAll K (frz H O) vs xs
  | .fd kvs => ∃ a o, v = .ref a ∧ H a = some o ∧ Dk K (frz H O) o kvs
  | .bd kvs => ∃ a o, v = .ref a ∧ Rd H a o ∧ Dk K (frz H O) o kvs
theorem Rv.uv (h : Rv K O H0 H v r) : Uv K O H v r := by
  cases r with
  | d x => exact h
  | f xs =>
    obtain ⟨a, vs, h0, h1, h2, h3⟩ := h
    exact ⟨a, vs, h0, h2, dpMonoAll (frz_sub fun b o _ c => .inl c) _ _ h3⟩
  | b xs => exact h
  | fd kvs =>
    obtain ⟨a, o, h0, h1, h2, h3⟩ := h
    exact ⟨a, o, h0, h2, h3.mono (frz_sub fun b o _ c => .inl c)⟩
  | bd kvs => exact h
theorem Uv.mono (h : Uv K O H v r) (e : Ext H H') : Uv K O H' v r := by
  cases r with
  | d x => exact dpMono e.frz _ _ h
  | f xs =>
    obtain ⟨a, vs, h0, h2, h3⟩ := h
    exact ⟨a, vs, h0, e.keep _ _ h2 rfl, dpMonoAll e.frz _ _ h3⟩
  | b xs =>
    obtain ⟨a, vs, h0, h2, h3⟩ := h
    exact ⟨a, vs, h0, e.rd rfl h2, dpMonoAll e.frz _ _ h3⟩
  | fd kvs =>
    obtain ⟨a, o, h0, h2, h3⟩ := h
    exact ⟨a, o, h0, e.keep _ _ h2 h3.tb, h3.mono e.frz⟩
  | bd kvs =>
    obtain ⟨a, o, h0, h2, h3⟩ := h
    exact ⟨a, o, h0, e.rd h3.tb h2, h3.mono e.frz⟩
theorem Uv.cv (h : Uv K O H v r) : Cv K O H v r.toD := by
  cases r with
  | d x =>
    cases x with
    | list xs =>
      have h : Dq K (frz H O) v (.list xs) := h
      cases h with
      | lst s a => exact ⟨_, _, rfl, .inl (Ext.unfrz.keep _ _ s rfl), a⟩
    | dict kvs => exact (by have h : Dq K (frz H O) v (.dict kvs) := h; cases h)
    | _ => exact h
  | f xs =>
    obtain ⟨a, vs, h0, h2, h3⟩ := h
    exact ⟨a, vs, h0, .inl h2, h3⟩
  | b xs => exact h
  | fd kvs =>
    obtain ⟨a, o, h0, h2, h3⟩ := h
    exact ⟨a, o, h0, .inl h2, h3⟩
  | bd kvs => exact h
theorem Cv.mono (h : Cv K O H v d) (e : Ext H H') : Cv K O H' v d := by
  cases d with
  | list xs =>
    obtain ⟨a, vs, h1, h2, h3⟩ := h
    exact ⟨a, vs, h1, e.rd rfl h2, dpMonoAll e.frz _ _ h3⟩
  | dict kvs =>
    obtain ⟨a, o, h1, h2, h3⟩ := h
    exact ⟨a, o, h1, e.rd h3.tb h2, h3.mono e.frz⟩
  | _ => exact dpMono e.frz _ _ h
theorem Cv.int {i : Int} (h : Cv K O H v (.int i)) : v = .int i := by
  have h : Dq K (frz H O) v (.int i) := h
  cases h; rfl
theorem Cv.strZ {x : Str} (h : Cv K O H v (.str x)) : v = .str x ∧ x.length ≤ 16777216 := by
  have h : Dq K (frz H O) v (.str x) := h
  cases h with
  | str _ z => exact ⟨rfl, z⟩
theorem Cv.str {x : Str} (h : Cv K O H v (.str x)) : v = .str x := by
  have h : Dq K (frz H O) v (.str x) := h
  cases h; rfl
theorem Cv.bool {b : Bool} (h : Cv K O H v (.bool b)) : v = .bl b := by
  have h : Dq K (frz H O) v (.bool b) := h
  cases h; rfl
theorem Cv.tup {xs : List D} (h : Cv K O H v (.tuple xs)) : ∃ a vs, v = .ref a ∧ SqT K H a vs ∧ DqAll K (frz H O) vs xs := by
  have h : Dq K (frz H O) v (.tuple xs) := h
  cases h with
  | tup s a => exact ⟨_, _, rfl, Ext.unfrz.sqT s, a⟩
theorem Cv.tupT {xs : List D} (h : Cv K O H v (.tuple xs)) : ∃ a vs, v = .ref a ∧ SqT K (frz H O) a vs ∧ DqAll K (frz H O) vs xs := by
  have h : Dq K (frz H O) v (.tuple xs) := h
  cases h with
  | tup s a => exact ⟨_, _, rfl, s, a⟩
theorem Cv.dct {kvs : List (D × D)} (h : Cv K O H v (.dict kvs)) : ∃ a o, v = .ref a ∧ Rd H a o ∧ Dk K (frz H O) o kvs := h
theorem Cv.lst {xs : List D} (h : Cv K O H v (.list xs)) : ∃ a vs, v = .ref a ∧ Rd H a (.lst vs) ∧ DqAll K (frz H O) vs xs := h
end

section
variable {X : Cx} {pins : List (Addr × Obj)} {σ : L2.St} {H : Hp} {s : Shared}
mutual
theorem dqReads (I : Inv X pins σ H s) : ∀ (d : D) (v : V) (u : Value), Dq X.K H v d → RelV v u → ∃ as, Reads s.heap u d as
  | .none, _, _, h, r => by
    cases h; cases r
    exact ⟨_, Reads.none⟩
  | .bool b, _, _, h, r => by
    cases h; cases r
    exact ⟨_, Reads.bool b⟩
  | .int i, _, _, h, r => by
    cases h
    obtain ⟨t, rfl⟩ := r
    exact ⟨_, Reads.int i t⟩
  | .str x, _, _, h, r => by
    cases h
    obtain ⟨t, rfl⟩ := r
    exact ⟨_, Reads.str x t⟩
  | .list ds, _, _, h, r => by
    cases h with
    | lst hs ha =>
      cases r
      obtain ⟨its, rv, ⟨o, n, ho, hc, _, hd⟩, _⟩ := I.list (.inl (.inl hs))
      obtain ⟨as, hr⟩ := dqReadsAll I ds _ its ha rv
      exact ⟨_, Reads.list ho hc hd hr⟩
  | .tuple ds, _, _, h, r => by
    cases h with
    | tup hs ha =>
      cases r
      obtain ⟨its, rv, ⟨o, ho, hc, n, hd⟩, _⟩ := I.tuple hs
      obtain ⟨as, hr⟩ := dqReadsAll I ds _ its ha rv
      exact ⟨_, Reads.tuple ho hc hd hr⟩
  | .dict _, _, _, h, _ => by cases h
theorem dqReadsAll (I : Inv X pins σ H s) : ∀ (ds : List D) (vs : List V) (us : List Value), DqAll X.K H vs ds → Vals vs us → ∃ as, ReadsAll s.heap us ds as
  | [], _, _, h, r => by
    cases h; cases r
    exact ⟨_, ReadsAll.nil⟩
  | d :: ds, _, _, h, r => by
    cases h with
    | cons h1 h2 =>
      cases r with
      | cons r1 r2 =>
        obtain ⟨as, q1⟩ := dqReads I d _ _ h1 r1
        obtain ⟨bs, q2⟩ := dqReadsAll I ds _ _ h2 r2
        exact ⟨_, ReadsAll.cons q1 q2⟩
end
theorem cvReads (I : Inv X pins σ H s) {O : Msk} {d : D} {v : V} {u : Value} (h : Cv X.K O H v d) (r : RelV v u) (hk : okD d = true) : ∃ as, Reads s.heap u d as := by
  cases d with
  | dict kvs => cases hk
  | list ds =>
    obtain ⟨a, vs, rfl, hs, ha⟩ := h
    cases r
    obtain ⟨its, rv, ⟨o, n, ho, hc, _, hd⟩, _⟩ := I.list (.inl hs)
    obtain ⟨as, hr⟩ := dqReadsAll I ds _ its (dpMonoAll Ext.unfrz _ _ ha) rv
    exact ⟨_, Reads.list ho hc hd hr⟩
  | _ => exact dqReads I _ _ _ (dpMono Ext.unfrz _ _ h) r
/-- a list's own object -/
theorem lstObj (I : Inv X pins σ H s) {a : Addr} {xs : List V} (h : Rd H a (.lst xs)) : xs.length ≤ sizeLine ∧ ∃ (its : List Value) (n : Nat), Vals xs its ∧ xs.length = its.length ∧ s.heap.get? a = some { cls := .type "list", data := .seq its.toArray n } := by
  obtain ⟨z, its, n, r, e⟩ := h.ok I.hok
  exact ⟨z, its, n, r, r.length, e⟩
end

/-! ### depth and plainness -/
mutual
theorem okN_plain : ∀ (n : Nat) (d : D), okN n d = true → d.plain = true ∧ d.depth ≤ n
  | _, .none, _ => by simp [PyData.plain, PyData.depth]
  | _, .bool _, _ => by simp [PyData.plain, PyData.depth]
  | _, .int _, _ => by simp [PyData.plain, PyData.depth]
  | _, .str _, _ => by simp [PyData.plain, PyData.depth]
  | n, .dict _, h => by cases n <;> simp [okN] at h
  | 0, .list _, h => by simp [okN] at h
  | 0, .tuple _, h => by simp [okN] at h
  | n + 1, .list xs, h => by
    have := okN_plainAll n xs (by simpa [okN] using h)
    simp only [PyData.plain, PyData.depth]
    exact ⟨this.1, by omega⟩
  | n + 1, .tuple xs, h => by
    have := okN_plainAll n xs (by simpa [okN] using h)
    simp only [PyData.plain, PyData.depth]
    exact ⟨this.1, by omega⟩
theorem okN_plainAll : ∀ (n : Nat) (xs : List D), (∀ x ∈ xs, okN n x = true) → PyData.plainAll xs = true ∧ PyData.depthAll xs ≤ n
  | _, [], _ => by simp [PyData.plainAll, PyData.depthAll]
  | n, x :: xs, h => by
    have h1 := okN_plain n x (h x List.mem_cons_self)
    have h2 := okN_plainAll n xs fun y hy => h y (List.mem_cons_of_mem _ hy)
    simp only [PyData.plainAll, PyData.depthAll, Bool.and_eq_true]
    exact ⟨⟨h1.1, h2.1⟩, by omega⟩
end

/-! ### the rules, by data -/
theorem szOk_le {n : Nat} (h : szOk n = true) : n ≤ sizeLine := by
  rw [sizeLine_eq]
  exact of_decide_eq_true h
abbrev Dom (O : Msk) (H : Hp) : Prop := ∀ b, O b → ∃ o, H b = some o
def rB (K : Frag) (g : R → R → Option R) : R2 := fun x y H Q => ∃ (O : Msk) (a b : R) (r : R), Uv K O H x a ∧ Uv K O H y b ∧ Dom O H ∧ g a b = some r ∧ ∀ v H', Ext H H' → Rv K O H H' v r → Q v H'
def rC1 (K : Frag) (g : D → Option R) : List V → Hp → VK → Prop := fun vs H Q => ∃ (O : Msk) (x : V) (a : D) (r : R), vs = [x] ∧ Cv K O H x a ∧ Dom O H ∧ g a = some r ∧ ∀ v H', Ext H H' → Rv K O H H' v r → Q v H'
def rC2 (K : Frag) (g : D → D → Option R) : List V → Hp → VK → Prop := fun vs H Q => ∃ (O : Msk) (x y : V) (a b : D) (r : R), vs = [x, y] ∧ Cv K O H x a ∧ Cv K O H y b ∧ Dom O H ∧ g a b = some r ∧ ∀ v H', Ext H H' → Rv K O H H' v r → Q v H'
section
variable {K : Frag} {O : Msk} {H : Hp} {Q : VK}
theorem giveInt {i : Int} (q : ∀ v H', Ext H H' → Rv K O H H' v (.d (.int i)) → Q v H') : Q (.int i) H := q _ _ (Ext.refl _) (Dq.int i)
theorem giveBl {i : Bool} (q : ∀ v H', Ext H H' → Rv K O H H' v (.d (.bool i)) → Q v H') : Q (.bl i) H := q _ _ (Ext.refl _) (Dq.bl i)
theorem giveStr {i : Str} (hz : i.length ≤ 16777216) (q : ∀ v H', Ext H H' → Rv K O H H' v (.d (.str i)) → Q v H') : Q (.str i) H := q _ _ (Ext.refl _) (Dq.str i hz)
/-- a list just laid -/
theorem giveLst {vs : List V} {xs : List D} (q : ∀ v H', Ext H H' → Rv K O H H' v (.f xs) → Q v H') (h : DqAll K (frz H O) vs xs) : ∀ p, H p = none → Q (.ref p) (upd H p (.lst vs)) := fun p hp => by
  refine q _ _ (Ext.upd hp) ⟨p, vs, rfl, hp, upd_same, dpMonoAll (Ext.of fun b o e => ?_) _ _ h⟩
  obtain ⟨c, e⟩ := frz_of e
  have ne : b ≠ p := ne_of_none e hp
  refine frz_mk (fun z => ?_) (by rw [upd_ne ne]; exact e)
  rcases z with z | z
  · exact c z
  · exact ne z
theorem giveTup {vs : List V} {xs : List D} (hO : Dom O H) (q : ∀ v H', Ext H H' → Rv K O H H' v (.d (.tuple xs)) → Q v H') (h : DqAll K (frz H O) vs xs) : ∀ p, H p = none → Q (.ref p) (upd H p (.tup vs)) := fun p hp => by
  refine q _ _ (Ext.upd hp) (Dq.tup (.inl (.inl (frz_mk (fun z => ?_) upd_same))) (dpMonoAll (Ext.upd hp).frz _ _ h))
  obtain ⟨o, z⟩ := hO p z
  rw [hp] at z; cases z
end
theorem cutL_dq {K : Frag} {H : Hp} {vs : List V} {xs : List D} (h : DqAll K H vs xs) (lo hi : Option Int) : DqAll K H (cutV vs lo hi) (cutL xs lo hi) := by
  unfold cutV cutL
  rw [DqAll.len h]
  exact DqAll.take _ (DqAll.drop _ h)
theorem dqRep {K : Frag} {H : Hp} {vs : List V} {xs : List D} (h : DqAll K H vs xs) : ∀ k : Nat, DqAll K H (List.replicate k vs).flatten (List.replicate k xs).flatten
  | 0 => .nil
  | k + 1 => by
    rw [List.replicate_succ, List.replicate_succ, List.flatten_cons, List.flatten_cons]
    exact DqAll.append h (dqRep h k)
section
variable {X : Cx}
theorem opAdd : OpR X (binaryOp .Add) (rB X.K (binR .Add)) := by
  intro pins s σ H x y v u Q I rx ry ⟨O, ra, rb, r, ha, hb, hO, hg, q⟩
  have ha := ha.cv
  have hb := hb.cv
  simp only [binR, binD] at hg
  generalize ra.toD = a at ha hg
  generalize rb.toD = b at hb hg
  split at hg
  · cases hg
    cases ha.int; cases hb.int
    exact op_add pins s σ H _ _ v u Q I rx ry ⟨_, _, rfl, rfl, giveInt q⟩
  · split at hg
    · rename_i hz
      cases hg
      cases ha.str; cases hb.str
      refine op_add_str pins s σ H _ _ v u Q I rx ry ⟨_, _, rfl, rfl, szOk_le hz, ?_⟩
      rw [append_mkS]
      exact giveStr (by rw [length_mkS, List.length_append, length_cs, length_cs]; exact of_decide_eq_true hz) q
    · cases hg
  · split at hg
    · rename_i hz
      cases hg
      obtain ⟨p1, vs1, rfl, s1, d1⟩ := ha.tupT
      obtain ⟨p2, vs2, rfl, s2, d2⟩ := hb.tupT
      have z := szOk_le hz
      rw [← DqAll.len d1, ← DqAll.len d2] at z
      refine op_catA pins s σ H _ _ v u Q I rx ry ⟨p1, p2, vs1, vs2, rfl, rfl, Ext.unfrz.sqT s1, Ext.unfrz.sqT s2, z, fun e => ?_, fun _ e => ?_, fun _ _ => giveTup hO q (DqAll.append d1 d2)⟩
      · subst e
        cases d1
        exact q _ _ (Ext.refl _) (Dq.tup s2 d2)
      · subst e
        cases d2
        exact q _ _ (Ext.refl _) (Dq.tup s1 (by simpa using d1))
    · cases hg
  · split at hg
    · rename_i hz
      cases hg
      obtain ⟨p1, vs1, rfl, s1, d1⟩ := ha.lst
      obtain ⟨p2, vs2, rfl, s2, d2⟩ := hb.lst
      have z := szOk_le hz
      rw [← DqAll.len d1, ← DqAll.len d2] at z
      cases rx; cases ry
      obtain ⟨z1, its, n, r1, hl, e⟩ := lstObj I s1
      obtain ⟨z2, its2, n2, r2, hl2, e2⟩ := lstObj I s2
      refine PySem.P.add_list e e2 ?_ (by rw [List.size_toArray, List.size_toArray]; omega)
      have ea : its.toArray ++ its2.toArray = (its ++ its2).toArray := by simp
      rw [ea]
      exact ⟨.ref _, _, I.lnew (t' := s.toks) (r1.append r2) (by rw [List.length_append]; omega), rfl, giveLst q (DqAll.append d1 d2) _ I.fresh⟩
    · cases hg
  · cases hg
theorem opSub : OpR X (binaryOp .Sub) (rB X.K (binR .Sub)) := by
  intro pins s σ H x y v u Q I rx ry ⟨O, ra, rb, r, ha, hb, hO, hg, q⟩
  have ha := ha.cv
  have hb := hb.cv
  simp only [binR, binD] at hg
  generalize ra.toD = a at ha hg
  generalize rb.toD = b at hb hg
  split at hg
  · cases hg
    cases ha.int; cases hb.int
    exact op_sub pins s σ H _ _ v u Q I rx ry ⟨_, _, rfl, rfl, giveInt q⟩
  · cases hg
theorem opFdiv : OpR X (binaryOp .FloorDiv) (rB X.K (binR .FloorDiv)) := by
  intro pins s σ H x y v u Q I rx ry ⟨O, ra, rb, r, ha, hb, hO, hg, q⟩
  have ha := ha.cv
  have hb := hb.cv
  simp only [binR, binD] at hg
  generalize ra.toD = a at ha hg
  generalize rb.toD = b at hb hg
  split at hg
  · split at hg
    · rename_i hz
      cases hg
      cases ha.int; cases hb.int
      simp only [Bool.and_eq_true, decide_eq_true_eq] at hz
      exact op_fdiv pins s σ H _ _ v u Q I rx ry ⟨_, _, rfl, rfl, hz, giveInt q⟩
    · cases hg
  · cases hg
theorem opMod : OpR X (binaryOp .Mod) (rB X.K (binR .Mod)) := by
  intro pins s σ H x y v u Q I rx ry ⟨O, ra, rb, r, ha, hb, hO, hg, q⟩
  have ha := ha.cv
  have hb := hb.cv
  simp only [binR, binD] at hg
  generalize ra.toD = a at ha hg
  generalize rb.toD = b at hb hg
  split at hg
  · split at hg
    · rename_i hz
      cases hg
      cases ha.int; cases hb.int
      exact op_mod pins s σ H _ _ v u Q I rx ry ⟨_, _, rfl, rfl, by simpa using hz, giveInt q⟩
    · cases hg
  · cases hg
theorem opPow : OpR X (binaryOp .Pow) (rB X.K (binR .Pow)) := by
  intro pins s σ H x y v u Q I rx ry ⟨O, ra, rb, r, ha, hb, hO, hg, q⟩
  have ha := ha.cv
  have hb := hb.cv
  simp only [binR, binD] at hg
  generalize ra.toD = a at ha hg
  generalize rb.toD = b at hb hg
  split at hg
  · split at hg
    · rename_i hz
      cases hg
      cases ha.int; cases hb.int
      simp only [Bool.and_eq_true, decide_eq_true_eq] at hz
      exact op_pow pins s σ H _ _ v u Q I rx ry ⟨_, _, rfl, rfl, ⟨hz.1.1, hz.1.2, hz.2⟩, giveInt q⟩
    · cases hg
  · cases hg
end

/-! ### products, comparisons -/
theorem txtMul (x : Str) (k : Int) : Txt.mul x k = mkS (List.replicate k.toNat (cs x)).flatten := by
  have f0 : ∀ (m : Nat) (acc : Array Nat), (List.foldl (fun a b => a ++ b) acc (List.replicate m x.cps)).toList = acc.toList ++ (List.replicate m x.cps.toList).flatten := by
    intro m
    induction m with
    | zero => intro acc; simp
    | succ m ih =>
      intro acc
      rw [List.replicate_succ, List.replicate_succ, List.foldl_cons, ih, List.flatten_cons, Array.toList_append, List.append_assoc]
  unfold Txt.mul
  split
  · have : k.toNat = 0 := by omega
    rw [this]; rfl
  · split
    · rename_i h1 h2
      simp only [Bool.or_eq_true, beq_iff_eq] at h2
      rcases h2 with h2 | h2
      · subst h2
        show x = mkS (List.replicate 1 (cs x)).flatten
        simp [mkS_cs]
      · have hx : cs x = [] := by
          have := length_cs x
          rw [h2] at this
          exact List.eq_nil_of_length_eq_zero this
        rw [hx]
        have : (List.replicate k.toNat ([] : List Nat)).flatten = [] := by
          generalize k.toNat = m
          induction m with
          | zero => rfl
          | succ m ih => rw [List.replicate_succ, List.flatten_cons, ih]; rfl
        rw [this, ← mkS_cs x, hx]
    · refine cs_inj ?_
      rw [cs_mkS]
      show (List.foldl (fun a b => a ++ b) #[] (List.replicate k.toNat x.cps)).toList = _
      rw [f0]
      simp [cs]
theorem mulOk {x : Str} {k : Int} (h1 : k < 2 ^ 62) (h2 : -(2 ^ 62) < k) (hz : x.length * k.toNat ≤ sizeLine) : MulOk x k := by
  have e := sizeLine_eq
  refine ⟨?_, fun hk hc => ?_, fun hk hc => ?_⟩
  · rw [decide_eq_false (by omega), decide_eq_false (by omega)]; rfl
  · have hx : (x.length : Int) * k ≤ 16777216 := by
      have : ((x.length * k.toNat : Nat) : Int) ≤ 16777216 := by omega
      rw [Int.natCast_mul, Int.toNat_of_nonneg (by omega)] at this
      exact this
    have hk0 : 0 < k := by omega
    intro hgt
    have h3 : (2 ^ 63 - 1) / k < (x.length : Int) := hgt
    rw [Int.ediv_lt_iff_lt_mul hk0] at h3
    omega
  · unfold PySem.Builtin.Str.tooLong
    simp only [decide_eq_false_iff_not]
    omega
section
variable {X : Cx}
theorem intOk_iff {i : Int} (h : intOk i = true) : -(2 ^ 64) < i ∧ i < 2 ^ 64 := by
  simpa [intOk] using h
theorem opMul : OpR X (binaryOp .Mult) (rB X.K (binR .Mult)) := by
  intro pins s σ H x y v u Q I rx ry ⟨O, ra, rb, r, ha, hb, hO, hg, q⟩
  have hb := hb.cv
  simp only [binR] at hg
  split at hg
  · cases hg
  · cases hg
  · rename_i ra0 op0 x2 nl nb
    simp only [binD] at hg
    split at hg
    · rename_i i j e1 e2
      have ha := ha.cv
      rw [e1] at ha
      rw [e2] at hb
      split at hg
      · rename_i hz
        cases hg
        cases ha.int; cases hb.int
        refine op_mul pins s σ H _ _ v u Q I rx ry ⟨_, _, rfl, rfl, ?_, giveInt q⟩
        simp only [Bool.or_eq_true] at hz
        rcases hz with hz | hz
        · exact .inl (intOk_iff hz)
        · exact .inr (intOk_iff hz)
      · cases hg
    · rename_i z k e1 e2
      have ha := ha.cv
      rw [e1] at ha
      rw [e2] at hb
      split at hg
      · rename_i hz
        cases hg
        cases ha.str; cases hb.int
        simp only [Bool.and_eq_true, decide_eq_true_eq] at hz
        obtain ⟨t, rfl⟩ := rx
        obtain ⟨t', rfl⟩ := ry
        refine SB.mul (mulOk hz.1.2 hz.2 (szOk_le hz.1.1)) fun t2 k => ?_
        rw [txtMul]
        exact ⟨.str _, H, I.tok _, ⟨_, rfl⟩, giveStr (by
          rw [length_mkS, List.length_flatten, List.map_replicate, List.sum_replicate_nat, length_cs, Nat.mul_comm]
          exact of_decide_eq_true hz.1.1) q⟩
      · cases hg
    · rename_i xs k e1 e2
      rw [e2] at hb
      split at hg
      · rename_i hz
        cases hg
        cases hb.int
        simp only [Bool.and_eq_true, decide_eq_true_eq] at hz
        cases ra0 with
        | d z =>
          have e1 : z = .list xs := e1
          exact (nl xs rfl (by rw [e1])).elim
        | b z => exact (nb z rfl rfl).elim
        | fd z => cases e1
        | bd z => cases e1
        | f z =>
          cases e1
          obtain ⟨p1, vs1, rfl, s1, d1⟩ := ha
          exact op_rep pins s σ H _ _ v u Q I rx ry ⟨p1, _, vs1, rfl, rfl, s1, by omega, by omega, by rw [DqAll.len d1]; exact szOk_le hz.1.1, giveLst q (dqRep d1 _)⟩
      · cases hg
    · rename_i xs k e1 e2
      have ha := ha.cv
      rw [e1] at ha
      rw [e2] at hb
      split at hg
      · rename_i hz
        cases hg
        obtain ⟨p1, vs1, rfl, s1, d1⟩ := ha.tup
        cases hb.int
        simp only [Bool.and_eq_true, decide_eq_true_eq, Bool.not_eq_true'] at hz
        refine op_repT pins s σ H _ _ v u Q I rx ry ⟨p1, _, vs1, rfl, rfl, s1, ?_, hz.1.2, hz.2, by rw [DqAll.len d1]; exact hz.1.1.2, giveTup hO q (dqRep d1 _)⟩
        rintro rfl
        cases d1
        simp at hz
      · cases hg
    · cases hg
end
section
variable {X : Cx} {pins : List (Addr × Obj)} {σ : L2.St} {H : Hp} {s : Shared} {O : Msk} {x y : V} {v u : Value} {a b : D}
theorem okD_iff {d : D} (h : okD d = true) : d.plain = true ∧ d.depth ≤ 60 := okN_plain 60 d h
theorem opEq {n : Nat} (hr : Room n X.A) : OpR X (compareOp .Eq) (rB X.K fun a b => (cmpD .Eq a.toD b.toD).map fun k => .d (.bool k)) := by
  intro pins s σ H x y v u Q I rx ry ⟨O, ra, rb, r, ha, hb, hO, hg, q⟩
  have ha := ha.cv
  have hb := hb.cv
  dsimp only at hg
  generalize ra.toD = a at ha hg
  generalize rb.toD = b at hb hg
  simp only [cmpD] at hg
  split at hg
  · rename_i hk
    cases hg
    simp only [Bool.and_eq_true] at hk
    obtain ⟨as, r1⟩ := cvReads I ha rx hk.1
    obtain ⟨bs, r2⟩ := cvReads I hb ry hk.2
    have k1 := okD_iff hk.1
    have k2 := okD_iff hk.2
    have hu := hr.units
    exact PySem.SeqAt.eq_plain r1 r2 k1.1 k2.1 (by omega) ⟨.bl _, H, I, rfl, giveBl q⟩
  · cases hg
theorem opNe {n : Nat} (hr : Room n X.A) : OpR X (compareOp .NotEq) (rB X.K fun a b => (cmpD .NotEq a.toD b.toD).map fun k => .d (.bool k)) := by
  intro pins s σ H x y v u Q I rx ry ⟨O, ra, rb, r, ha, hb, hO, hg, q⟩
  have ha := ha.cv
  have hb := hb.cv
  dsimp only at hg
  generalize ra.toD = a at ha hg
  generalize rb.toD = b at hb hg
  simp only [cmpD] at hg
  split at hg
  · rename_i hk
    cases hg
    simp only [Bool.and_eq_true] at hk
    obtain ⟨as, r1⟩ := cvReads I ha rx hk.1
    obtain ⟨bs, r2⟩ := cvReads I hb ry hk.2
    have k1 := okD_iff hk.1
    have k2 := okD_iff hk.2
    have hu := hr.units
    exact PySem.SeqAt.ne_plain r1 r2 k1.1 k2.1 (by omega) ⟨.bl _, H, I, rfl, giveBl q⟩
  · cases hg
theorem notNone {d : D} (h : (!isNone d) = true) : d ≠ .none := by
  rintro rfl
  cases h
theorem opLt {n : Nat} (hr : Room n X.A) : OpR X (compareOp .Lt) (rB X.K fun a b => (cmpD .Lt a.toD b.toD).map fun k => .d (.bool k)) := by
  intro pins s σ H x y v u Q I rx ry ⟨O, ra, rb, r, ha, hb, hO, hg, q⟩
  have ha := ha.cv
  have hb := hb.cv
  dsimp only at hg
  generalize ra.toD = a at ha hg
  generalize rb.toD = b at hb hg
  simp only [cmpD] at hg
  split at hg
  · rename_i hk
    cases hg
    simp only [Bool.and_eq_true] at hk
    obtain ⟨as, r1⟩ := cvReads I ha rx hk.1.1.1
    obtain ⟨bs, r2⟩ := cvReads I hb ry hk.1.1.2
    have k1 := okD_iff hk.1.1.1
    have hu := hr.units
    exact PySem.W.lt_data r1 r2 hk.1.2 (notNone hk.2) (by omega) ⟨.bl _, H, I, rfl, giveBl q⟩
  · cases hg
theorem opGt {n : Nat} (hr : Room n X.A) : OpR X (compareOp .Gt) (rB X.K fun a b => (cmpD .Gt a.toD b.toD).map fun k => .d (.bool k)) := by
  intro pins s σ H x y v u Q I rx ry ⟨O, ra, rb, r, ha, hb, hO, hg, q⟩
  have ha := ha.cv
  have hb := hb.cv
  dsimp only at hg
  generalize ra.toD = a at ha hg
  generalize rb.toD = b at hb hg
  simp only [cmpD] at hg
  split at hg
  · rename_i hk
    cases hg
    simp only [Bool.and_eq_true] at hk
    obtain ⟨as, r1⟩ := cvReads I ha rx hk.1.1.1
    obtain ⟨bs, r2⟩ := cvReads I hb ry hk.1.1.2
    have k1 := okD_iff hk.1.1.1
    have hu := hr.units
    exact PySem.W.gt_data r1 r2 hk.1.2 (notNone hk.2) (by omega) ⟨.bl _, H, I, rfl, giveBl q⟩
  · cases hg
theorem opLe {n : Nat} (hr : Room n X.A) : OpR X (compareOp .LtE) (rB X.K fun a b => (cmpD .LtE a.toD b.toD).map fun k => .d (.bool k)) := by
  intro pins s σ H x y v u Q I rx ry ⟨O, ra, rb, r, ha, hb, hO, hg, q⟩
  have ha := ha.cv
  have hb := hb.cv
  dsimp only at hg
  generalize ra.toD = a at ha hg
  generalize rb.toD = b at hb hg
  simp only [cmpD] at hg
  split at hg
  · rename_i hk
    cases hg
    simp only [Bool.and_eq_true] at hk
    obtain ⟨as, r1⟩ := cvReads I ha rx hk.1.1.1
    obtain ⟨bs, r2⟩ := cvReads I hb ry hk.1.1.2
    have k1 := okD_iff hk.1.1.1
    have hu := hr.units
    exact PySem.W.le_data r1 r2 hk.1.2 (notNone hk.2) (by omega) ⟨.bl _, H, I, rfl, giveBl q⟩
  · cases hg
theorem opGe {n : Nat} (hr : Room n X.A) : OpR X (compareOp .GtE) (rB X.K fun a b => (cmpD .GtE a.toD b.toD).map fun k => .d (.bool k)) := by
  intro pins s σ H x y v u Q I rx ry ⟨O, ra, rb, r, ha, hb, hO, hg, q⟩
  have ha := ha.cv
  have hb := hb.cv
  dsimp only at hg
  generalize ra.toD = a at ha hg
  generalize rb.toD = b at hb hg
  simp only [cmpD] at hg
  split at hg
  · rename_i hk
    cases hg
    simp only [Bool.and_eq_true] at hk
    obtain ⟨as, r1⟩ := cvReads I ha rx hk.1.1.1
    obtain ⟨bs, r2⟩ := cvReads I hb ry hk.1.1.2
    have k1 := okD_iff hk.1.1.1
    have hu := hr.units
    exact PySem.W.ge_data r1 r2 hk.1.2 (notNone hk.2) (by omega) ⟨.bl _, H, I, rfl, giveBl q⟩
  · cases hg
theorem isNone_iff {K : Frag} {O : Msk} {H : Hp} {v : V} {d : D} (h : Cv K O H v d) : isNone d = decide (v = .non) := by
  cases d with
  | list xs =>
    obtain ⟨a, vs, rfl, _⟩ := h
    rfl
  | dict kvs =>
    obtain ⟨a, vs, rfl, _⟩ := h
    rfl
  | _ =>
    have h : Dq K (frz H O) v _ := h
    cases h <;> rfl
theorem opIs : OpR X (compareOp .Is) (rB X.K fun a b => (cmpD .Is a.toD b.toD).map fun k => .d (.bool k)) := by
  intro pins s σ H x y v u Q I rx ry ⟨O, ra, rb, r, ha, hb, hO, hg, q⟩
  have ha := ha.cv
  have hb := hb.cv
  dsimp only at hg
  generalize ra.toD = a at ha hg
  generalize rb.toD = b at hb hg
  simp only [cmpD] at hg
  split at hg
  · rename_i hk
    cases hg
    rw [isNone_iff hb] at hk
    rw [isNone_iff ha] at q
    exact op_isN pins s σ H x y v u Q I rx ry ⟨of_decide_eq_true hk, giveBl q⟩
  · cases hg
theorem opIsNot : OpR X (compareOp .IsNot) (rB X.K fun a b => (cmpD .IsNot a.toD b.toD).map fun k => .d (.bool k)) := by
  intro pins s σ H x y v u Q I rx ry ⟨O, ra, rb, r, ha, hb, hO, hg, q⟩
  have ha := ha.cv
  have hb := hb.cv
  dsimp only at hg
  generalize ra.toD = a at ha hg
  generalize rb.toD = b at hb hg
  simp only [cmpD] at hg
  split at hg
  · rename_i hk
    cases hg
    rw [isNone_iff hb] at hk
    rw [isNone_iff ha] at q
    exact op_notN pins s σ H x y v u Q I rx ry ⟨of_decide_eq_true hk, giveBl q⟩
  · cases hg
theorem one_cs {c : Str} {k : Nat} (h : cs c = [k]) : c = ⟨#[k]⟩ := cs_inj h
theorem found_sub (x y : Str) : (!(Builtin.Str.occurrences x y 0 x.length 1).isEmpty) = isSub (cs y) (cs x) := by
  refine Bool.eq_iff_iff.mpr ?_
  rw [PySem.StrLaws.found_iff]
  unfold isSub
  rw [List.any_eq_true]
  have lx : (cs x).length = x.length := length_cs x
  have ly : (cs y).length = y.length := length_cs y
  constructor
  · rintro ⟨i, h1, h2⟩
    rw [PySem.StrLaws.subAt_eq] at h2
    refine ⟨i, List.mem_range.mpr (by omega), decide_eq_true ?_⟩
    rw [ly]
    exact eq_of_beq h2
  · rintro ⟨i, h1, h2⟩
    have h2 := of_decide_eq_true h2
    have h1 := List.mem_range.mp h1
    have hl := congrArg List.length h2
    rw [List.length_take, List.length_drop] at hl
    refine ⟨i, by omega, ?_⟩
    rw [PySem.StrLaws.subAt_eq]
    rw [ly] at h2
    exact beq_iff_eq.mpr h2
/-! ### dicts -/
section
variable {K : Frag} {F : Hp}
theorem key_eqv {a b : L2.Key} {p q : D} (h1 : Dq K F (L2.kV a) p) (h2 : Dq K F (L2.kV b) q) : PyData.eqv p q = decide (a = b) := by
  cases a with
  | inl i =>
    have h1 : Dq K F (.int i) p := h1
    cases h1
    cases b with
    | inl j =>
      have h2 : Dq K F (.int j) q := h2
      cases h2
      show (i == j) = _
      exact Bool.eq_iff_iff.mpr (by simp)
    | inr y =>
      have h2 : Dq K F (.str y) q := h2
      cases h2
      simp [PyData.eqv]
  | inr x =>
    have h1 : Dq K F (.str x) p := h1
    cases h1
    cases b with
    | inl j =>
      have h2 : Dq K F (.int j) q := h2
      cases h2
      simp [PyData.eqv]
    | inr y =>
      have h2 : Dq K F (.str y) q := h2
      cases h2
      show (x == y) = _
      exact Bool.eq_iff_iff.mpr (by simp)
theorem key_of_d {v : V} {d : D} (h : Dq K F v d) (hk : isKey d = true) : ∃ k : L2.Key, v = L2.kV k := by
  cases d <;> first | (cases hk; done) | (cases h; exact ⟨.inl _, rfl⟩) | (cases h; exact ⟨.inr _, rfl⟩)
theorem dk_look {ks : List (L2.Key × V)} {kvs : List (D × D)} (h : DkAll K F ks kvs) {k : L2.Key} {d : D} (hk : Dq K F (L2.kV k) d) : (L2.valV ks k = none ∧ lookD kvs d = none) ∨ ∃ v e, L2.valV ks k = some v ∧ lookD kvs d = some e ∧ Dq K F v e := by
  induction h with
  | nil => exact .inl ⟨rfl, rfl⟩
  | @cons k0 v0 d0 e0 ks0 kvs0 h1 h2 h3 ih =>
    have e := key_eqv h1 hk
    by_cases c : k0 = k
    · refine .inr ⟨v0, e0, L2.valV_pos c, ?_, h2⟩
      rw [decide_eq_true c] at e
      unfold lookD
      rw [List.find?_cons_of_pos (p := fun p : D × D => PyData.eqv p.1 d) (a := (d0, e0)) e]; rfl
    · rw [decide_eq_false c] at e
      rw [L2.valV_neg (p := (k0, v0)) c]
      have : lookD ((d0, e0) :: kvs0) d = lookD kvs0 d := by
        unfold lookD
        rw [List.find?_cons_of_neg (p := fun p : D × D => PyData.eqv p.1 d) (a := (d0, e0)) (by show ¬ PyData.eqv d0 d = true; rw [e]; exact Bool.false_ne_true)]
      rw [this]
      exact ih
theorem dk_some {ks : List (L2.Key × V)} {kvs : List (D × D)} (h : DkAll K F ks kvs) {k : L2.Key} {d e : D} (hk : Dq K F (L2.kV k) d) (hl : lookD kvs d = some e) : ∃ v, L2.valV ks k = some v ∧ Dq K F v e := by
  rcases dk_look h hk with ⟨_, h2⟩ | ⟨v, e', h1, h2, h3⟩
  · rw [hl] at h2; cases h2
  · rw [hl] at h2; cases h2
    exact ⟨v, h1, h3⟩
theorem dk_isSome {ks : List (L2.Key × V)} {kvs : List (D × D)} (h : DkAll K F ks kvs) {k : L2.Key} {d : D} (hk : Dq K F (L2.kV k) d) : (L2.valV ks k).isSome = (lookD kvs d).isSome := by
  rcases dk_look h hk with ⟨h1, h2⟩ | ⟨v, e', h1, h2, h3⟩
  · rw [h1, h2]; rfl
  · rw [h1, h2]; rfl
theorem dk_getD {ks : List (L2.Key × V)} {kvs : List (D × D)} (h : DkAll K F ks kvs) {k : L2.Key} {d w : D} {z : V} (hk : Dq K F (L2.kV k) d) (hz : Dq K F z w) : Dq K F ((L2.valV ks k).getD z) ((lookD kvs d).getD w) := by
  rcases dk_look h hk with ⟨h1, h2⟩ | ⟨v, e', h1, h2, h3⟩
  · rw [h1, h2]; exact hz
  · rw [h1, h2]; exact h3
theorem dk_len {ks : List (L2.Key × V)} {kvs : List (D × D)} (h : DkAll K F ks kvs) : ks.length = kvs.length := by
  induction h with
  | nil => rfl
  | cons _ _ _ ih => rw [List.length_cons, List.length_cons, ih]
theorem dk_put {ks : List (L2.Key × V)} {kvs : List (D × D)} (h : DkAll K F ks kvs) {k : L2.Key} {d w : D} {z : V} (hk : Dq K F (L2.kV k) d) (hz : Dq K F z w) : DkAll K F (L2.putK ks k z) (putD kvs d w) := by
  have hany : (ks.any fun kv => decide (kv.1 = k)) = kvs.any fun p => PyData.eqv p.1 d := by
    induction h with
    | nil => rfl
    | cons h1 h2 h3 ih => rw [List.any_cons, List.any_cons, ih, key_eqv h1 hk]
  unfold L2.putK putD
  rw [hany]
  split
  · have rep : ∀ {ks : List (L2.Key × V)} {kvs : List (D × D)}, DkAll K F ks kvs → DkAll K F (ks.map fun kv => if kv.1 = k then (kv.1, z) else kv) (kvs.map fun p => if PyData.eqv p.1 d = true then (p.1, w) else p) := fun h => by
      induction h with
      | nil => exact .nil
      | @cons k0 v0 d0 e0 ks0 kvs0 h1 h2 h3 ih =>
        rw [List.map_cons, List.map_cons]
        have e := key_eqv h1 hk
        by_cases c : k0 = k
        · rw [decide_eq_true c] at e
          rw [if_pos (show (k0, v0).1 = k from c), if_pos (show PyData.eqv (d0, e0).1 d = true from e)]
          exact .cons h1 hz ih
        · rw [decide_eq_false c] at e
          rw [if_neg (show ¬ (k0, v0).1 = k from c), if_neg (show ¬ PyData.eqv (d0, e0).1 d = true by rw [show PyData.eqv (d0, e0).1 d = false from e]; exact Bool.false_ne_true)]
          exact .cons h1 h2 ih
    exact rep h
  · have app : ∀ {ks : List (L2.Key × V)} {kvs : List (D × D)}, DkAll K F ks kvs → DkAll K F (ks ++ [(k, z)]) (kvs ++ [(d, w)]) := fun h => by
      induction h with
      | nil => exact .cons hk hz .nil
      | cons h1 h2 h3 ih => exact .cons h1 h2 ih
    exact app h
end
/-- the key of a lookup -/
theorem dgetOf {K : Frag} {O : Msk} {H : Hp} {x y : V} {kvs : List (D × D)} {d : D} (hd : Cv K O H y (.dict kvs)) (hx : Cv K O H x d) (hk : isKey d = true) : ∃ (p : Addr) (ks : List (L2.Key × V)) (k : L2.Key), y = .ref p ∧ x = L2.kV k ∧ Rd H p (.dK ks) ∧ DkAll K (frz H O) ks kvs ∧ Dq K (frz H O) (L2.kV k) d ∧ L2.DGet H p (L2.kV k) (L2.valV ks k) := by
  obtain ⟨p, o, rfl, hr, ks, rfl, ha⟩ := hd.dct
  have hx : Dq K (frz H O) x d := by
    cases d <;> first | (cases hk; done) | exact hx
  obtain ⟨k, rfl⟩ := key_of_d hx hk
  exact ⟨p, ks, k, rfl, rfl, hr, ha, hx, .inl ⟨ks, k, hr, rfl, rfl⟩⟩
theorem opIn {n : Nat} (hr : Room n X.A) : OpR X (compareOp .In) (rB X.K fun a b => (cmpD .In a.toD b.toD).map fun k => .d (.bool k)) := by
  intro pins s σ H x y v u Q I rx ry ⟨O, ra, rb, r, ha, hb, hO, hg, q⟩
  have ha := ha.cv
  have hb := hb.cv
  dsimp only at hg
  generalize ra.toD = a at ha hg
  generalize rb.toD = b at hb hg
  have hu := hr.units
  simp only [cmpD] at hg
  split at hg
  · split at hg
    · rename_i hk
      cases hg
      simp only [Bool.and_eq_true] at hk
      obtain ⟨as, r1⟩ := cvReads I ha rx hk.1
      obtain ⟨bs, r2⟩ := cvReads I hb ry hk.2
      have k1 := okD_iff hk.1
      have k2 := okD_iff hk.2
      simp only [PyData.plain, PyData.depth] at k2
      exact PySem.SeqAt.in_list_data r2 r1 k2.1 k1.1 (by omega) ⟨.bl _, H, I, rfl, giveBl q⟩
    · cases hg
  · split at hg
    · rename_i hk
      cases hg
      simp only [Bool.and_eq_true] at hk
      obtain ⟨as, r1⟩ := cvReads I ha rx hk.1
      obtain ⟨bs, r2⟩ := cvReads I hb ry hk.2
      have k1 := okD_iff hk.1
      have k2 := okD_iff hk.2
      simp only [PyData.plain, PyData.depth] at k2
      exact PySem.SeqAt.in_tuple_data r2 r1 k2.1 k1.1 (by omega) ⟨.bl _, H, I, rfl, giveBl q⟩
    · cases hg
  · split at hg
    · split at hg
      · rename_i k hk
        cases hg
        have e := one_cs hk
        subst e
        cases ha.str; cases hb.str
        exact op_in_sign pins s σ H _ _ v u Q I rx ry ⟨_, _, rfl, rfl, giveBl q⟩
      · cases hg
        cases ha.str; cases hb.str
        rw [← found_sub] at q
        exact op_in_str pins s σ H _ _ v u Q I rx ry ⟨_, _, rfl, rfl, giveBl q⟩
    · cases hg
  · rename_i kvs
    by_cases hk : isKey a = true
    · rw [if_pos hk] at hg
      cases hg
      obtain ⟨p, ks, k, rfl, rfl, hr', hd, hx, g⟩ := dgetOf hb ha hk
      cases ry
      refine L2.d_in (by omega) I g rx fun s' I' => ?_
      rw [dk_isSome hd hx]
      exact ⟨.bl _, H, I', rfl, giveBl q⟩
    · rw [if_neg hk] at hg
      cases hg
  · cases hg
theorem opNotIn {n : Nat} (hr : Room n X.A) : OpR X (compareOp .NotIn) (rB X.K fun a b => (cmpD .NotIn a.toD b.toD).map fun k => .d (.bool k)) := by
  intro pins s σ H x y v u Q I rx ry ⟨O, ra, rb, r, ha, hb, hO, hg, q⟩
  have ha := ha.cv
  have hb := hb.cv
  dsimp only at hg
  generalize ra.toD = a at ha hg
  generalize rb.toD = b at hb hg
  have hu := hr.units
  simp only [cmpD] at hg
  split at hg
  · split at hg
    · rename_i hk
      cases hg
      simp only [Bool.and_eq_true] at hk
      obtain ⟨as, r1⟩ := cvReads I ha rx hk.1
      obtain ⟨bs, r2⟩ := cvReads I hb ry hk.2
      have k1 := okD_iff hk.1
      have k2 := okD_iff hk.2
      simp only [PyData.plain, PyData.depth] at k2
      exact PySem.SeqAt.notIn_list_data r2 r1 k2.1 k1.1 (by omega) ⟨.bl _, H, I, rfl, giveBl q⟩
    · cases hg
  · split at hg
    · rename_i hk
      cases hg
      simp only [Bool.and_eq_true] at hk
      obtain ⟨as, r1⟩ := cvReads I ha rx hk.1
      obtain ⟨bs, r2⟩ := cvReads I hb ry hk.2
      have k1 := okD_iff hk.1
      have k2 := okD_iff hk.2
      simp only [PyData.plain, PyData.depth] at k2
      exact PySem.SeqAt.notIn_tuple_data r2 r1 k2.1 k1.1 (by omega) ⟨.bl _, H, I, rfl, giveBl q⟩
    · cases hg
  · split at hg
    · split at hg
      · rename_i k hk
        cases hg
        have e := one_cs hk
        subst e
        cases ha.str; cases hb.str
        exact op_notIn_sign pins s σ H _ _ v u Q I rx ry ⟨_, _, rfl, rfl, giveBl q⟩
      · cases hg
        cases ha.str; cases hb.str
        rw [← found_sub] at q
        exact op_notin_str pins s σ H _ _ v u Q I rx ry ⟨_, _, rfl, rfl, giveBl q⟩
    · cases hg
  · rename_i kvs
    by_cases hk : isKey a = true
    · rw [if_pos hk] at hg
      cases hg
      obtain ⟨p, ks, k, rfl, rfl, hr', hd, hx, g⟩ := dgetOf hb ha hk
      cases ry
      refine L2.d_notIn (by omega) I g rx fun s' I' => ?_
      rw [dk_isSome hd hx]
      exact ⟨.bl _, H, I', rfl, giveBl q⟩
    · rw [if_neg hk] at hg
      cases hg
  · cases hg
theorem opCmp {n : Nat} (hr : Room n X.A) : ∀ op, OpR X (compareOp op) (rB X.K fun a b => (cmpD op a.toD b.toD).map fun k => .d (.bool k))
  | .Eq => opEq hr
  | .NotEq => opNe hr
  | .Lt => opLt hr
  | .Gt => opGt hr
  | .LtE => opLe hr
  | .GtE => opGe hr
  | .Is => opIs
  | .IsNot => opIsNot
  | .In => opIn hr
  | .NotIn => opNotIn hr
end
end WM

/-! ## part D: subscripts, built-ins, methods -/
namespace WM
open PySem PySem.Spec PyProof.Rows L2

def rU1 (K : Frag) (g : R → Option R) : V → Hp → VK → Prop := fun x H Q => ∃ (O : Msk) (a : R) (r : R), Uv K O H x a ∧ Dom O H ∧ g a = some r ∧ ∀ v H', Ext H H' → Rv K O H H' v r → Q v H'
def rL1 (K : Frag) (g : R → Option R) : List V → Hp → VK → Prop := fun vs H Q => ∃ x, vs = [x] ∧ rU1 K g x H Q
def rL2 (K : Frag) (g : R → R → Option R) : List V → Hp → VK → Prop := fun vs H Q => ∃ x y, vs = [x, y] ∧ rB K g x y H Q
theorem atI_dq {K : Frag} {H : Hp} {vs : List V} {ds : List D} {i : Int} {d : D} (h : DqAll K H vs ds) (e : atI ds i = some d) : ∃ v, atI vs i = some v ∧ Dq K H v d := by
  unfold atI at e ⊢
  rw [DqAll.len h]
  cases q : ixN ds.length i with
  | none => rw [q] at e; cases e
  | some j =>
    rw [q] at e
    exact DqAll.get h e
/-- an item out of what is not masked -/
theorem giveD {K : Frag} {O : Msk} {H : Hp} {Q : VK} {v : V} {d : D} (q : ∀ v H', Ext H H' → Rv K O H H' v (.d d) → Q v H') (h : Dq K (frz H O) v d) : Q v H := q _ _ (Ext.refl _) h
section
variable {X : Cx}
theorem ixOk {n : Nat} (hr : Room n X.A) : IxR X (rB X.K fun a b => (ixD a.toD b.toD).map .d) := by
  intro value slice pins s σ H x y v u Q I rx ry ⟨O, ra, rb, r, ha, hb, hO, hg, q⟩ hs
  have ha := ha.cv
  have hb := hb.cv
  dsimp only at hg
  generalize ra.toD = a at ha hg
  generalize rb.toD = b at hb hg
  cases e : ixD a b with
  | none => rw [e] at hg; cases hg
  | some d =>
    rw [e] at hg
    cases hg
    unfold ixD at e
    split at e
    · obtain ⟨p, vs, rfl, s1, d1⟩ := ha.lst
      cases hb.int
      obtain ⟨w, h1, h2⟩ := atI_dq d1 e
      exact ix_list value slice pins s σ H _ _ v u Q I rx ry ⟨p, vs, _, w, rfl, rfl, .inl s1, h1, giveD q h2⟩ hs
    · obtain ⟨p, vs, rfl, s1, d1⟩ := ha.tup
      cases hb.int
      obtain ⟨w, h1, h2⟩ := atI_dq d1 e
      exact ix_tup value slice pins s σ H _ _ v u Q I rx ry ⟨p, vs, _, w, rfl, rfl, s1, h1, giveD q h2⟩ hs
    · rename_i z i
      obtain ⟨rfl, hz⟩ := ha.strZ
      cases hb.int
      cases e2 : atI (cs z) i with
      | none => rw [e2] at e; cases e
      | some c =>
        rw [e2] at e
        cases e
        exact ix_str value slice pins s σ H _ _ v u Q I rx ry ⟨z, i, c, rfl, rfl, by rw [sizeLine_eq]; exact hz, e2, giveStr (show (1 : Nat) ≤ 16777216 by decide) q⟩ hs
    · rename_i kvs
      split at e
      · rename_i hk
        obtain ⟨p, ks, k, rfl, rfl, hr', hd', hx, g⟩ := dgetOf ha hb hk
        obtain ⟨w, hw, dw⟩ := dk_some hd' hx e
        rw [hw] at g
        cases rx
        exact tail_any (L2.dict_typeIs I g) PySem.F.slot_dict_getitem.lookup (L2.d_getItem (by have := hr.units; omega) I g ry fun w' s' I' r' => ⟨w, H, I', r', giveD q dw⟩) hs
      · cases e
    · cases e
theorem cutS_cut (z : Str) (lo hi : Option Int) : cutS z lo hi = mkS (cutL (cs z) lo hi) := by
  unfold cutS mkS cutL
  rw [length_cs]
  rfl
theorem cutL_all {α : Type} (xs : List α) (lo hi : Option Int) (h : HT.sIx xs.length 0 lo = 0 ∧ HT.sIx xs.length xs.length hi = xs.length) : cutL xs lo hi = xs := by
  unfold cutL
  rw [h.1, h.2]
  simp
theorem slOk : SlR X (fun x lo hi H Q => rU1 X.K (fun a => slD a.toD lo hi) x H Q) := by
  intro pins s σ H x v vl vu lo hi sl Q I rx hs pl pu ⟨O, ra, r, ha, hO, hg, q⟩
  have ha := ha.cv
  dsimp only at hg
  generalize ra.toD = a at ha hg
  unfold slD at hg
  split at hg
  · cases hg
    obtain ⟨p, vs, rfl, s1, d1⟩ := ha.lst
    exact sl_list pins s σ H _ v vl vu lo hi sl Q I rx hs pl pu ⟨p, vs, rfl, .inl s1, giveLst q (cutL_dq d1 lo hi)⟩
  · cases hg
    obtain ⟨p, vs, rfl, s1, d1⟩ := ha.tupT
    refine sl_tupA pins s σ H _ v vl vu lo hi sl Q I rx hs pl pu ⟨p, vs, rfl, Ext.unfrz.sqT s1, fun hw => ?_, fun _ => giveTup hO q (cutL_dq d1 lo hi)⟩
    rw [DqAll.len d1] at hw
    rw [cutL_all _ _ _ hw] at q
    exact q _ _ (Ext.refl _) (Dq.tup s1 d1)
  · rename_i z
    cases hg
    obtain ⟨rfl, hz⟩ := ha.strZ
    refine sl_str pins s σ H _ v vl vu lo hi sl Q I rx hs pl pu ⟨z, rfl, by rw [sizeLine_eq]; exact hz, ?_⟩
    rw [cutS_cut]
    refine giveStr ?_ q
    rw [length_mkS]
    unfold cutL
    rw [List.length_take, List.length_drop, length_cs]
    omega
  · cases hg
/-! ### truth -/
theorem tru_v {K : Frag} {O : Msk} {H : Hp} {x : V} {a : D} {k : Bool} (h : Cv K O H x a) (e : tru a = some k) : TruV K x H k := by
  cases a with
  | none =>
    have h : Dq K (frz H O) x .none := h
    cases h
    cases e
    rfl
  | bool b => cases h.bool; cases e; rfl
  | int i => cases h.int; cases e; rfl
  | str z =>
    obtain ⟨rfl, hz⟩ := h.strZ
    simp only [tru] at e
    cases e
    refine ⟨by rw [sizeLine_eq]; exact hz, ?_⟩
    rw [Bool.eq_iff_iff]
    simp
  | list xs =>
    obtain ⟨p, vs, rfl, s1, d1⟩ := h.lst
    cases e
    refine .inl ⟨vs, .inl s1, ?_⟩
    have := DqAll.len d1
    cases vs <;> cases xs <;> simp_all
  | tuple xs =>
    obtain ⟨p, vs, rfl, s1, d1⟩ := h.tup
    cases e
    refine .inr (.inl ⟨vs, s1, ?_⟩)
    have := DqAll.len d1
    cases vs <;> cases xs <;> simp_all
  | dict _ => cases e
/-! ### built-ins -/
theorem bLen : CallR X (.builtin "len") (rL1 X.K fun a => b1D .len a.toD) := by
  intro pins s σ H xs us Q I rs ⟨x, hx, O, ra, r, ha, hO, hg, q⟩
  subst hx
  have ha := ha.cv
  dsimp only at hg
  generalize ra.toD = a at ha hg
  simp only [b1D] at hg
  split at hg
  · cases hg
    obtain ⟨p, vs, rfl, s1, d1⟩ := ha.lst
    rw [← DqAll.len d1] at q
    exact call_len_seq pins s σ H _ us Q I rs ⟨p, vs, rfl, .inl (.inl s1), giveInt q⟩
  · cases hg
    obtain ⟨p, vs, rfl, s1, d1⟩ := ha.tup
    rw [← DqAll.len d1] at q
    exact call_len_seq pins s σ H _ us Q I rs ⟨p, vs, rfl, .inr s1, giveInt q⟩
  · rename_i z
    cases hg
    obtain ⟨rfl, hz⟩ := ha.strZ
    exact call_len_str pins s σ H _ us Q I rs ⟨z, rfl, by rw [sizeLine_eq]; exact hz, giveInt q⟩
  · rename_i kvs
    cases hg
    obtain ⟨p, o, rfl, hr, ks, rfl, hd⟩ := ha.dct
    obtain ⟨u, rfl, ru⟩ := vals1 rs
    cases ru
    refine L2.d_len I hr fun t s' I' => ⟨.int ks.length, H, I', ⟨_, rfl⟩, ?_⟩
    rw [dk_len hd]
    exact giveInt q
  · cases hg
theorem bTuple : CallR X (.type "tuple") (rL1 X.K fun a => b1D .tuple a.toD) := by
  intro pins s σ H xs us Q I rs ⟨x, hx, O, ra, r, ha, hO, hg, q⟩
  subst hx
  have ha := ha.cv
  dsimp only at hg
  generalize ra.toD = a at ha hg
  simp only [b1D] at hg
  split at hg
  · cases hg
    obtain ⟨p, vs, rfl, s1, d1⟩ := ha.lst
    exact call_tuple_of pins s σ H _ us Q I rs ⟨p, vs, rfl, .inl ⟨.inl s1, giveTup hO q d1⟩⟩
  · cases hg
    obtain ⟨p, vs, rfl, s1, d1⟩ := ha.tupT
    exact call_tuple_of pins s σ H _ us Q I rs ⟨p, vs, rfl, .inr ⟨Ext.unfrz.sqT s1, q _ _ (Ext.refl _) (Dq.tup s1 d1)⟩⟩
  · cases hg
theorem bAbs : CallR X (.builtin "abs") (rL1 X.K fun a => b1D .abs a.toD) := by
  intro pins s σ H xs us Q I rs ⟨x, hx, O, ra, r, ha, hO, hg, q⟩
  subst hx
  have ha := ha.cv
  dsimp only at hg
  generalize ra.toD = a at ha hg
  simp only [b1D] at hg
  split at hg
  · cases hg
    cases ha.int
    exact call_abs pins s σ H _ us Q I rs ⟨_, rfl, giveInt q⟩
  · cases hg
theorem bInt : CallR X (.type "int") (rL1 X.K fun a => b1D .int a.toD) := by
  intro pins s σ H xs us Q I rs ⟨x, hx, O, ra, r, ha, hO, hg, q⟩
  subst hx
  have ha := ha.cv
  dsimp only at hg
  generalize ra.toD = a at ha hg
  simp only [b1D] at hg
  split at hg
  · cases hg
    cases ha.int
    exact call_int1 pins s σ H _ us Q I rs (.inl ⟨_, rfl, giveInt q⟩)
  · cases hg
theorem intsOf_eq {K : Frag} {H : Hp} : ∀ {xs : List D} {vs : List V} {is : List Int}, DqAll K H vs xs → intsOf xs = some is → vs = is.map V.int
  | [], _, _, h, e => by cases h; cases e; rfl
  | .int i :: xs, _, _, h, e => by
    cases h with
    | cons h1 h2 =>
      cases h1
      simp only [intsOf] at e
      cases q : intsOf xs with
      | none => rw [q] at e; cases e
      | some is => rw [q] at e; cases e; rw [intsOf_eq h2 q]; rfl
  | .none :: _, _, _, _, e => by cases e
  | .bool _ :: _, _, _, _, e => by cases e
  | .str _ :: _, _, _, _, e => by cases e
  | .list _ :: _, _, _, _, e => by cases e
  | .tuple _ :: _, _, _, _, e => by cases e
  | .dict _ :: _, _, _, _, e => by cases e
theorem boolsOf_eq {K : Frag} {H : Hp} : ∀ {xs : List D} {vs : List V} {is : List Bool}, DqAll K H vs xs → boolsOf xs = some is → vs = is.map V.bl
  | [], _, _, h, e => by cases h; cases e; rfl
  | .bool i :: xs, _, _, h, e => by
    cases h with
    | cons h1 h2 =>
      cases h1
      simp only [boolsOf] at e
      cases q : boolsOf xs with
      | none => rw [q] at e; cases e
      | some is => rw [q] at e; cases e; rw [boolsOf_eq h2 q]; rfl
  | .none :: _, _, _, _, e => by cases e
  | .int _ :: _, _, _, _, e => by cases e
  | .str _ :: _, _, _, _, e => by cases e
  | .list _ :: _, _, _, _, e => by cases e
  | .tuple _ :: _, _, _, _, e => by cases e
  | .dict _ :: _, _, _, _, e => by cases e
theorem strsOf_eq {K : Frag} {H : Hp} : ∀ {xs : List D} {vs : List V} {is : List (List Nat)}, DqAll K H vs xs → strsOf xs = some is → vs = (is.map mkS).map V.str
  | [], _, _, h, e => by cases h; cases e; rfl
  | .str i :: xs, _, _, h, e => by
    cases h with
    | cons h1 h2 =>
      cases h1
      simp only [strsOf] at e
      cases q : strsOf xs with
      | none => rw [q] at e; cases e
      | some is =>
        rw [q] at e
        cases e
        rw [strsOf_eq h2 q]
        simp only [List.map_cons, mkS_cs]
  | .none :: _, _, _, _, e => by cases e
  | .int _ :: _, _, _, _, e => by cases e
  | .bool _ :: _, _, _, _, e => by cases e
  | .list _ :: _, _, _, _, e => by cases e
  | .tuple _ :: _, _, _, _, e => by cases e
  | .dict _ :: _, _, _, _, e => by cases e
theorem bSum (hc : X.calm = true) : CallR X (.builtin "sum") (rL1 X.K fun a => b1D .sum a.toD) := by
  intro pins s σ H xs us Q I rs ⟨x, hx, O, ra, r, ha, hO, hg, q⟩
  subst hx
  have ha := ha.cv
  dsimp only at hg
  generalize ra.toD = a at ha hg
  simp only [b1D] at hg
  split at hg
  · rename_i xs
    obtain ⟨p, vs, rfl, s1, d1⟩ := ha.lst
    cases e : intsOf xs with
    | none => rw [e] at hg; cases hg
    | some is =>
      rw [e] at hg
      cases hg
      have e2 := intsOf_eq d1 e
      subst e2
      exact cr_sum hc pins s σ H _ us Q I rs ⟨p, is, rfl, .inl s1, giveInt q⟩
  · cases hg
theorem bAll (hc : X.calm = true) : CallR X (.builtin "all") (rL1 X.K fun a => b1D .all a.toD) := by
  intro pins s σ H xs us Q I rs ⟨x, hx, O, ra, r, ha, hO, hg, q⟩
  subst hx
  have ha := ha.cv
  dsimp only at hg
  generalize ra.toD = a at ha hg
  simp only [b1D] at hg
  split at hg
  · rename_i xs
    obtain ⟨p, vs, rfl, s1, d1⟩ := ha.lst
    cases e : boolsOf xs with
    | none => rw [e] at hg; cases hg
    | some is =>
      rw [e] at hg
      cases hg
      have e2 := boolsOf_eq d1 e
      subst e2
      exact cr_all hc pins s σ H _ us Q I rs ⟨p, is, rfl, .inl s1, giveBl q⟩
  · cases hg
theorem bAny (hc : X.calm = true) : CallR X (.builtin "any") (rL1 X.K fun a => b1D .any a.toD) := by
  intro pins s σ H xs us Q I rs ⟨x, hx, O, ra, r, ha, hO, hg, q⟩
  subst hx
  have ha := ha.cv
  dsimp only at hg
  generalize ra.toD = a at ha hg
  simp only [b1D] at hg
  split at hg
  · rename_i xs
    obtain ⟨p, vs, rfl, s1, d1⟩ := ha.lst
    cases e : boolsOf xs with
    | none => rw [e] at hg; cases hg
    | some is =>
      rw [e] at hg
      cases hg
      have e2 := boolsOf_eq d1 e
      subst e2
      exact cr_any hc pins s σ H _ us Q I rs ⟨p, is, rfl, .inl s1, giveBl q⟩
  · cases hg
/-! ### two arguments -/
theorem bMax2 (hc : X.calm = true) : CallR X (.builtin "max") (rL2 X.K fun a b => b2D .max2 a.toD b.toD) := by
  intro pins s σ H xs us Q I rs ⟨x, y, hx, O, ra, rb, r, ha, hb, hO, hg, q⟩
  subst hx
  have ha := ha.cv
  have hb := hb.cv
  dsimp only at hg
  generalize ra.toD = a at ha hg
  generalize rb.toD = b at hb hg
  simp only [b2D] at hg
  split at hg <;> cases hg
  cases ha.int; cases hb.int
  exact call_max2 hc pins s σ H _ us Q I rs ⟨_, _, rfl, giveInt q⟩
section
variable {prog : Program} {w : World} {A : Around} {E : Value → Shared → Prop} {s : Shared}
def txAt (xs : Array (Str × Tok)) (i : Nat) : Str := (xs[i]?.map (·.1)).getD Str.empty
theorem cmp_txs {P : Nat → Value → Prop} (val : Nat → Str) (hval : ∀ i v, P i v → ∃ t, v = .str (val i) t) :
    CmpOf prog w A .Lt P (fun i j => decide ((val i).cps.toList < (val j).cps.toList)) := fun i j vi vj s Q E hi hj h => by
  obtain ⟨t, rfl⟩ := hval i vi hi
  obtain ⟨u, rfl⟩ := hval j vj hj
  exact richCompare_gives (op := .Lt) (typeIs_str s _ t) (typeIs_str s _ u) F.slot_str_lt F.entry_str_lt (F.args_str_lt_2 _ _) (gives_str_lt _ _ t u) (fun x => nomatch x) h
theorem min_two_txs {a b : Str} {t u : Tok} {Q : Value → Shared → Prop} (hh : A.handled = none)
    (h : ∀ h' tk, (∀ c o, s.heap.get? c = some o → h'.get? c = some o) → Q (if decide (cs b < cs a) = true then .str b u else .str a t) { s with heap := h', toks := tk }) :
    wpAny (model prog w) A (PySem.call (.builtin "min") [.str a t, .str b u]) Q E s := by
  have hT : (s.heap.push { cls := .type "tuple", data := .seq #[.str a t, .str b u] }).IsTuple s.heap.objs.size #[.str a t, .str b u] := ⟨_, Heap.get?_push_size _ rfl, rfl, 0, rfl⟩
  refine call_min_two (wpAny_pyIter_tuple hT ?_)
  have hsz : (s.heap.push { cls := .type "tuple", data := .seq #[.str a t, .str b u] }).objs.size = s.heap.objs.size + 1 := Heap.size_push ..
  have hval : ∀ (i : Nat) v, (#[Value.str a t, Value.str b u])[i]? = some v → ∃ t', v = .str (if i = 0 then a else b) t' := fun i v hv => by
    match i with
    | 0 => exact ⟨t, by simpa using hv.symm⟩
    | 1 => exact ⟨u, by simpa using hv.symm⟩
    | i + 2 => simp at hv
  refine ⟨_, [_, s.heap.objs.size], [_], _, _, _, _, rfl, Walks.tuple (A := A.in1) hh _ s.heap.objs.size (by rw [hsz]; exact Nat.ne_of_lt (Nat.lt_succ_self _)) #[.str a t, .str b u],
    ⟨⟨_, Heap.get?_push_size _ rfl, rfl, rfl⟩, hT.push _⟩, fun c hc => ?_, by simp, cmp_txs (fun i => if i = 0 then a else b) hval, fun v h' tk hP hk => ?_⟩
  · show c < ((s.heap.push _).push _).objs.size
    rw [Heap.size_push, hsz]
    rcases List.mem_cons.mp hc with rfl | hc
    · rw [hsz]; exact Nat.lt_succ_self _
    · rcases List.mem_cons.mp hc with rfl | hc
      · exact Nat.lt_succ_of_lt (Nat.lt_succ_self _)
      · cases hc
  · have hold : ∀ c o, s.heap.get? c = some o → h'.get? c = some o := fun c o e => by
      refine hk c o (fun hm => ?_) (Heap.get?_push_of_some _ (Heap.get?_push_of_some _ e))
      rcases List.mem_cons.mp hm with e1 | hm
      · have := Heap.lt_size e; rw [e1, hsz] at this; exact Nat.lt_irrefl _ (Nat.lt_of_succ_lt this)
      · cases hm
    have := h h' tk hold
    have hv : v = if decide (cs b < cs a) = true then Value.str b u else Value.str a t := by
      have hP' : (#[Value.str a t, Value.str b u])[argBest (fun i j => decide ((if i = 0 then a else b : Str).cps.toList < (if j = 0 then a else b : Str).cps.toList)) 1]? = some v := hP
      by_cases hba : cs b < cs a
      · have e : argBest (fun i j => decide ((if i = 0 then a else b : Str).cps.toList < (if j = 0 then a else b : Str).cps.toList)) 1 = 1 := by
          show (if decide (cs b < cs a) = true then 1 else 0) = 1
          rw [if_pos (decide_eq_true hba)]
        rw [e] at hP'
        rw [if_pos (decide_eq_true hba)]
        simpa using hP'.symm
      · have e : argBest (fun i j => decide ((if i = 0 then a else b : Str).cps.toList < (if j = 0 then a else b : Str).cps.toList)) 1 = 0 := by
          show (if decide (cs b < cs a) = true then 1 else 0) = 0
          rw [if_neg (by rw [decide_eq_true_eq]; exact hba)]
        rw [e] at hP'
        rw [if_neg (by rw [decide_eq_true_eq]; exact hba)]
        simpa using hP'.symm
    rw [hv]; exact this
end
theorem bMin2 (hc : X.calm = true) : CallR X (.builtin "min") (rL2 X.K fun a b => b2D .min2 a.toD b.toD) := by
  intro pins s σ H xs us Q I rs ⟨x, y, hx, O, ra, rb, r, ha, hb, hO, hg, q⟩
  subst hx
  have ha := ha.cv
  have hb := hb.cv
  dsimp only at hg
  generalize ra.toD = a at ha hg
  generalize rb.toD = b at hb hg
  simp only [b2D] at hg
  split at hg
  · cases hg
    cases ha.int; cases hb.int
    exact call_min2 hc pins s σ H _ us Q I rs ⟨_, _, rfl, giveInt q⟩
  · rename_i x' y'
    cases hg
    obtain ⟨e1, z1⟩ := ha.strZ
    obtain ⟨e2, z2⟩ := hb.strZ
    subst e1 e2
    obtain ⟨u, w', rfl, ⟨t, rfl⟩, ⟨t', rfl⟩⟩ := vals2 rs
    have e : (if decide (cs y' < cs x') = true then Value.str y' t' else Value.str x' t) = .str (if decide (cs y' < cs x') = true then y' else x') (if decide (cs y' < cs x') = true then t' else t) := by split <;> rfl
    refine min_two_txs (I.ok.hd hc) fun h' tk k => ⟨_, H, I.kept k, ?_, giveStr (by split <;> assumption) q⟩
    rw [e]
    exact ⟨_, rfl⟩
  · cases hg
theorem bGcd : CallR X (.builtin "math.gcd") (rL2 X.K fun a b => b2D .gcd a.toD b.toD) := by
  intro pins s σ H xs us Q I rs ⟨x, y, hx, O, ra, rb, r, ha, hb, hO, hg, q⟩
  subst hx
  have ha := ha.cv
  have hb := hb.cv
  dsimp only at hg
  generalize ra.toD = a at ha hg
  generalize rb.toD = b at hb hg
  simp only [b2D] at hg
  split at hg <;> cases hg
  cases ha.int; cases hb.int
  exact cr_gcd pins s σ H _ us Q I rs ⟨_, _, rfl, giveInt q⟩
end
end WM

/-! ## part D2: least and greatest, places, reversal -/
namespace WM
open PySem PySem.Spec PyProof.Rows L2

theorem best_mem (f : D → D → Bool) : ∀ (xs : List D) (x : D), xs.foldl (fun a y => if f a y then y else a) x ∈ x :: xs
  | [], x => List.mem_cons_self
  | y :: r, x => by
    rw [List.foldl_cons]
    by_cases h : f x y = true
    · rw [if_pos h]
      exact List.mem_cons_of_mem _ (best_mem f r y)
    · rw [if_neg h]
      rcases List.mem_cons.mp (best_mem f r x) with e | e
      · rw [e]; exact List.mem_cons_self
      · exact List.mem_cons_of_mem _ (List.mem_cons_of_mem _ e)
theorem ordAll_iff {xs : List D} (h : ordAll xs = true) : (∀ x ∈ xs, okD x = true) ∧ PySem.W.AlikeAll xs := by
  unfold ordAll at h
  simp only [List.all_eq_true, Bool.and_eq_true, Bool.not_eq_true'] at h
  refine ⟨fun x hx => (h x hx).1.1, fun x hx y hy => (h x hx).2 y hy, fun x hx e => ?_⟩
  have := (h x hx).1.2
  rw [e] at this
  cases this
theorem ord_depth {xs : List D} (h : ∀ x ∈ xs, okD x = true) : PyData.plainAll xs = true ∧ PyData.depthAll xs ≤ 60 := okN_plainAll 60 xs h
section
variable {K : Frag} {X : Cx} {pins : List (Addr × Obj)} {σ : L2.St} {H : Hp} {s : Shared}
theorem valsBack {xs : List V} {us : List Value} (r : Vals xs us) {i : Nat} {u : Value} (h : us[i]? = some u) : ∃ v, xs[i]? = some v ∧ RelV v u := by
  cases e : xs[i]? with
  | none => rw [r.none_of e] at h; cases h
  | some v =>
    obtain ⟨u', h', rv⟩ := r.get e
    rw [h] at h'
    cases h'
    exact ⟨v, rfl, rv⟩
/-- the item that is picked out of a row -/
theorem pickOk {M : Msk} {h' : Heap} {vs : List V} {ds : List D} {its : List Value} {i : Nat} {v : Value} {d : D} {bs : List Addr} (I : Inv X pins σ H s) (rv : Vals vs its) (dd : DqAll X.K (frz H M) vs ds) (ok : ∀ x ∈ ds, okD x = true) (hd : d ∈ ds) (hv : its[i]? = some v) (rd : Reads h' v d bs) (hk : ∀ b o, s.heap.get? b = some o → h'.get? b = some o) :
    ∃ x, RelV x v ∧ Dq X.K (frz H M) x d := by
  obtain ⟨x, hx, rx⟩ := valsBack rv hv
  obtain ⟨e, he, dx⟩ := DqAll.get' dd hx
  obtain ⟨cs, r2⟩ := dqReads I e x v (dpMono Ext.unfrz _ _ dx) rx
  have p1 := (okD_iff (ok d hd)).1
  have p2 := (okD_iff (ok e (List.mem_of_getElem? he))).1
  have e1 := PySem.SeqAt.readOf_plain p1 rd
  have e2 := PySem.SeqAt.readOf_plain p2 (PySem.W.reads_keeps hk r2)
  rw [e1] at e2
  exact ⟨x, rx, by rw [e2]; exact dx⟩
theorem bMax {n : Nat} (hc : X.calm = true) (hr : Room n X.A) : CallR X (.builtin "max") (rL1 X.K fun a => b1D .max a.toD) := by
  intro pins s σ H xs us Q I rs ⟨x, hx, O, ra, r, ha, hO, hg, q⟩
  subst hx
  have ha := ha.cv
  dsimp only at hg
  generalize ra.toD = a at ha hg
  have hu := hr.units
  obtain ⟨u, rfl, ru⟩ := vals1 rs
  simp only [b1D] at hg
  split at hg
  · rename_i y ys
    split at hg
    · rename_i hz
      cases hg
      obtain ⟨z1, z2⟩ := ordAll_iff hz
      obtain ⟨z3, z4⟩ := ord_depth z1
      obtain ⟨p, vs, rfl, s1, d1⟩ := ha.lst
      cases ru
      obtain ⟨its, rv, pl, _⟩ := I.list (.inl s1)
      obtain ⟨as, ra⟩ := dqReadsAll I _ _ its (dpMonoAll Ext.unfrz _ _ d1) rv
      refine PySem.W.max_list_data (I.ok.hd hc) pl.isList ra z2 (by omega) fun i v h' tk bs hv rd hk => ?_
      obtain ⟨w, rw', dw⟩ := pickOk I rv d1 z1 (best_mem PySem.W.dataLt ys y) (by simpa using hv) rd hk
      exact ⟨w, H, I.kept hk, rw', q w H (Ext.refl _) dw⟩
    · cases hg
  · rename_i y ys
    split at hg
    · rename_i hz
      cases hg
      obtain ⟨z1, z2⟩ := ordAll_iff hz
      obtain ⟨z3, z4⟩ := ord_depth z1
      obtain ⟨p, vs, rfl, s1, d1⟩ := ha.tup
      cases ru
      obtain ⟨its, rv, pl, _⟩ := I.tuple s1
      obtain ⟨as, ra⟩ := dqReadsAll I _ _ its (dpMonoAll Ext.unfrz _ _ d1) rv
      refine PySem.W.max_tuple_data (I.ok.hd hc) pl ra z2 (by omega) fun i v h' tk bs hv rd hk => ?_
      obtain ⟨w, rw', dw⟩ := pickOk I rv d1 z1 (best_mem PySem.W.dataLt ys y) (by simpa using hv) rd hk
      exact ⟨w, H, I.kept hk, rw', q w H (Ext.refl _) dw⟩
    · cases hg
  · cases hg
theorem bMin {n : Nat} (hc : X.calm = true) (hr : Room n X.A) : CallR X (.builtin "min") (rL1 X.K fun a => b1D .min a.toD) := by
  intro pins s σ H xs us Q I rs ⟨x, hx, O, ra, r, ha, hO, hg, q⟩
  subst hx
  have ha := ha.cv
  dsimp only at hg
  generalize ra.toD = a at ha hg
  have hu := hr.units
  obtain ⟨u, rfl, ru⟩ := vals1 rs
  simp only [b1D] at hg
  split at hg
  · rename_i y ys
    split at hg
    · rename_i hz
      cases hg
      obtain ⟨z1, z2⟩ := ordAll_iff hz
      obtain ⟨z3, z4⟩ := ord_depth z1
      obtain ⟨p, vs, rfl, s1, d1⟩ := ha.lst
      cases ru
      obtain ⟨its, rv, pl, _⟩ := I.list (.inl s1)
      obtain ⟨as, ra⟩ := dqReadsAll I _ _ its (dpMonoAll Ext.unfrz _ _ d1) rv
      refine PySem.W.min_list_data (I.ok.hd hc) pl.isList ra z2 (by omega) fun i v h' tk bs hv rd hk => ?_
      obtain ⟨w, rw', dw⟩ := pickOk I rv d1 z1 (best_mem (fun a y => PySem.W.dataLt y a) ys y) (by simpa using hv) rd hk
      exact ⟨w, H, I.kept hk, rw', q w H (Ext.refl _) dw⟩
    · cases hg
  · rename_i y ys
    split at hg
    · rename_i hz
      cases hg
      obtain ⟨z1, z2⟩ := ordAll_iff hz
      obtain ⟨z3, z4⟩ := ord_depth z1
      obtain ⟨p, vs, rfl, s1, d1⟩ := ha.tup
      cases ru
      obtain ⟨its, rv, pl, _⟩ := I.tuple s1
      obtain ⟨as, ra⟩ := dqReadsAll I _ _ its (dpMonoAll Ext.unfrz _ _ d1) rv
      refine PySem.W.min_tuple_data (I.ok.hd hc) pl ra z2 (by omega) fun i v h' tk bs hv rd hk => ?_
      obtain ⟨w, rw', dw⟩ := pickOk I rv d1 z1 (best_mem (fun a y => PySem.W.dataLt y a) ys y) (by simpa using hv) rd hk
      exact ⟨w, H, I.kept hk, rw', q w H (Ext.refl _) dw⟩
    · cases hg
  · cases hg
/-! ### methods of one argument -/
def rM1 (K : Frag) (f : M1) : V → List V → Hp → VK → Prop := fun x vs H Q => ∃ y, vs = [y] ∧ rB K (fun a b => m1D f a.toD b.toD) x y H Q
theorem mtIndex {n : Nat} (hr : Room n X.A) : MtR X "list.index" (rM1 X.K .index) := by
  intro pins s σ H x vs v us Q I rx rv ⟨y, hvs, O, ra, rb, r, ha, hb, hO, hg, q⟩
  subst hvs
  obtain ⟨u, rfl, ru⟩ := vals1 rv
  have ha := ha.cv
  have hb := hb.cv
  dsimp only at hg
  generalize ra.toD = a at ha hg
  generalize rb.toD = b at hb hg
  have hu := hr.units
  simp only [m1D] at hg
  split at hg
  · rename_i xs
    split at hg
    · rename_i hk
      simp only [Bool.and_eq_true] at hk
      obtain ⟨k, hk2, rfl⟩ := Option.map_eq_some_iff.mp hg
      obtain ⟨p, vs, rfl, s1, d1⟩ := ha.lst
      cases rx
      obtain ⟨its, rv2, pl, z⟩ := I.list (.inl s1)
      obtain ⟨as, rra⟩ := dqReadsAll I _ _ its (dpMonoAll Ext.unfrz _ _ d1) rv2
      obtain ⟨bs, rrb⟩ := cvReads I hb ru hk.2
      have p1 := okD_iff hk.1
      have p2 := okD_iff hk.2
      simp only [PyData.plain, PyData.depth] at p1
      obtain ⟨⟨cls, dd, data, sl⟩, ho, hcc, n, hd'⟩ := pl.isList
      simp only at hcc hd'
      subst hcc hd'
      have rra' : ReadsAll s.heap its.toArray.toList xs as := rra
      obtain ⟨hj, hit, hno⟩ := PySem.SeqAt.hit_at rra' p1.1 hk2
      have items := PySem.SeqAt.items_plain rra' rrb p1.1 p2.1 (A := X.A) (by omega)
      have e24 : sizeLine = 16777216 := sizeLine_eq
      have hn : k < its.length := by simpa using hj
      have zl := rv2.length
      refine call_meets F.slot_list_index ⟨_, ho, rfl⟩ F.entry_list_index (F.args_list_index_2 _ _)
        (PySem.SeqAt.list_index2_found p its.toArray n dd sl u (fun j => PyData.eqv (PySem.SeqAt.readOf s.heap (its.toArray.getD j .none)) b) k hj (Nat.zero_le _) (by omega) ?_ ?_) ⟨ho, fun j hj' => ?_, ?_⟩
      · rw [← hit]
        simp [Array.getD, hj, hn]
      · intro m hm _ hlt
        rw [← hno m hm hlt]
        have hm' : m < its.length := by simpa using hm
        simp [Array.getD, hm']
      · have := items its.toArray[j] (Array.getElem_mem hj')
        have hj2 : j < its.length := by simpa using hj'
        simpa [Array.getD, hj2] using this
      · exact ⟨.int k, H, I.tok _, ⟨_, rfl⟩, q _ H (Ext.refl _) (.int _)⟩
    · cases hg
  · cases hg
theorem mtCount {n : Nat} (hr : Room n X.A) : MtR X "list.count" (rM1 X.K .count) := by
  intro pins s σ H x vs v us Q I rx rv ⟨y, hvs, O, ra, rb, r, ha, hb, hO, hg, q⟩
  subst hvs
  obtain ⟨u, rfl, ru⟩ := vals1 rv
  have ha := ha.cv
  have hb := hb.cv
  dsimp only at hg
  generalize ra.toD = a at ha hg
  generalize rb.toD = b at hb hg
  have hu := hr.units
  simp only [m1D] at hg
  split at hg
  · rename_i xs
    split at hg
    · rename_i hk
      simp only [Bool.and_eq_true] at hk
      cases hg
      obtain ⟨p, vs, rfl, s1, d1⟩ := ha.lst
      cases rx
      obtain ⟨its, rv2, pl, z⟩ := I.list (.inl s1)
      obtain ⟨as, rra⟩ := dqReadsAll I _ _ its (dpMonoAll Ext.unfrz _ _ d1) rv2
      obtain ⟨bs, rrb⟩ := cvReads I hb ru hk.2
      have p1 := okD_iff hk.1
      have p2 := okD_iff hk.2
      simp only [PyData.plain, PyData.depth] at p1
      have rra' : ReadsAll s.heap its.toArray.toList xs as := rra
      refine PySem.SeqAt.count_list_data pl.isList rra' rrb p1.1 p2.1 (by omega) ?_
      exact ⟨.int _, H, I.tok _, ⟨_, rfl⟩, q _ H (Ext.refl _) (.int _)⟩
    · cases hg
  · cases hg
/-! ### texts -/
theorem strs_back : ∀ {xs : List D} {ls : List (List Nat)}, strsOf xs = some ls → xs = ls.map fun l => .str (mkS l)
  | [], ls, h => by cases h; rfl
  | .str b :: r, ls, h => by
    simp only [strsOf] at h
    obtain ⟨l, hl, rfl⟩ := Option.map_eq_some_iff.mp h
    rw [List.map_cons, ← strs_back hl]
    congr
  | .none :: _, _, h => by cases h
  | .bool _ :: _, _, h => by cases h
  | .int _ :: _, _, h => by cases h
  | .list _ :: _, _, h => by cases h
  | .tuple _ :: _, _, h => by cases h
  | .dict _ :: _, _, h => by cases h
theorem dq_strs {H : Hp} : ∀ {ls : List (List Nat)} {vs : List V}, DqAll K H vs (ls.map fun l => .str (mkS l)) → vs = (ls.map mkS).map V.str
  | [], _, h => by cases h; rfl
  | l :: r, _, h => by
    cases h with
    | cons h1 h2 =>
      cases h1
      rw [dq_strs h2]
      rfl
theorem cs_join (z : Str) : ∀ ls : List (List Nat), cs (Str.join z (ls.map mkS)) = joinL (cs z) ls
  | [] => rfl
  | [_] => rfl
  | x :: y :: r => by
    have e : cs (Str.join z ((x :: y :: r).map mkS)) = cs (mkS x ++ z ++ Str.join z ((y :: r).map mkS)) := rfl
    rw [e]
    have ap : ∀ a b : Str, cs (a ++ b) = cs a ++ cs b := fun a b => by
      show (a.cps ++ b.cps).toList = _
      rw [Array.toList_append]
      rfl
    rw [ap, ap, cs_join z (y :: r)]
    rfl
theorem join_len (z : Str) : ∀ ls : List Str, (Str.join z ls).length ≤ (ls.map (·.length)).sum + ls.length * z.length
  | [] => Nat.zero_le _
  | [x] => by
    show x.length ≤ _
    simp
  | x :: y :: r => by
    have e : Str.join z (x :: y :: r) = x ++ z ++ Str.join z (y :: r) := rfl
    have ap : ∀ a b : Str, (a ++ b).length = a.length + b.length := fun a b => by
      show (a.cps ++ b.cps).size = _
      rw [Array.size_append]; rfl
    have ih := join_len z (y :: r)
    rw [e, ap, ap]
    simp only [List.map_cons, List.sum_cons, List.length_cons, Nat.succ_mul] at ih ⊢
    omega
theorem joinZ {z : Str} {ls : List Str} (h : (ls.map (·.length)).sum + ls.length * z.length ≤ 16777216) : (Txt.join z ls).length ≤ 16777216 := by
  rw [show Txt.join z ls = Str.join z ls from PySem.StrLaws.glued_eq_join z _]
  exact Nat.le_trans (join_len z ls) h
theorem mtJoin : MtR X "str.join" (rM1 X.K .join) := by
  intro pins s σ H x vs v us Q I rx rv ⟨y, hvs, O, ra, rb, r, ha, hb, hO, hg, q⟩
  subst hvs
  have ha := ha.cv
  have hb := hb.cv
  dsimp only at hg
  generalize ra.toD = a at ha hg
  generalize rb.toD = b at hb hg
  simp only [m1D] at hg
  have fin : ∀ (z : Str) (ls : List (List Nat)), szOk ((ls.map List.length).sum + z.length * ls.length) = true → ((ls.map mkS).map (·.length)).sum + (ls.map mkS).length * z.length ≤ 16777216 ∧ Txt.join z (ls.map mkS) = mkS (joinL (cs z) ls) := fun z ls hz => by
    refine ⟨?_, ?_⟩
    · rw [List.map_map, List.length_map]
      have e : (ls.map ((·.length) ∘ mkS)) = ls.map List.length := List.map_congr_left fun l _ => by simp [mkS, Str.length]
      have z2 : (ls.map List.length).sum + z.length * ls.length ≤ 16777216 := by simpa [szOk] using hz
      rw [e, Nat.mul_comm]
      exact z2
    · rw [show Txt.join z (ls.map mkS) = Str.join z (ls.map mkS) from PySem.StrLaws.glued_eq_join z _, ← cs_join]
      rfl
  split at hg
  · rename_i z xs
    obtain ⟨ls, h1, h2⟩ := Option.bind_eq_some_iff.mp hg
    have e := strs_back h1
    subst e
    split at h2
    · rename_i hz
      cases h2
      obtain ⟨p, vs, rfl, s1, d1⟩ := hb.lst
      cases ha.str
      have e2 := dq_strs d1
      subst e2
      obtain ⟨f1, f2⟩ := fin z ls hz
      refine mt_join pins s σ H _ _ v us Q I rx rv ⟨z, p, ls.map mkS, rfl, rfl, .inl (.inl s1), f1, ?_⟩
      rw [f2]
      exact q _ H (Ext.refl _) (.str _ (by rw [← f2]; exact joinZ f1))
    · cases h2
  · rename_i z xs
    obtain ⟨ls, h1, h2⟩ := Option.bind_eq_some_iff.mp hg
    have e := strs_back h1
    subst e
    split at h2
    · rename_i hz
      cases h2
      obtain ⟨p, vs, rfl, s1, d1⟩ := hb.tup
      cases ha.str
      have e2 := dq_strs d1
      subst e2
      obtain ⟨f1, f2⟩ := fin z ls hz
      refine mt_join pins s σ H _ _ v us Q I rx rv ⟨z, p, ls.map mkS, rfl, rfl, .inr s1, f1, ?_⟩
      rw [f2]
      exact q _ H (Ext.refl _) (.str _ (by rw [← f2]; exact joinZ f1))
    · cases h2
  · cases hg
theorem prefL_iff : ∀ a b : List Nat, prefL a b = decide (a = b.take a.length)
  | [], b => by simp [prefL]
  | x :: a, [] => by simp [prefL]
  | x :: a, y :: b => by
    simp only [prefL, prefL_iff a b, List.length_cons, List.take_succ_cons, List.cons.injEq, Bool.decide_and]
    congr 1
theorem mtStarts : MtR X "str.startswith" (rM1 X.K .startswith) := by
  intro pins s σ H x vs v us Q I rx rv ⟨y, hvs, O, ra, rb, r, ha, hb, hO, hg, q⟩
  subst hvs
  have ha := ha.cv
  have hb := hb.cv
  dsimp only at hg
  generalize ra.toD = a at ha hg
  generalize rb.toD = b at hb hg
  simp only [m1D] at hg
  split at hg
  · rename_i z t
    cases hg
    cases ha.str
    cases hb.str
    refine mt_startswith pins s σ H _ _ v us Q I rx rv ⟨z, t, rfl, rfl, ?_⟩
    have e : Txt.startswith z t = prefL (cs t) (cs z) := by
      rw [prefL_iff, Bool.eq_iff_iff]
      unfold Txt.startswith
      rw [PySem.StrLaws.subAt_eq]
      have l1 : t.length = (cs t).length := by simp [cs, Str.length]
      have l2 : z.length = (cs z).length := by simp [cs, Str.length]
      simp only [Bool.and_eq_true, decide_eq_true_eq, beq_iff_eq, List.drop_zero]
      show (0 + t.length ≤ z.length ∧ (cs z).take t.length = cs t) ↔ _
      constructor
      · rintro ⟨_, h⟩
        rw [← l1, h]
      · intro h
        refine ⟨?_, by rw [l1]; exact h.symm⟩
        have := congrArg List.length h
        rw [List.length_take] at this
        omega
    rw [e]
    exact q _ H (Ext.refl _) (.bl _)
  · cases hg
theorem mtEnds : MtR X "str.endswith" (rM1 X.K .endswith) := by
  intro pins s σ H x vs v us Q I rx rv ⟨y, hvs, O, ra, rb, r, ha, hb, hO, hg, q⟩
  subst hvs
  have ha := ha.cv
  have hb := hb.cv
  dsimp only at hg
  generalize ra.toD = a at ha hg
  generalize rb.toD = b at hb hg
  simp only [m1D] at hg
  split at hg
  · rename_i z t
    cases hg
    cases ha.str
    cases hb.str
    refine mt_endswith pins s σ H _ _ v us Q I rx rv ⟨z, t, rfl, rfl, ?_⟩
    have e : Txt.endswith z t = (decide ((cs t).length ≤ (cs z).length) && decide ((cs z).drop ((cs z).length - (cs t).length) = cs t)) := by
      rw [Bool.eq_iff_iff]
      unfold Txt.endswith
      rw [PySem.StrLaws.subAt_eq]
      have l1 : t.length = (cs t).length := by simp [cs, Str.length]
      have l2 : z.length = (cs z).length := by simp [cs, Str.length]
      simp only [Bool.and_eq_true, decide_eq_true_eq, beq_iff_eq]
      show (0 + t.length ≤ z.length ∧ ((cs z).drop (z.length - t.length)).take t.length = cs t) ↔ _
      rw [List.take_of_length_le (by rw [List.length_drop]; omega), l1, l2, Nat.zero_add]
    rw [e]
    exact q _ H (Ext.refl _) (.bl _)
  · cases hg
theorem one_of {t : Str} {c : Nat} (h : cs t = [c]) : t = ⟨#[c]⟩ := by
  cases t with
  | mk a =>
    have h : a.toList = [c] := h
    rw [show a = #[c] from Array.toList_inj.mp h]
theorem cnt_nat (c : Nat) : ∀ l : List Nat, PyProof.Rows.cnt c l = (l.count c : Nat)
  | [] => rfl
  | n :: r => by
    rw [PyProof.Rows.cnt_cons, cnt_nat c r, List.count_cons]
    by_cases h : n = c
    · subst h; simp; omega
    · simp [h]
theorem mtTcount : MtR X "str.count" (rM1 X.K .tcount) := by
  intro pins s σ H x vs v us Q I rx rv ⟨y, hvs, O, ra, rb, r, ha, hb, hO, hg, q⟩
  subst hvs
  have ha := ha.cv
  have hb := hb.cv
  dsimp only at hg
  generalize ra.toD = a at ha hg
  generalize rb.toD = b at hb hg
  simp only [m1D] at hg
  split at hg
  · rename_i z t
    split at hg
    · rename_i c hc
      cases hg
      cases ha.str
      cases hb.str
      refine mt_count pins s σ H _ _ v us Q I rx rv ⟨z, t, rfl, rfl, ?_⟩
      rw [one_of hc, PyProof.Rows.count_cnt, cnt_nat]
      exact q _ H (Ext.refl _) (.int _)
    · cases hg
  · cases hg
theorem idx_first {l : List Nat} {c i : Nat} (h : l[i]? = some c) (hn : ∀ k, k < i → l[k]? ≠ some c) : l.idxOf c = i := by
  induction l generalizing i with
  | nil => cases h
  | cons a r ih =>
    cases i with
    | zero =>
      have h : a = c := by simpa using h
      rw [h, List.idxOf_cons_self]
    | succ i =>
      have ha : a ≠ c := fun e => hn 0 (Nat.zero_lt_succ _) (by rw [e]; rfl)
      have := ih (i := i) (by simpa using h) fun k hk => by simpa using hn (k + 1) (Nat.succ_lt_succ hk)
      rw [List.idxOf_cons, this, beq_false_of_ne ha]
      rfl
theorem mtTindex : MtR X "str.index" (rM1 X.K .tindex) := by
  intro pins s σ H x vs v us Q I rx rv ⟨y, hvs, O, ra, rb, r, ha, hb, hO, hg, q⟩
  subst hvs
  have ha := ha.cv
  have hb := hb.cv
  dsimp only at hg
  generalize ra.toD = a at ha hg
  generalize rb.toD = b at hb hg
  simp only [m1D] at hg
  split at hg
  · rename_i z t
    split at hg
    · rename_i c hc
      split at hg
      · rename_i hm
        cases hg
        cases ha.str
        cases hb.str
        have ht := one_of hc
        have one := fun k => PySem.StrLaws.subAt_one z c k
        rcases PySem.StrLaws.occ_head z t 1 (Nat.le_refl _) with ⟨h1, h2⟩ | ⟨i, rest, h1, h2, h3⟩
        · exfalso
          obtain ⟨i, hi⟩ := List.getElem?_of_mem hm
          refine h2 i ?_
          rw [ht]
          exact (one i).mpr hi
        · refine mt_sindex pins s σ H _ _ v us Q I rx rv ⟨z, t, i, rest, rfl, rfl, h1, ?_⟩
          have e : (cs z).idxOf c = i := by
            rw [ht] at h2 h3
            exact idx_first ((one i).mp h2) fun k hk he => h3 k hk ((one k).mpr he)
          rw [← e]
          exact q _ H (Ext.refl _) (.int _)
      · cases hg
    · cases hg
  · cases hg
def m1T : M1 → String
  | .index => "list" | .count => "list" | .join => "str" | .startswith => "str" | .endswith => "str" | .tcount => "str" | .tindex => "str"
theorem m1Ty {f : M1} {a b : D} {r : R} (h : m1D f a b = some r) : (m1T f = "list" ∧ ∃ xs, a = .list xs) ∨ (m1T f = "str" ∧ ∃ z, a = .str z) := by
  cases f with
  | index => cases a <;> first | (cases h; done) | exact .inl ⟨rfl, _, rfl⟩
  | count => cases a <;> first | (cases h; done) | exact .inl ⟨rfl, _, rfl⟩
  | join => cases a <;> first | (cases b <;> cases h; done) | exact .inr ⟨rfl, _, rfl⟩
  | startswith => cases a <;> first | (cases b <;> cases h; done) | exact .inr ⟨rfl, _, rfl⟩
  | endswith => cases a <;> first | (cases b <;> cases h; done) | exact .inr ⟨rfl, _, rfl⟩
  | tcount => cases a <;> first | (cases b <;> cases h; done) | exact .inr ⟨rfl, _, rfl⟩
  | tindex => cases a <;> first | (cases b <;> cases h; done) | exact .inr ⟨rfl, _, rfl⟩
def m1Nm : M1 → String
  | .join => "join" | .count => "count" | .index => "index" | .startswith => "startswith" | .endswith => "endswith" | .tcount => "count" | .tindex => "index"
theorem m1Ok {n : Nat} (hr : Room n X.A) (f : M1) : ∃ id, PlainAttrs (m1T f) ∧ Slot (m1T f) (Str.ofString (m1Nm f)) id ∧ typeOf (.builtin id) = pure (.type "method_descriptor") ∧ MtR X id (rM1 X.K f) := by
  cases f with
  | index => exact ⟨_, PySem.F.plainAttrs_list, PySem.F.slot_list_index, PySem.F.type_list_index, mtIndex hr⟩
  | count => exact ⟨_, PySem.F.plainAttrs_list, PySem.F.slot_list_count, PySem.F.type_list_count, mtCount hr⟩
  | join => exact ⟨_, PySem.F.plainAttrs_str, PySem.F.slot_str_join, PySem.F.type_str_join, mtJoin⟩
  | startswith => exact ⟨_, PySem.F.plainAttrs_str, PySem.F.slot_str_startswith, PySem.F.type_str_startswith, mtStarts⟩
  | endswith => exact ⟨_, PySem.F.plainAttrs_str, PySem.F.slot_str_endswith, PySem.F.type_str_endswith, mtEnds⟩
  | tcount => exact ⟨_, PySem.F.plainAttrs_str, PySem.F.slot_str_count, PySem.F.type_str_count, mtTcount⟩
  | tindex => exact ⟨_, PySem.F.plainAttrs_str, PySem.F.slot_str_index, PySem.F.type_str_index, mtTindex⟩
/-! ### t[::-1] of a tuple -/
section
variable {prog : Program} {w : World} {A : Around} {E : Value → Shared → Prop} {s : Shared}
theorem adjust_rev (n : Nat) : Builtin.Slice.sliceAdjust none none (-1) (n : Int) = ((n : Int) - 1, -1) := by
  unfold Builtin.Slice.sliceAdjust
  simp
theorem places_rev (n : Nat) : Builtin.Slice.slicePlaces ((n : Int) - 1) (-1) (-1) = n := by
  unfold Builtin.Slice.slicePlaces
  rw [if_neg (by decide)]
  split
  · rw [show (- -1 : Int) = 1 by decide, Int.ediv_one]; omega
  · omega
theorem sliceApplied_rev {sl : Addr} {vl vu vs : Value} {n : Nat} {Q : Int × Int × Nat → Shared → Prop} (hs : s.heap.IsSliceOf sl vl vu vs) (pl : IsPart vl none) (pu : IsPart vu none) (ps : IsPart vs (some (-1)))
    (h : Q ((n : Int) - 1, -1, n) s) : wpAny (model prog w) A (Builtin.Slice.sliceApplied (.ref sl) (pure (n : Int))) Q E s := by
  obtain ⟨os, hos, hcs, hds⟩ := id hs
  unfold Builtin.Slice.sliceApplied Builtin.Slice.sliceFields
  refine wpAny_bind (wpAny_bind (wpAny_field hos hds (x := vl) rfl (wpAny_bind (wpAny_field hos hds (x := vu) rfl (wpAny_bind (wpAny_field hos hds (x := vs) rfl (wpAny_pure ?_)))))))
  refine wpAny_bind (HT.slicePart_ ps ?_)
  show wpAny _ _ (if ((-1 : Int) == 0) = true then _ else _) _ _ s
  rw [if_neg (by decide)]
  refine wpAny_bind (HT.slicePart_ pl (wpAny_bind (HT.slicePart_ pu (wpAny_bind (wpAny_pure ?_)))))
  show wpAny _ _ (match Builtin.Slice.sliceAdjust none none (-1) (n : Int) with | (lo, hi) => pure (lo, (-1 : Int), Builtin.Slice.slicePlaces lo hi (-1))) _ _ s
  rw [adjust_rev n]
  show wpAny _ _ (pure ((n : Int) - 1, (-1 : Int), Builtin.Slice.slicePlaces ((n : Int) - 1) (-1) (-1))) _ _ s
  rw [places_rev]
  exact wpAny_pure h
theorem fm_congr {α β : Type} {f g : α → Option β} : ∀ {l : List α}, (∀ a ∈ l, f a = g a) → l.filterMap f = l.filterMap g
  | [], _ => rfl
  | a :: r, h => by rw [List.filterMap_cons, List.filterMap_cons, h a List.mem_cons_self, fm_congr fun b hb => h b (List.mem_cons_of_mem _ hb)]
theorem pick_rev (xs : Array Value) : ((List.range xs.size).filterMap fun (m : Nat) => xs[(((xs.size : Int) - 1) + (m : Int) * (-1)).toNat]?).toArray = xs.toList.reverse.toArray := by
  have e : ((List.range xs.size).filterMap fun (m : Nat) => xs[(((xs.size : Int) - 1) + (m : Int) * (-1)).toNat]?) = ((List.range xs.size).map fun k => xs.size - 1 - k).filterMap (xs[·]?) := by
    rw [List.filterMap_map]
    refine fm_congr fun m hm => ?_
    have := List.mem_range.mp hm
    show xs[_]? = xs[xs.size - 1 - m]?
    congr 1
    omega
  rw [e, PySem.W.krv_range, List.filterMap_reverse, PySem.W.krv_all]
theorem getItem_tuple_rev {t sl : Addr} {items : Array Value} {vl vu vs : Value} {Q : Value → Shared → Prop} (ht : IsTup s.heap t items) (hs : s.heap.IsSliceOf sl vl vu vs) (pl : IsPart vl none) (pu : IsPart vu none) (ps : IsPart vs (some (-1)))
    (h : Q (.ref s.heap.objs.size) { s with heap := s.heap.push { cls := .type "tuple", data := .seq items.toList.reverse.toArray } })
    (hsz : items.size ≤ sizeLine) : wpAny (model prog w) A (getItem (.ref t) (.ref sl)) Q E s := by
  have htake : sizeOk (.seq items.toList.reverse.toArray) := by
    show (items.toList.reverse.toArray).size ≤ sizeLine
    rw [List.size_toArray, List.length_reverse, Array.length_toList]
    exact hsz
  obtain ⟨os, hos, hcs, hds⟩ := id hs
  have hTs : s.TypeIs (.ref sl) "slice" := ⟨os, hos, hcs⟩
  unfold getItem
  try with_reducible refine wpAny_holding ?_
  first | refine wpAny_bind (wpAny_pure ?_) | skip
  refine wpAny_bind (wpAny_sequenceKey ht.typeIs (by decide) ?_)
  refine wpAny_bind (wpAny_callSpecial?_slot (name := Str.ofString "__getitem__") ht.typeIs PyProof.Rows.slot_tuple_getitem
    (wpAny_call_entry PyProof.Rows.slot_tuple_getitem ht.typeIs entry_tuple_getitem ?_ (args_tuple_getitem _ _)))
  show wpAny _ _ (Builtin.Tuple.tupleItemsOf (.ref t) >>= _) _ _ s
  refine wpAny_bind (PyProof.Rows.tupleItemsOf_ ht ?_)
  refine wpAny_bind (wpAny_typeOf hTs ?_)
  rw [if_pos (by decide)]
  refine wpAny_bind (sliceApplied_rev hs pl pu ps ?_)
  have hno : ¬ ((((items.size : Int) - 1) == 0 && (-1 : Int) == 1 && items.size == items.size) = true) := by
    rw [show ((-1 : Int) == 1) = false by decide, Bool.and_false, Bool.false_and]
    exact Bool.false_ne_true
  show wpAny _ _ (if (((items.size : Int) - 1) == 0 && (-1 : Int) == 1 && items.size == items.size) = true then _ else _) _ _ s
  rw [if_neg hno, pick_rev]
  first
    | exact wpAny_bind (m := Builtin.Tuple.tupleExact _) (wpAny_newObj_type (wpAny_pure ⟨_, rfl, wpAny_pure h⟩) htake)
    | exact wpAny_bind (m := Builtin.Tuple.tupleExact _) (wpAny_newObj_type (wpAny_bind (wpAny_pure (wpAny_pure ⟨_, rfl, wpAny_pure h⟩))) htake)
    | exact wpAny_bind (wpAny_bind (m := Builtin.Tuple.tupleExact _) (wpAny_newObj_type (wpAny_pure (wpAny_pure ⟨_, rfl, wpAny_pure h⟩)) htake))
    | exact wpAny_bind (wpAny_bind (m := Builtin.Tuple.tupleExact _) (wpAny_newObj_type (wpAny_pure ⟨_, rfl, wpAny_pure h⟩) htake))
end
/-! ### x[::-1] -/
def tRev (K : Frag) (te : TE) : TE := fun σ H Q => te σ H fun x H1 => rU1 K (fun r => revD r.toD) x H1 Q
theorem peRev {e : Expr} {te : TE} {k : Nat} {p1 p2 p3 pos : Pos} (he : PE X e te) : PE X (.Subscript e (.Slice none none (some (.UnaryOp .USub (.Constant (.int 1) k p1) p2)) p3) pos) (tRev X.K te) := by
  refine ⟨fun pins s σ H Q I h => ?_⟩
  refine Subscript_ (thn (he.run pins s σ H _ I h) fun v s1 ⟨x, H1, I1, r1, q1⟩ => ?_)
  have hst : PO X (some (.UnaryOp .USub (.Constant (.int 1) k p1) p2)) (tPart (tUn (rU fun i => .int (-i)) (tC (.int 1)))) := po_some (pe_un un_neg pe_int)
  refine wpAny_Slice (thn (po_none.run pins s1 σ H1 (fun o H2 => o = none ∧ H2 = H1) I1 ⟨rfl, rfl⟩) fun vl s2 ⟨l, H2, I2, pl, el, e2⟩ => ?_)
  subst el e2
  refine thn (po_none.run pins s2 σ H2 (fun o H3 => o = none ∧ H3 = H2) I2 ⟨rfl, rfl⟩) fun vu s3 ⟨u, H3, I3, pu, eu, e3⟩ => ?_
  subst eu e3
  refine thn (hst.run pins s3 σ H3 (fun o H4 => o = some (-1) ∧ H4 = H3) I3 ⟨1, rfl, -1, rfl, rfl, rfl⟩) fun vs s4 ⟨o, H4, I4, ps, eo, e4⟩ => ?_
  subst eo e4
  have I5 : Inv X pins σ H4 { s4 with heap := s4.heap.push { cls := .type "slice", data := .fields #[vl, vu, vs] } } := I4.kept (t' := s4.toks) fun b ob q => Heap.get?_push_of_some _ q
  show wpAny (model X.prog X.w) X.A (subscriptTail e (.Slice none none (some (.UnaryOp .USub (.Constant (.int 1) k p1) p2)) p3) v (.ref s4.heap.objs.size)) (EP X pins σ Q) X.xe { s4 with heap := s4.heap.push { cls := .type "slice", data := .fields #[vl, vu, vs] } }
  obtain ⟨O, a, r, ha, hO, hg, q⟩ := q1
  have ha := ha.cv
  dsimp only at hg
  generalize a.toD = d at ha hg
  simp only [revD] at hg
  split at hg
  · rename_i xs
    cases hg
    obtain ⟨p, ws, rfl, s1', d1⟩ := ha.lst
    cases r1
    obtain ⟨its, r, ht, hz⟩ := I5.list (.inl s1')
    have hlen := r.length
    refine tail_any (ops := [.ref p, .ref s4.heap.objs.size]) ht.isList.typeIs (PySem.slot_list_getitem.lookup) ?_ (by with_unfolding_all rfl)
    refine wpAny_getItem_list_slice ht.isList (Heap.IsSliceOf.new _ vl vu vs) pl pu ps (by decide) ?_ (by rw [List.size_toArray]; omega)
    rw [PySem.W.krv_pick]
    have hn := I5.hok.fresh (Nat.le_refl _)
    refine ⟨.ref _, _, I5.laid (t' := s4.toks) (o := .lst ws.reverse) (fun b ob q => Heap.get?_push_of_some _ q) (Nat.le_refl _) ?_, rfl, ?_⟩
    · exact ⟨by rw [List.length_reverse]; exact hz, _, 0, r.reverse, Heap.get?_push_size _ rfl⟩
    · refine q _ _ (Ext.upd hn) ⟨_, _, rfl, hn, upd_same, ?_⟩
      exact DqAll.reverse (dpMonoAll (Ext.of fun b o h => by
        obtain ⟨c, h⟩ := frz_of h
        have ne := ne_of_none h hn
        exact frz_mk (fun z => z.elim c fun z => ne z) (by rw [upd_ne ne]; exact h)) _ _ d1)
  · rename_i z
    · cases hg
      obtain ⟨rfl, hz⟩ := ha.strZ
      obtain ⟨t, rfl⟩ := r1
      obtain ⟨l, rfl, el⟩ := IsPart.raw pl
      obtain ⟨u, rfl, eu⟩ := IsPart.raw pu
      obtain ⟨st, rfl, es⟩ := IsPart.raw ps
      refine tail_any (ops := [.str z t, .ref s4.heap.objs.size]) (typeIs_str _ _ _) F.slot_str_getitem.lookup ?_ (by with_unfolding_all rfl)
      refine wpAny_getItem_str_slice (l := l) (u := u) (st := st) ⟨_, Heap.get?_push_size _ rfl, rfl, rfl⟩ (by rw [es]; rfl) ?_
      unfold sliceMade slicePicked
      rw [el, eu, es]
      have e1 : (((some (-1) : Option Int).getD 1 == 1) = false) := rfl
      rw [e1]
      rw [Bool.false_and, if_neg Bool.false_ne_true]
      have e2 : Builtin.Str.strSliceIndices none none ((some (-1) : Option Int).getD 1) z.length = (List.range z.length).map fun k => z.length - 1 - k := by
        show sliceRange ((z.length : Int) - 1) (-1) (-1) = _
        exact PySem.W.krv_sliceRange z.length
      rw [e2, PySem.W.krv_range, List.filterMap_reverse, show z.length = z.cps.size from rfl, PySem.W.krv_all]
      refine ⟨?_, .str _, H4, I5.tok _, ⟨_, rfl⟩, ?_⟩
      · have := hz
        show (z.cps.toList.reverse.toArray).size ≤ _
        rw [List.size_toArray, List.length_reverse]
        exact this
      · exact q _ H4 (Ext.refl _) (.str _ (by
          show (z.cps.toList.reverse.toArray).size ≤ _
          rw [List.size_toArray, List.length_reverse]
          exact hz))
  · rename_i xs
    cases hg
    obtain ⟨p, ws, rfl, s1', d1⟩ := ha.tupT
    cases r1
    obtain ⟨its, r, ht, hz⟩ := I5.tuple (Ext.unfrz.sqT s1')
    have hlen : its.toArray.size = ws.length := by rw [List.size_toArray]; exact r.length.symm
    refine tail_any (ops := [.ref p, .ref s4.heap.objs.size]) ht.typeIs (PyProof.Rows.slot_tuple_getitem.lookup) ?_ (by with_unfolding_all rfl)
    refine getItem_tuple_rev ht (Heap.IsSliceOf.new _ vl vu vs) pl pu ps ?_ (by rw [hlen]; exact hz)
    refine ⟨.ref _, _, I5.laid (t' := s4.toks) (o := .tup ws.reverse) (fun b ob q => Heap.get?_push_of_some _ q) (Nat.le_refl _) ?_, rfl, giveTup hO q (DqAll.reverse d1) _ (I5.hok.fresh (Nat.le_refl _))⟩
    exact ⟨by rw [List.length_reverse]; exact hz, _, r.reverse, IsTup.new _ _⟩
  · cases hg
end
end WM

/-! ## part S: sets of ints and texts -/
namespace WM
open PySem PySem.Spec PyProof.Rows L2

def keyE (e : Int × Value) : Key := match e.2 with | .int k _ => .inl k | .str x _ => .inr x | _ => .inl 0
def GoodM (w : World) (e : Int × Value) : Prop := ∃ k : Key, keyIs k e.2 = true ∧ e.1 = keyH w k
theorem keyE_of {e : Int × Value} {k : Key} (h : keyIs k e.2 = true) : keyE e = k := by
  obtain ⟨h0, v⟩ := e
  rcases keyIs_shape h with ⟨i, t, rfl, e2⟩ | ⟨x, t, rfl, e2⟩
  · have e2 : v = .int i t := e2
    subst e2; rfl
  · have e2 : v = .str x t := e2
    subst e2; rfl
theorem keyIs_scan {k : Key} {v : Value} (h : keyIs k v = true) : v.scannable = true := by
  rcases keyIs_shape h with ⟨i, t, rfl, e2⟩ | ⟨x, t, rfl, e2⟩ <;> subst e2 <;> rfl
theorem goodM_is {w : World} {e : Int × Value} (g : GoodM w e) (k : Key) : keyIs k e.2 = true ↔ keyE e = k := by
  obtain ⟨k0, h1, _⟩ := g
  constructor
  · exact keyE_of
  · intro h
    rw [← h, keyE_of h1]; exact h1
noncomputable def addK (L : List Key) (k : Key) : List Key := @ite _ (k ∈ L) (Classical.propDecidable _) L (k :: L)
noncomputable def foldK (ks : List Key) : List Key := ks.foldl addK []
theorem addK_mem {L : List Key} {k j : Key} : j ∈ addK L k ↔ j ∈ L ∨ j = k := by
  unfold addK
  split
  · rename_i h
    constructor
    · exact .inl
    · rintro (h2 | h2)
      · exact h2
      · rw [h2]; exact h
  · rw [List.mem_cons]; exact Or.comm
theorem addK_nd {L : List Key} {k : Key} (h : L.Nodup) : (addK L k).Nodup := by
  unfold addK
  split
  · exact h
  · rename_i n; exact List.nodup_cons.mpr ⟨n, h⟩
theorem addK_len {L : List Key} {k : Key} : (addK L k).length ≤ L.length + 1 := by
  unfold addK
  split
  · omega
  · simp
theorem foldl_addK_mem : ∀ (ks L : List Key) (j : Key), j ∈ ks.foldl addK L ↔ j ∈ L ∨ j ∈ ks
  | [], L, j => by simp
  | k :: ks, L, j => by rw [List.foldl_cons, foldl_addK_mem ks, addK_mem, List.mem_cons, or_assoc]
theorem foldl_addK_nd : ∀ (ks L : List Key), L.Nodup → (ks.foldl addK L).Nodup
  | [], L, h => h
  | k :: ks, L, h => foldl_addK_nd ks _ (addK_nd h)
theorem foldl_addK_len : ∀ (ks L : List Key), (ks.foldl addK L).length ≤ L.length + ks.length
  | [], L => by simp
  | k :: ks, L => by
    have := foldl_addK_len ks (addK L k)
    have := addK_len (L := L) (k := k)
    rw [List.foldl_cons, List.length_cons]
    omega

/-- the set at a: its members L -/
def SetM (w : World) (h : Heap) (a : Addr) (L : List Key) : Prop :=
  ∃ o es ep t, h.get? a = some o ∧ o.ExactSet ∧ o.data = .set es ep t ∧ (∀ e ∈ es.toList, GoodM w e) ∧ (es.toList.map keyE).Perm L ∧ L.Nodup ∧
    es.size < scanBound ∧ t.fits es.size = true ∧ Ris t.place.toList ∧ (w.params.followText "set-order" = true ∨ t.led = true)
section
variable {P : Program} {w : World} {h h' : Heap} {a : Addr} {L : List Key}
theorem SetM.at (R : SetM w h a L) (k : ∀ o, h.get? a = some o → h'.get? a = some o) : SetM w h' a L := by
  obtain ⟨o, es, ep, t, ho, r⟩ := R
  exact ⟨o, es, ep, t, k o ho, r⟩
theorem goodM_elems {l : List (Int × Value)} (g : ∀ e ∈ l, GoodM w e) : ElemsOf (mixKind P w) l := fun e he => by
  obtain ⟨k, h1, h2⟩ := g e he
  exact ⟨⟨k, h1, h2⟩, keyIs_scan h1⟩
theorem goodM_mem {l : List (Int × Value)} (g : ∀ e ∈ l, GoodM w e) (k : Key) : k ∈ l.map keyE ↔ ∃ e ∈ l, (mixKind P w).is k e.2 = true := by
  rw [List.mem_map]
  constructor
  · rintro ⟨e, he, q⟩
    exact ⟨e, he, (goodM_is (g e he) k).2 q⟩
  · rintro ⟨e, he, q⟩
    exact ⟨e, he, (goodM_is (g e he) k).1 q⟩
end
section
variable {P : Program} {w : World} {A : Around} {E : Value → Shared → Prop} {s : Shared} {a : Addr} {L : List Key}
theorem setM_add_tail {g : Bool → Sem Unit} (hg : ∀ (b : Bool) (s₁ : Shared) (Q' : Unit → Shared → Prop), Q' () s₁ → wpAny (model P w) A (g b) Q' E s₁)
    {o : Obj} {es : Array (Int × Value)} {ep : Nat} {t : SetTable} (ho : s.heap.get? a = some o) (hex : o.ExactSet) (hd : o.data = .set es ep t)
    {es1 : Array (Int × Value)} {t2 : SetTable} {L' : List Key} (g1 : ∀ e ∈ es1.toList, GoodM w e) (p1 : (es1.toList.map keyE).Perm L') (nd1 : L'.Nodup)
    (hb1 : es1.size < scanBound) (hf2 : t2.fits es1.size = true) (hr : Ris t2.place.toList) (hl : w.params.followText "set-order" = true ∨ t2.led = true) {wasDummy : Bool} {R : Option Bool → Shared → Prop}
    (hR : ∀ h', Heap.SameBut a s.heap h' → SetM w h' a L' → R (some true) { s with heap := h' }) :
    wpAny (model P w) A (do
        storeSet a es1 t2
        if (!wasDummy && t2.tooFull) = true then do
            g (relayAll t2 es1 (SetTable.grown es1.size)).2.2
            storeSet a (relayAll t2 es1 (SetTable.grown es1.size)).1 (relayAll t2 es1 (SetTable.grown es1.size)).2.1
            pure (some true)
          else pure (some true)) R E s := by
  refine wpAny_bind (wpAny_storeSet_of ho hd ?_ (fits_of_scanBound hb1))
  have ho1 := store_at (es' := es1) (t' := t2) ho hd
  have sb1 := Heap.SameBut.update s.heap a (Obj.putSet es1 t2)
  split
  · have pm := relayAll_perm t2 es1 (SetTable.grown es1.size)
    have hf3 := relayAll_fits t2 es1 (SetTable.grown es1.size)
    have hr3 := relayAll_ris t2 es1 (SetTable.grown es1.size)
    have hl3 := relayAll_led t2 es1 (SetTable.grown es1.size)
    generalize relayAll t2 es1 (SetTable.grown es1.size) = Z at pm hf3 hr3 hl3 ⊢
    obtain ⟨es2, t3, gave⟩ := Z
    dsimp only at pm hf3 hr3 hl3 ⊢
    have hsz : es2.size = es1.size := by rw [← Array.length_toList, pm.length_eq, Array.length_toList]
    have hb2 : es2.size < scanBound := by rw [hsz]; exact hb1
    refine wpAny_bind (hg _ _ _ ?_)
    refine wpAny_bind (wpAny_storeSet_of ho1 rfl ?_ (fits_of_scanBound hb2))
    have ho2 := store_at (es' := es2) (t' := t3) ho1 rfl
    refine wpAny_pure (hR _ (sb1.trans (Heap.SameBut.update _ a _)) ?_)
    exact ⟨_, es2, _, t3, ho2, hex, rfl, fun e he => g1 e (pm.mem_iff.mp he), (pm.map keyE).trans p1, nd1, hb2, by rw [hsz] at hf3 ⊢; exact hf3, hr3,
      hl.imp id fun z => by rw [hl3]; exact z⟩
  · exact wpAny_pure (hR _ sb1 ⟨_, es1, _, t2, ho1, hex, rfl, g1, p1, nd1, hb1, hf2, hr, hl⟩)

theorem setM_add_hashed {k : Key} {v : Value} (hkey : keyIs k v = true) {Q : Bool → Shared → Prop} (R : SetM w s.heap a L) (room : L.length + 1 < scanBound)
    (hQ : ∀ b h', Heap.SameBut a s.heap h' → SetM w h' a (addK L k) → Q b { s with heap := h' }) :
    wpAny (model P w) A (setAddHashed a v ((mixKind P w).hash k)) Q E s := by
  obtain ⟨o, es, ep, t, ho, hex, hd, g, pL, nd, hb, hf, hr, hl⟩ := R
  have hkey : (mixKind P w).is k v = true := hkey
  have hsc : v.scannable = true := keyIs_scan hkey
  have hel : ElemsOf (mixKind P w) es.toList := goodM_elems g
  have hn : es.size = L.length := by rw [← pL.length_eq, List.length_map, Array.length_toList]
  unfold setAddHashed setAddHashedIn
  refine wpAny_holding (wpAny_bind (wpAny_setState_of ho hd hf ?_))
  dsimp only
  rw [byScan_of hsc hb hel]
  simp only [↓reduceIte]
  unfold setAddByScan
  refine wpAny_bind ?_
  refine wpAny_bind (wpAny_rule ?_)
  refine wpAny_bind (wpAny_setScan_of hkey ho hd hf hel ?_)
  cases hfi : List.findIdx? (fun e => (mixKind P w).is k e.2) es.toList with
  | some j =>
    dsimp only
    obtain ⟨hj, pj, _⟩ := List.findIdx?_eq_some_iff_getElem.mp hfi
    have hSk : k ∈ L := pL.mem_iff.mp ((goodM_mem (P := P) (w := w) g k).2 ⟨es.toList[j], List.getElem_mem hj, pj⟩)
    refine wpAny_pure (wpAny_pure ?_)
    exact hQ _ s.heap (Heap.SameBut.refl a s.heap) ⟨o, es, ep, t, ho, hex, hd, g, by rw [addK, if_pos hSk]; exact pL, addK_nd nd, hb, hf, hr, hl⟩
  | none =>
    dsimp only
    have hnk : k ∉ es.toList.map keyE := fun z => by
      obtain ⟨e, he, q⟩ := (goodM_mem (P := P) (w := w) g k).1 z
      have c := List.findIdx?_eq_none_iff.mp hfi e he
      rw [q] at c
      cases c
    have hSk : k ∉ L := fun z => hnk (pL.mem_iff.mpr z)
    have hgw : ∀ (b : Bool) {s₁ : Shared} {Q' : Unit → Shared → Prop}, Q' () s₁ → wpAny (model P w) A (match b with | true => rule "set.scan.the-table-gave-way" | false => pure ()) Q' E s₁ :=
      fun b s₁ Q' q => by cases b <;> first | exact wpAny_pure q | exact wpAny_rule q
    have pm := layNew_perm t es ((mixKind P w).hash k) v
    have hf1 := layNew_fits t es ((mixKind P w).hash k) v
    have hr1 := layNew_ris t es ((mixKind P w).hash k) v hr
    have hl1 := layNew_led t es ((mixKind P w).hash k) v
    generalize layNew t es ((mixKind P w).hash k) v = Z at pm hf1 hr1 hl1 ⊢
    obtain ⟨es1, t1, wasDummy, gave⟩ := Z
    dsimp only at pm hf1 hr1 hl1 ⊢
    rw [Array.toList_push] at pm
    have pc : es1.toList.Perm (((mixKind P w).hash k, v) :: es.toList) := pm.trans (List.perm_append_singleton _ _)
    have pk : (es1.toList.map keyE).Perm (k :: es.toList.map keyE) := by
      have := pc.map keyE
      rw [List.map_cons, keyE_of (e := ((mixKind P w).hash k, v)) hkey] at this
      exact this
    have g1 : ∀ e ∈ es1.toList, GoodM w e := fun e he => by
      rcases List.mem_cons.mp (pc.mem_iff.mp he) with z | z
      · rw [z]; exact ⟨k, hkey, rfl⟩
      · exact g e z
    have p1 : (es1.toList.map keyE).Perm (addK L k) := by
      rw [addK, if_neg hSk]
      exact pk.trans (pL.cons k)
    have hsz : es1.size = L.length + 1 := by rw [← Array.length_toList, pc.length_eq, List.length_cons, Array.length_toList, hn]
    have hb1 : es1.size < scanBound := by rw [hsz]; exact room
    have hled : w.params.followText "set-order" = true ∨ t1.led = true := hl.imp id fun z => by rw [hl1]; exact z
    have fin : ∀ h', Heap.SameBut a s.heap h' → SetM w h' a (addK L k) → Q true { s with heap := h' } := fun h' sb r => hQ _ h' sb r
    refine wpAny_bind (hgw _ ?_)
    split
    · refine wpAny_bind ?_
      rw [hashByValue_scannable 8 hsc]
      refine wpAny_pure ?_
      refine setM_add_tail ?_ ho hex hd g1 p1 (addK_nd nd) hb1 ?_ ?_ ?_ ?_
      · intro b s₁ Q' q; cases b <;> first | exact wpAny_pure q | exact wpAny_rule q
      · first | (split <;> first | exact hf1 | exact SetTable.fits_plain_off hf1) | exact hf1
      · first | (split <;> exact hr1) | exact hr1
      · first | (split <;> exact hled) | exact hled
      · intro h' sb r; dsimp only; exact wpAny_pure (fin h' sb r)
    · refine wpAny_bind (wpAny_pure ?_)
      simp only [↓reduceIte]
      refine setM_add_tail ?_ ho hex hd g1 p1 (addK_nd nd) hb1 hf1 hr1 hled ?_
      · intro b s₁ Q' q; cases b <;> first | exact wpAny_pure q | exact wpAny_rule q
      · intro h' sb r; dsimp only; exact wpAny_pure (fin h' sb r)
theorem setM_fresh {h : Heap} {a : Addr} (ho : h.get? a = some { cls := .type "set", dict := none, data := .set #[] 0 (.fresh 0 0 (!w.params.followText "set-order")) }) : SetM w h a [] :=
  ⟨_, #[], 0, _, ho, ⟨rfl, rfl, rfl⟩, rfl, (fun e he => by simp at he), List.Perm.nil, List.nodup_nil, (by decide), (by rfl), List.Pairwise.nil, by
    show _ ∨ (!w.params.followText "set-order") = true
    cases w.params.followText "set-order"
    · exact .inr rfl
    · exact .inl rfl⟩
end
section
variable {prog : Program} {w : World} {A : Around} {R : Result → Shared → Prop} {I : Addr} {fp wr : List Addr} {G : Array GenState → Array GenState → Prop} {n : Nat} {P : Nat → Value → Prop} {St : Nat → Shared → Prop}
theorem loopM (W : WalksS prog w A.in1 I fp wr G n P St) (S : Addr) (hSf : S ∉ fp) (ks : List Key) (hsz : ks.length = n) (hn1 : n + 1 < scanBound)
    (hval : ∀ i v, P i v → keyIs (ks.getD i (.inl 0)) v = true) :
    ∀ (k i : Nat) (s : Shared), n - i = k → i ≤ n → St i s →
      SetM w s.heap S (foldK (ks.take i)) →
      (∀ s', Moved (S :: wr) G s s' → SetM w s'.heap S (foldK ks) → R (.ok (.ret .none)) s') →
      codeAny (model prog w) A (.builtin "set.update.loop" ⟨[.ref S, .ref I], []⟩) R s := by
  have hSw : S ∉ wr := fun h => hSf (W.sub _ h)
  have hsub : ∀ b ∈ wr, b ∈ S :: wr := fun b hb => List.mem_cons_of_mem _ hb
  intro k
  induction k with
  | zero =>
    intro i s hk hi hst hS hR
    have hin : i = n := by omega
    subst hin
    refine codeAny_builtin PyProof.Rows.F.entry_set_update_loop ?_
    rw [Around.under_plainId PyProof.Rows.F.plain_set_update_loop _]
    show wpAny _ A.in1 (pyNext (.ref I) >>= _) _ _ s
    refine wpAny_bind (W.done s _ _ hst fun s' hm => ?_)
    show wpAny _ A.in1 (ret Value.none) _ _ s'
    rw [List.take_of_length_le (by omega)] at hS
    exact wpAny_pure (hR s' (hm.mono hsub) (hS.at fun o ho => hm.heap S _ hSw ho))
  | succ k ih =>
    intro i s hk hi hst hS hR
    have hlt : i < n := by omega
    refine codeAny_builtin PyProof.Rows.F.entry_set_update_loop ?_
    rw [Around.under_plainId PyProof.Rows.F.plain_set_update_loop _]
    show wpAny _ A.in1 (pyNext (.ref I) >>= _) _ _ s
    refine wpAny_bind (W.item i s _ _ hlt hst fun v s' hP hst' hm => ?_)
    have hv := hval i v hP
    have hS' : SetM w s'.heap S (foldK (ks.take i)) := hS.at fun o ho => hm.heap S _ hSw ho
    show wpAny _ A.in1 (holding [v] (setAdd S v) >>= _) _ _ s'
    refine wpAny_bind (wpAny_holding ?_)
    unfold setAdd
    refine wpAny_holding ?_
    refine wpAny_bind ((mixKind prog w).pyHash (k := ks.getD i (.inl 0)) hv ?_)
    have hfl : (foldK (ks.take i)).length ≤ i := by
      have := foldl_addK_len (ks.take i) []
      rw [List.length_take, List.length_nil] at this
      unfold foldK
      omega
    refine setM_add_hashed (s := { s' with toks := s'.toks + 1 }) hv hS' (by unfold scanBound at hn1 ⊢; omega) fun b h' hsb hS2 => ?_
    have hSi : SetM w h' S (foldK (ks.take (i + 1))) := by
      have e : ks.take (i + 1) = ks.take i ++ [ks.getD i (.inl 0)] := by
        rw [List.take_succ, List.getD_eq_getElem?_getD, List.getElem?_eq_getElem (by omega)]
        rfl
      rw [e, foldK, List.foldl_append]
      exact hS2
    refine wpAny_pure ⟨plainId_quiet PyProof.Rows.F.plain_set_update_loop _, ih (i + 1) _ (by omega) hlt (W.frame _ s' _ _ hst' (Nat.le_succ _) fun b hb o e => ?_) hSi fun s'' hm'' hS'' => ?_⟩
    · rw [hsb.2 b (fun h : b = S => hSf (by rw [← h]; exact hb))]; exact e
    · refine hR s'' (Moved.trans W.gtrans ((hm.mono hsub).then_heap (Nat.le_succ _) fun b o hb e => ?_) hm'') hS''
      rw [hsb.2 b (fun h : b = S => hb (by rw [h]; exact List.mem_cons_self))]; exact e
end
/-- values that are keys -/
def KeysAre : List Value → List Key → Prop
  | [], [] => True
  | v :: vs, k :: ks => keyIs k v = true ∧ KeysAre vs ks
  | _, _ => False
theorem KeysAre.len : ∀ {vs : List Value} {ks : List Key}, KeysAre vs ks → vs.length = ks.length
  | [], [], _ => rfl
  | _ :: _, _ :: _, h => by rw [List.length_cons, List.length_cons, KeysAre.len h.2]
  | [], _ :: _, h => h.elim
  | _ :: _, [], h => h.elim
theorem KeysAre.at : ∀ {vs : List Value} {ks : List Key}, KeysAre vs ks → ∀ (i : Nat) (v : Value), vs[i]? = some v → keyIs (ks.getD i (.inl 0)) v = true
  | [], [], _, i, v, h => by simp at h
  | _ :: _, _ :: _, g, 0, v, h => by
    simp at h; subst h
    exact g.1
  | _ :: _, _ :: _, g, i + 1, v, h => by
    simp only [List.getElem?_cons_succ] at h
    exact KeysAre.at g.2 i v h
  | [], _ :: _, h, _, _, _ => h.elim
  | _ :: _, [], h, _, _, _ => h.elim
set_option maxRecDepth 100000 in
set_option maxHeartbeats 3200000 in
theorem call_setM_list {w : World} {P : Program} {A : Around} {E : Value → Shared → Prop} {s : Shared} {l : Addr} {items : Array Value} (ks : List Key) {Q : Value → Shared → Prop} (hh : A.handled = none) (hl : s.heap.IsList l items) (hit : KeysAre items.toList ks)
    (hfew : ks.length + 1 < scanBound)
    (h : ∀ (h' : Heap) (tk : Nat), SetM w h' s.heap.objs.size (foldK ks) → (∀ b o, s.heap.get? b = some o → h'.get? b = some o) → Q (.ref s.heap.objs.size) { s with heap := h', toks := tk }) :
    wpAny (model P w) A (PySem.call (.type "set") [.ref l]) Q E s := by
  have hisz : ks.length = items.size := by rw [← hit.len, Array.length_toList]
  obtain ⟨c, tl, hmro⟩ := PySem.F.called_set.mro
  have hmade := PySem.F.called_set.made
  have hsub := PySem.F.called_set.sub
  refine wpAny_call (codeAny_of_tree ?_)
  show wpAny _ _ (callAny (.type "set") _) _ _ _
  refine wpAny_pure ⟨Code.quiet_builtin _ (by decide +kernel), codeAny_builtin PySem.F.entry_type_call ?_⟩
  rw [Around.under_plain (weight_type_call_type "set" [.ref l] []) rfl]
  have h1 := PySem.F.called_set.notType
  have h2 := PySem.F.called_set.canCreate
  have hct := PySem.F.typeCall_set_1 (.ref l)
  repeat (any_goals (first | assumption | wp_step))
  refine codeAny_mono (code_set_led1 (.ref l) (E := E) (Q₁ := fun obj s₁ => obj = .ref s.heap.objs.size ∧ s₁ = { s with heap := s.heap.push { cls := .type "set", dict := none, data := .set #[] 0 (.fresh 0 0 (!w.params.followText "set-order")) } }) ⟨rfl, rfl⟩) fun r s₁ hr => ?_
  cases r with
  | error e => exact hr
  | ok fl =>
    cases fl with
    | ret obj =>
      obtain ⟨rfl, rfl⟩ := hr
      have hS : (s.heap.push { cls := .type "set", dict := none, data := .set #[] 0 (.fresh 0 0 (!w.params.followText "set-order")) }).get? s.heap.objs.size = some { cls := .type "set", dict := none, data := .set #[] 0 (.fresh 0 0 (!w.params.followText "set-order")) } := Heap.get?_push_size _ rfl
      have hT : Shared.TypeIs { s with heap := s.heap.push { cls := .type "set", dict := none, data := .set #[] 0 (.fresh 0 0 (!w.params.followText "set-order")) } } (.ref s.heap.objs.size) "set" := ⟨_, hS, rfl⟩
      have hli := PySem.F.called_set.init.lookup
      have hbi := PySem.F.called_set.init.bind (.ref s.heap.objs.size)
      repeat (any_goals (first | assumption | wp_step))
      refine codeAny_mono (codeAny_call_builtin (R := wants (fun r s₂ => r = .none ∧ ∃ h' tk, s₂ = { s with heap := h', toks := tk } ∧ SetM w h' s.heap.objs.size (foldK ks) ∧
          (∀ b o, s.heap.get? b = some o → h'.get? b = some o)) E) PySem.F.called_set.init.plain PySem.F.entry_set_init (check_set_init_1 hT ?_)) fun r₂ s₂ hr₂ => ?_
      · obtain ⟨ol, hol, hcl, nl, hdl⟩ := hl
        obtain ⟨ocls, odict, odata, oslots⟩ := ol
        simp only at hcl hdl
        subst hcl; subst hdl
        have hol' : (s.heap.push { cls := .type "set", dict := none, data := .set #[] 0 (.fresh 0 0 (!w.params.followText "set-order")) }).get? l = some { cls := .type "list", dict := odict, data := .seq items nl, slots := oslots } := Heap.get?_push_of_some _ hol
        have hsls := PySem.F.sub_list_set
        have hslf := PySem.F.sub_list_frozenset
        have hne : (Value.type "list" == Value.type "dict") = false := by decide
        have hl1 : (s.heap.push { cls := .type "set", dict := none, data := .set #[] 0 (.fresh 0 0 (!w.params.followText "set-order")) }).IsList l items := ⟨_, hol', rfl, nl, rfl⟩
        unfold Builtin.«set.__init__» noKeywords Builtin.Frozenset.updateFrom
        generalize hPI : pyIter = PI
        wp_walk
        subst hPI
        refine wpAny_pyIter_list hl1 ?_
        refine wpAny_bind (wpAny_runValue ?_)
        have hlS : l < s.heap.objs.size := Heap.lt_size hol
        have hh3 : A.in1.in1.in1.handled = none := by simp [hh]
        have hneI : l ≠ (s.heap.push { cls := .type "set", dict := none, data := .set #[] 0 (.fresh 0 0 (!w.params.followText "set-order")) }).objs.size := by
          rw [Heap.size_push]; exact Nat.ne_of_lt (Nat.lt_succ_of_lt hlS)
        have hSf : s.heap.objs.size ∉ [(s.heap.push { cls := .type "set", dict := none, data := .set #[] 0 (.fresh 0 0 (!w.params.followText "set-order")) }).objs.size, l] := by
          rw [Heap.size_push]; simp only [List.mem_cons, List.mem_singleton, List.not_mem_nil, or_false, not_or]
          exact ⟨Nat.ne_of_lt (Nat.lt_succ_self _), Nat.ne_of_gt hlS⟩
        have hval : ∀ (i : Nat) (v : Value), items[i]? = some v → keyIs (ks.getD i (.inl 0)) v = true := fun i v hv => hit.at i v (by rw [Array.getElem?_toList]; exact hv)
        refine loopM ((Walks.list hh3 _ l hneI items).toS) s.heap.objs.size
          hSf ks hisz (by rw [← hisz]; exact hfew) hval (items.size - 0) 0 _ (by omega) (Nat.zero_le _)
          ⟨⟨_, Heap.get?_push_size _ rfl, rfl, rfl⟩, (hl1.push _)⟩ ?hS0 ?hR
        case hS0 =>
          have hget : ((s.heap.push { cls := .type "set", dict := none, data := .set #[] 0 (.fresh 0 0 (!w.params.followText "set-order")) }).push { cls := .type "list_iterator", data := .fields #[.ref l, .int 0 0] }).get? s.heap.objs.size
              = some { cls := .type "set", dict := none, data := .set #[] 0 (.fresh 0 0 (!w.params.followText "set-order")) } := Heap.get?_push_of_some _ hS
          exact setM_fresh hget
        case hR =>
          intro s' hm hS'
          obtain ⟨h', g', d', tk', os'⟩ := s'
          have eg : g' = s.gens := hm.gens
          have ed : d' = s.drawn := hm.drawn
          have eo : os' = s.os := hm.os
          subst eg; subst ed; subst eo
          show wpAny _ _ _ _ _ _
          refine wpAny_pure ?_
          show wpAny _ _ (ret Value.none) _ _ _
          refine wpAny_pure ⟨rfl, h', tk', rfl, hS', fun b o e => ?_⟩
          have hb : b < s.heap.objs.size := Heap.lt_size e
          have hb1 : b ≠ s.heap.objs.size := Nat.ne_of_lt hb
          have hb2 : b ≠ (s.heap.push { cls := .type "set", dict := none, data := .set #[] 0 (.fresh 0 0 (!w.params.followText "set-order")) }).objs.size := by
            rw [Heap.size_push]; exact Nat.ne_of_lt (Nat.lt_succ_of_lt hb)
          exact hm.heap b o (by simp only [List.mem_cons, List.mem_singleton, List.not_mem_nil, or_false, not_or]; exact ⟨hb1, hb2⟩) (Heap.get?_push_of_some _ (Heap.get?_push_of_some _ e))
      · cases r₂ with
        | error e => exact hr₂
        | ok fl₂ =>
          cases fl₂ with
          | ret r =>
            obtain ⟨rfl, h', tk, rfl, hS', hk'⟩ := hr₂
            repeat (any_goals (first | assumption | wp_step))
            exact h _ _ hS' hk'
          | _ => exact hr₂.elim
    | _ => exact hr.elim

set_option maxRecDepth 100000 in
set_option maxHeartbeats 3200000 in
theorem call_setM_tuple {w : World} {P : Program} {A : Around} {E : Value → Shared → Prop} {s : Shared} {l : Addr} {items : Array Value} (ks : List Key) {Q : Value → Shared → Prop} (hh : A.handled = none) (hl : s.heap.IsTuple l items) (hit : KeysAre items.toList ks)
    (hfew : ks.length + 1 < scanBound)
    (h : ∀ (h' : Heap) (tk : Nat), SetM w h' s.heap.objs.size (foldK ks) → (∀ b o, s.heap.get? b = some o → h'.get? b = some o) → Q (.ref s.heap.objs.size) { s with heap := h', toks := tk }) :
    wpAny (model P w) A (PySem.call (.type "set") [.ref l]) Q E s := by
  have hisz : ks.length = items.size := by rw [← hit.len, Array.length_toList]
  obtain ⟨c, tl, hmro⟩ := PySem.F.called_set.mro
  have hmade := PySem.F.called_set.made
  have hsub := PySem.F.called_set.sub
  refine wpAny_call (codeAny_of_tree ?_)
  show wpAny _ _ (callAny (.type "set") _) _ _ _
  refine wpAny_pure ⟨Code.quiet_builtin _ (by decide +kernel), codeAny_builtin PySem.F.entry_type_call ?_⟩
  rw [Around.under_plain (weight_type_call_type "set" [.ref l] []) rfl]
  have h1 := PySem.F.called_set.notType
  have h2 := PySem.F.called_set.canCreate
  have hct := PySem.F.typeCall_set_1 (.ref l)
  repeat (any_goals (first | assumption | wp_step))
  refine codeAny_mono (code_set_led1 (.ref l) (E := E) (Q₁ := fun obj s₁ => obj = .ref s.heap.objs.size ∧ s₁ = { s with heap := s.heap.push { cls := .type "set", dict := none, data := .set #[] 0 (.fresh 0 0 (!w.params.followText "set-order")) } }) ⟨rfl, rfl⟩) fun r s₁ hr => ?_
  cases r with
  | error e => exact hr
  | ok fl =>
    cases fl with
    | ret obj =>
      obtain ⟨rfl, rfl⟩ := hr
      have hS : (s.heap.push { cls := .type "set", dict := none, data := .set #[] 0 (.fresh 0 0 (!w.params.followText "set-order")) }).get? s.heap.objs.size = some { cls := .type "set", dict := none, data := .set #[] 0 (.fresh 0 0 (!w.params.followText "set-order")) } := Heap.get?_push_size _ rfl
      have hT : Shared.TypeIs { s with heap := s.heap.push { cls := .type "set", dict := none, data := .set #[] 0 (.fresh 0 0 (!w.params.followText "set-order")) } } (.ref s.heap.objs.size) "set" := ⟨_, hS, rfl⟩
      have hli := PySem.F.called_set.init.lookup
      have hbi := PySem.F.called_set.init.bind (.ref s.heap.objs.size)
      repeat (any_goals (first | assumption | wp_step))
      refine codeAny_mono (codeAny_call_builtin (R := wants (fun r s₂ => r = .none ∧ ∃ h' tk, s₂ = { s with heap := h', toks := tk } ∧ SetM w h' s.heap.objs.size (foldK ks) ∧
          (∀ b o, s.heap.get? b = some o → h'.get? b = some o)) E) PySem.F.called_set.init.plain PySem.F.entry_set_init (check_set_init_1 hT ?_)) fun r₂ s₂ hr₂ => ?_
      · obtain ⟨ol, hol, hcl, nl, hdl⟩ := hl
        obtain ⟨ocls, odict, odata, oslots⟩ := ol
        simp only at hcl hdl
        subst hcl; subst hdl
        have hol' : (s.heap.push { cls := .type "set", dict := none, data := .set #[] 0 (.fresh 0 0 (!w.params.followText "set-order")) }).get? l = some { cls := .type "tuple", dict := odict, data := .seq items nl, slots := oslots } := Heap.get?_push_of_some _ hol
        have hsls := PySem.F.sub_tuple_set
        have hslf := PySem.F.sub_tuple_frozenset
        have hne : (Value.type "tuple" == Value.type "dict") = false := by decide
        have hl1 : (s.heap.push { cls := .type "set", dict := none, data := .set #[] 0 (.fresh 0 0 (!w.params.followText "set-order")) }).IsTuple l items := ⟨_, hol', rfl, nl, rfl⟩
        unfold Builtin.«set.__init__» noKeywords Builtin.Frozenset.updateFrom
        generalize hPI : pyIter = PI
        wp_walk
        subst hPI
        refine wpAny_pyIter_tuple hl1 ?_
        refine wpAny_bind (wpAny_runValue ?_)
        have hlS : l < s.heap.objs.size := Heap.lt_size hol
        have hh3 : A.in1.in1.in1.handled = none := by simp [hh]
        have hneI : l ≠ (s.heap.push { cls := .type "set", dict := none, data := .set #[] 0 (.fresh 0 0 (!w.params.followText "set-order")) }).objs.size := by
          rw [Heap.size_push]; exact Nat.ne_of_lt (Nat.lt_succ_of_lt hlS)
        have hSf : s.heap.objs.size ∉ [(s.heap.push { cls := .type "set", dict := none, data := .set #[] 0 (.fresh 0 0 (!w.params.followText "set-order")) }).objs.size, l] := by
          rw [Heap.size_push]; simp only [List.mem_cons, List.mem_singleton, List.not_mem_nil, or_false, not_or]
          exact ⟨Nat.ne_of_lt (Nat.lt_succ_self _), Nat.ne_of_gt hlS⟩
        have hval : ∀ (i : Nat) (v : Value), items[i]? = some v → keyIs (ks.getD i (.inl 0)) v = true := fun i v hv => hit.at i v (by rw [Array.getElem?_toList]; exact hv)
        refine loopM ((Walks.tuple hh3 _ l hneI items).toS) s.heap.objs.size
          hSf ks hisz (by rw [← hisz]; exact hfew) hval (items.size - 0) 0 _ (by omega) (Nat.zero_le _)
          ⟨⟨_, Heap.get?_push_size _ rfl, rfl, rfl⟩, (hl1.push _)⟩ ?hS0 ?hR
        case hS0 =>
          have hget : ((s.heap.push { cls := .type "set", dict := none, data := .set #[] 0 (.fresh 0 0 (!w.params.followText "set-order")) }).push { cls := .type "tuple_iterator", data := .fields #[.ref l, .int 0 0] }).get? s.heap.objs.size
              = some { cls := .type "set", dict := none, data := .set #[] 0 (.fresh 0 0 (!w.params.followText "set-order")) } := Heap.get?_push_of_some _ hS
          exact setM_fresh hget
        case hR =>
          intro s' hm hS'
          obtain ⟨h', g', d', tk', os'⟩ := s'
          have eg : g' = s.gens := hm.gens
          have ed : d' = s.drawn := hm.drawn
          have eo : os' = s.os := hm.os
          subst eg; subst ed; subst eo
          show wpAny _ _ _ _ _ _
          refine wpAny_pure ?_
          show wpAny _ _ (ret Value.none) _ _ _
          refine wpAny_pure ⟨rfl, h', tk', rfl, hS', fun b o e => ?_⟩
          have hb : b < s.heap.objs.size := Heap.lt_size e
          have hb1 : b ≠ s.heap.objs.size := Nat.ne_of_lt hb
          have hb2 : b ≠ (s.heap.push { cls := .type "set", dict := none, data := .set #[] 0 (.fresh 0 0 (!w.params.followText "set-order")) }).objs.size := by
            rw [Heap.size_push]; exact Nat.ne_of_lt (Nat.lt_succ_of_lt hb)
          exact hm.heap b o (by simp only [List.mem_cons, List.mem_singleton, List.not_mem_nil, or_false, not_or]; exact ⟨hb1, hb2⟩) (Heap.get?_push_of_some _ (Heap.get?_push_of_some _ e))
      · cases r₂ with
        | error e => exact hr₂
        | ok fl₂ =>
          cases fl₂ with
          | ret r =>
            obtain ⟨rfl, h', tk, rfl, hS', hk'⟩ := hr₂
            repeat (any_goals (first | assumption | wp_step))
            exact h _ _ hS' hk'
          | _ => exact hr₂.elim
    | _ => exact hr.elim

set_option maxRecDepth 100000 in
set_option maxHeartbeats 3200000 in
theorem call_setM_str {w : World} {P : Program} {A : Around} {E : Value → Shared → Prop} {s : Shared} {x : Str} {tk0 : Tok} (ks : List Key) {Q : Value → Shared → Prop} (hh : A.handled = none) (hit : ks = (cs x).map fun c => .inr (mkS [c]))
    (hfew : ks.length + 1 < scanBound)
    (h : ∀ (h' : Heap) (tk : Nat), SetM w h' s.heap.objs.size (foldK ks) → (∀ b o, s.heap.get? b = some o → h'.get? b = some o) → Q (.ref s.heap.objs.size) { s with heap := h', toks := tk }) :
    wpAny (model P w) A (PySem.call (.type "set") [.str x tk0]) Q E s := by
  have hisz : ks.length = x.cps.size := by rw [hit, List.length_map]; simp [cs]
  obtain ⟨c, tl, hmro⟩ := PySem.F.called_set.mro
  have hmade := PySem.F.called_set.made
  have hsub := PySem.F.called_set.sub
  refine wpAny_call (codeAny_of_tree ?_)
  show wpAny _ _ (callAny (.type "set") _) _ _ _
  refine wpAny_pure ⟨Code.quiet_builtin _ (by decide +kernel), codeAny_builtin PySem.F.entry_type_call ?_⟩
  rw [Around.under_plain (weight_type_call_type "set" [.str x tk0] []) rfl]
  have h1 := PySem.F.called_set.notType
  have h2 := PySem.F.called_set.canCreate
  have hct := PySem.F.typeCall_set_1 (.str x tk0)
  repeat (any_goals (first | assumption | wp_step))
  refine codeAny_mono (code_set_led1 (.str x tk0) (E := E) (Q₁ := fun obj s₁ => obj = .ref s.heap.objs.size ∧ s₁ = { s with heap := s.heap.push { cls := .type "set", dict := none, data := .set #[] 0 (.fresh 0 0 (!w.params.followText "set-order")) } }) ⟨rfl, rfl⟩) fun r s₁ hr => ?_
  cases r with
  | error e => exact hr
  | ok fl =>
    cases fl with
    | ret obj =>
      obtain ⟨rfl, rfl⟩ := hr
      have hS : (s.heap.push { cls := .type "set", dict := none, data := .set #[] 0 (.fresh 0 0 (!w.params.followText "set-order")) }).get? s.heap.objs.size = some { cls := .type "set", dict := none, data := .set #[] 0 (.fresh 0 0 (!w.params.followText "set-order")) } := Heap.get?_push_size _ rfl
      have hT : Shared.TypeIs { s with heap := s.heap.push { cls := .type "set", dict := none, data := .set #[] 0 (.fresh 0 0 (!w.params.followText "set-order")) } } (.ref s.heap.objs.size) "set" := ⟨_, hS, rfl⟩
      have hli := PySem.F.called_set.init.lookup
      have hbi := PySem.F.called_set.init.bind (.ref s.heap.objs.size)
      repeat (any_goals (first | assumption | wp_step))
      refine codeAny_mono (codeAny_call_builtin (R := wants (fun r s₂ => r = .none ∧ ∃ h' tk, s₂ = { s with heap := h', toks := tk } ∧ SetM w h' s.heap.objs.size (foldK ks) ∧
          (∀ b o, s.heap.get? b = some o → h'.get? b = some o)) E) PySem.F.called_set.init.plain PySem.F.entry_set_init (check_set_init_1 hT ?_)) fun r₂ s₂ hr₂ => ?_
      · have hsls := PySem.F.sub_str_set
        have hslf := PySem.F.sub_str_frozenset
        have hne : (Value.type "str" == Value.type "dict") = false := by decide
        unfold Builtin.«set.__init__» noKeywords Builtin.Frozenset.updateFrom
        generalize hPI : pyIter = PI
        wp_walk
        subst hPI
        refine wpAny_pyIter_str fun ob St W hst => ?_
        refine wpAny_bind (wpAny_runValue ?_)
        have hh3 : A.in1.in1.in1.handled = none := by simp [hh]
        have hz1 : (s.heap.push { cls := .type "set", dict := none, data := .set #[] 0 (.fresh 0 0 (!w.params.followText "set-order")) }).objs.size = s.heap.objs.size + 1 := Heap.size_push ..
        have hSf : s.heap.objs.size ∉ [(s.heap.push { cls := .type "set", dict := none, data := .set #[] 0 (.fresh 0 0 (!w.params.followText "set-order")) }).objs.size] := by
          rw [hz1]; simp
        have hval : ∀ (i : Nat) (v : Value), SignAt x i v → keyIs (ks.getD i (.inl 0)) v = true := fun i v ⟨c, u, hc, hv⟩ => by
          have e : (cs x)[i]? = some c := by unfold cs; rw [Array.getElem?_toList]; exact hc
          rw [hit, List.getD_eq_getElem?_getD, List.getElem?_map, e, hv]
          exact keyIs_str _ _
        refine loopM ((W _ hh3).toS) s.heap.objs.size
          hSf ks hisz (by rw [← hisz]; exact hfew) hval (x.cps.size - 0) 0 _ (by omega) (Nat.zero_le _)
          hst ?hS0 ?hR
        case hS0 => exact setM_fresh (Heap.get?_push_of_some _ hS)
        case hR =>
          intro s' hm hS'
          obtain ⟨h', g', d', tk', os'⟩ := s'
          have eg : g' = s.gens := hm.gens
          have ed : d' = s.drawn := hm.drawn
          have eo : os' = s.os := hm.os
          subst eg; subst ed; subst eo
          show wpAny _ _ _ _ _ _
          refine wpAny_pure ?_
          show wpAny _ _ (ret Value.none) _ _ _
          refine wpAny_pure ⟨rfl, h', tk', rfl, hS', fun b o e => ?_⟩
          have hb : b < s.heap.objs.size := Heap.lt_size e
          have hb1 : b ≠ s.heap.objs.size := Nat.ne_of_lt hb
          have hb2 : b ≠ (s.heap.push { cls := .type "set", dict := none, data := .set #[] 0 (.fresh 0 0 (!w.params.followText "set-order")) }).objs.size := by
            rw [Heap.size_push]; exact Nat.ne_of_lt (Nat.lt_succ_of_lt hb)
          exact hm.heap b o (by simp only [List.mem_cons, List.mem_singleton, List.not_mem_nil, or_false, not_or]; exact ⟨hb1, hb2⟩) (Heap.get?_push_of_some _ (Heap.get?_push_of_some _ e))
      · cases r₂ with
        | error e => exact hr₂
        | ok fl₂ =>
          cases fl₂ with
          | ret r =>
            obtain ⟨rfl, h', tk, rfl, hS', hk'⟩ := hr₂
            repeat (any_goals (first | assumption | wp_step))
            exact h _ _ hS' hk'
          | _ => exact hr₂.elim
    | _ => exact hr.elim

/-! ### sorted -/
section
variable {P : Program} {w : World} {A : Around} {E : Value → Shared → Prop} {s : Shared}
theorem collect_tuple {l : Addr} {vs : List Value} {Q : List Value → Shared → Prop} (hl : s.heap.IsTuple l vs.toArray)
    (h : Q vs { s with heap := (s.heap.push (seqObj "list" #[] 0)).update s.heap.objs.size (Obj.mapSeq (· ++ vs.toArray)) }) (hsz : vs.length ≤ sizeLine) :
    wpAny (model P w) A (collect (.ref l)) Q E s := by
  obtain ⟨o, ho, hc, n, hd⟩ := id hl
  unfold collect
  refine wpAny_bind (wpAny_runValue (codeAny_builtin entry_proto_collect' ?_))
  show wpAny _ _ (do again (.builtin "list.__iadd__" ⟨[← newList [], .ref l], []⟩)) _ _ s
  refine wpAny_bind (wpAny_newList (wpAny_pure ⟨Code.quiet_builtin _ (by decide +kernel), codeAny_builtin entry_list_iadd' ?_⟩))
  show wpAny _ _ (Builtin.List.listExtendWith (.ref s.heap.objs.size) (.ref l) (.ref s.heap.objs.size)) _ _ { s with heap := s.heap.push (seqObj "list" #[] 0) }
  unfold Builtin.List.listExtendWith
  have ho' : (s.heap.push (seqObj "list" #[] 0)).get? l = some o := Heap.get?_push_of_some _ ho
  refine wpAny_bind (wpAny_typeOf (T := "tuple") ⟨o, ho', hc⟩ ?_)
  have ht : (Value.type "tuple" == Value.type "tuple") = true := by rfl
  rw [if_pos (by rw [ht]; simp)]
  refine wpAny_bind (listItems_at ho' hd ?_)
  refine wpAny_bind (listItems_at (xs := #[]) (n := 0) (Heap.get?_push_size _ rfl) rfl ?_)
  rw [if_neg (by simp)]
  refine wpAny_bind (listUpdate_at (xs := #[]) (n := 0) (Heap.get?_push_size _ rfl) rfl ?_ (Nat.zero_le _) (by show (#[] ++ vs.toArray).size ≤ sizeLine + 1; simp only [Array.size_append, List.size_toArray, List.length_nil]; simp; omega))
  refine wpAny_pure ?_
  show wpAny (model P w) A (do
      let o ← load s.heap.objs.size
      match o.data with
      | .seq xs _ => pure xs.toList
      | _ => unsupported "internal:collect") Q E { s with heap := (s.heap.push (seqObj "list" #[] 0)).update s.heap.objs.size (Obj.mapSeq (· ++ vs.toArray)) }
  refine wpAny_bind (wpAny_load (get?_update_seq (Heap.get?_push_size _ rfl) _) ?_)
  show wpAny _ _ (pure ((#[] : Array Value) ++ vs.toArray).toList) Q E _
  rw [show ((#[] : Array Value) ++ vs.toArray).toList = vs by simp]
  exact wpAny_pure h
theorem sorted_from {x : Value} {C : List Value → Prop} {R : Value → D → Prop} {G : List D → Prop} {Q : Value → Shared → Prop}
    (hcol : ∀ (Q' : List Value → Shared → Prop), (∀ s1 vs, (∀ b o, s.heap.get? b = some o → s1.heap.get? b = some o) → s.heap.objs.size ≤ s1.heap.objs.size → s1.gens = s.gens → s1.os = s.os → C vs → Q' vs s1) → wpAny (model P w) A.in1 (collect x) Q' E s)
    (hC : ∀ vs, C vs → ∃ ds, PySem.W.EachIs R vs ds ∧ PySem.W.EachIs (fun v b => ∃ as, Reads s.heap v b as) vs ds ∧ PySem.W.AllAlike ds ∧ PySem.W.Sortable ds ∧ ds.length ≤ sizeLine ∧ (∀ d ∈ ds, A.units + 2 + d.depth < cLine) ∧ G ds)
    (hQ : ∀ s' p (out : Array Value) (c : Nat) (ds : List D), (∀ b o, s.heap.get? b = some o → s'.heap.get? b = some o) → s'.gens = s.gens → s'.os = s.os → s.heap.objs.size ≤ p →
      s'.heap.get? p = some (seqObj "list" out c) → PySem.W.EachIs R out.toList (ds.mergeSort (PySem.W.dataLe false id)) → ds.length ≤ sizeLine → G ds → Q (.ref p) s') :
    wpAny (model P w) A (PySem.call (.builtin "sorted") [x]) Q E s := by
  refine Calls.call_function_entry kind_sorted plain_sorted entry_sorted (args_sorted1 _) ?_
  unfold Builtin.«sorted»
  refine wpAny_bind (m := checkCount "sorted" 1 1 _) (wpAny_pure ?_)
  refine wpAny_bind (hcol _ fun s1 vs k1 hz g1 o1 hc => ?_)
  obtain ⟨ds, e, er, hal, hk, hL, hu, hG⟩ := hC vs hc
  have hvl : vs.length = ds.length := e.length
  refine wpAny_bind (wpAny_newList ?_ (by rw [hvl]; exact hL))
  have hoL : (s1.heap.push (seqObj "list" vs.toArray 0)).get? s1.heap.objs.size = some (seqObj "list" vs.toArray 0) := Heap.get?_push_size _ rfl
  have old : ∀ b o, s.heap.get? b = some o → (s1.heap.push (seqObj "list" vs.toArray 0)).get? b = some o := fun b o q => Heap.get?_push_of_some _ (k1 b o q)
  have ne : ∀ b o, s.heap.get? b = some o → b ≠ s1.heap.objs.size := fun b o q => Nat.ne_of_lt (Heap.lt_size (k1 b o q))
  have er' : PySem.W.EachIs (fun v d => ∃ as, Reads (PySem.W.sortingHeap (s1.heap.push (seqObj "list" vs.toArray 0)) s1.heap.objs.size vs) v d as) vs ds :=
    er.mono fun v d ⟨as, r⟩ => ⟨as, PyProof.Rows.Reads.keeps (fun b o q => PySem.W.sortingHeap_old (ne b o q) (old b o q)) r⟩
  refine wpAny_bind (wpAny_holding (wpAny_call_entry slot_list_sort ⟨_, hoL, rfl⟩ entry_list_sort (PySem.W.list_sort_vals (s := { s1 with heap := s1.heap.push (seqObj "list" vs.toArray 0) }) (κ := PySem.W.dataKind (PySem.W.sortingHeap (s1.heap.push (seqObj "list" vs.toArray 0)) s1.heap.objs.size vs) ds) hoL
    (PySem.W.SortsAt.data (s := { s1 with heap := PySem.W.sortingHeap (s1.heap.push (seqObj "list" vs.toArray 0)) s1.heap.objs.size vs }) er' hal hk (fun d hd => hu d hd)) (by rw [hvl]; exact hL) ⟨_, rfl, ?_⟩) (args_list_sort _)))
  have hs := PySem.W.sortVals_data (h' := PySem.W.sortingHeap (s1.heap.push (seqObj "list" vs.toArray 0)) s1.heap.objs.size vs) (enc := id) false e (er'.mono fun _ _ z => z) (by rw [List.map_id]; exact hal)
  rw [List.map_id] at hs
  obtain ⟨c, hcc⟩ := sortedHeap_at (vs := vs) (out := (PySem.W.sortVals (PySem.W.dataKind (PySem.W.sortingHeap (s1.heap.push (seqObj "list" vs.toArray 0)) s1.heap.objs.size vs) ds) false vs vs).toArray) hoL
  refine wpAny_pure ⟨_, rfl, hQ _ s1.heap.objs.size _ c ds (fun b u q => ?_) g1 o1 hz hcc hs hL hG⟩
  have q' := k1 b u q
  have hlt := Heap.lt_size q'
  show (sortedHeap (s1.heap.push (seqObj "list" vs.toArray 0)) s1.heap.objs.size vs _).get? b = some u
  rw [sortedHeap_old (Nat.ne_of_lt hlt) (by rw [size_push']; exact Nat.lt_succ_of_lt hlt)]
  exact Heap.get?_push_of_some _ q'
end
section
variable {X : Cx} {pins : List (Addr × Obj)} {σ : L2.St} {H : Hp} {s : Shared}
theorem each_split {K : Frag} {F : Hp} : ∀ {out : List Value} {ds : List D}, PySem.W.EachIs (fun v d => ∃ x, RelV x v ∧ Dq K F x d) out ds → ∃ xs, Vals xs out ∧ DqAll K F xs ds
  | _, _, .nil => ⟨[], .nil, .nil⟩
  | _, _, .cons ⟨x, h1, h2⟩ t => by
    obtain ⟨xs, k1, k2⟩ := each_split t
    exact ⟨x :: xs, .cons h1 k1, .cons h2 k2⟩
theorem each_join {K : Frag} {F : Hp} : ∀ {xs : List V} {us : List Value} {ds : List D}, Vals xs us → DqAll K F xs ds → PySem.W.EachIs (fun v d => ∃ x, RelV x v ∧ Dq K F x d) us ds
  | _, _, _, .nil, .nil => .nil
  | _, _, _, .cons h1 t, .cons h2 u => .cons ⟨_, h1, h2⟩ (each_join t u)
theorem each_reads {h : Heap} : ∀ {us : List Value} {ds : List D} {as : List Addr}, ReadsAll h us ds as → PySem.W.EachIs (fun v b => ∃ as, Reads h v b as) us ds
  | _, _, _, .nil => .nil
  | _, _, _, .cons h1 t => .cons ⟨_, h1⟩ (each_reads t)
theorem laidL (I : Inv X pins σ H s) {s' : Shared} {p : Addr} {out : Array Value} {c : Nat} {xs : List V} (k : ∀ b o, s.heap.get? b = some o → s'.heap.get? b = some o) (g : s'.gens = s.gens) (o : s'.os = s.os) (hp : s.heap.objs.size ≤ p)
    (hg : s'.heap.get? p = some (seqObj "list" out c)) (hv : Vals xs out.toList) (hl : xs.length ≤ sizeLine) : H p = none ∧ Inv X pins σ (upd H p (.lst xs)) s' := by
  have hn : H p = none := I.hok.fresh hp
  exact ⟨hn, I.call' (ch := []) o (Un.laid k hp hn) (I.hok.laid k hp ⟨hl, out.toList, c, hv, hg⟩) (by rw [g]; exact I.bare) (fun _ z => nomatch z)⟩
end
end WM

/-! ## part S2: sorted, sorted(set(..)), len(set(..)) -/
namespace WM
open PySem PySem.Spec PyProof.Rows L2

theorem sortOk_iff {xs : List D} (h : sortOk xs = true) (hn : ∀ x ∈ xs, x ≠ .none) : PySem.W.Sortable xs := by
  unfold sortOk at h
  rw [Bool.or_eq_true, List.all_eq_true, List.all_eq_true] at h
  rcases h with h | h
  · refine .inl fun d hd => ?_
    have := h d hd
    split at this
    · exact ⟨_, _, rfl⟩
    · cases this
  · refine .inr fun d hd => ⟨hn d hd, fun ys e => ?_⟩
    have := h d hd
    rw [e] at this
    cases this
theorem sortD_eq (xs : List D) : sortD xs = xs.mergeSort (PySem.W.dataLe false id) := rfl
/-- the items of what is walked once -/
theorem itemsCv {K : Frag} {O : Msk} {H : Hp} {v : V} {d : D} {xs : List D} (h : Cv K O H v d) (e : itemsD d = some xs) :
    (∃ a vs, v = .ref a ∧ Rd H a (.lst vs) ∧ DqAll K (frz H O) vs xs) ∨ (∃ a vs, v = .ref a ∧ SqT K H a vs ∧ DqAll K (frz H O) vs xs) ∨ (∃ z, v = .str z ∧ xs = (cs z).map fun c => .str (mkS [c])) := by
  cases d with
  | list ys => cases e; exact .inl h.lst
  | tuple ys => cases e; exact .inr (.inl h.tup)
  | str z => cases e; exact .inr (.inr ⟨z, h.str, rfl⟩)
  | _ => cases e
theorem dq_signs {K : Frag} {H : Hp} (l : List Nat) : DqAll K H (l.map fun c => V.str (mkS [c])) (l.map fun c => .str (mkS [c])) := by
  induction l with
  | nil => exact .nil
  | cons c l ih => exact .cons (.str _ (show (1 : Nat) ≤ 16777216 by decide)) ih
theorem vals_of_at : ∀ (xs : List V) (us : List Value), xs.length = us.length → (∀ (i : Nat) (v : Value), us[i]? = some v → ∃ w, xs[i]? = some w ∧ RelV w v) → Vals xs us
  | [], [], _, _ => .nil
  | [], _ :: _, h, _ => by simp at h
  | _ :: _, [], h, _ => by simp at h
  | x :: xs, u :: us, h, hi => by
    obtain ⟨w, e1, e2⟩ := hi 0 u rfl
    cases e1
    exact .cons e2 (vals_of_at xs us (by simpa using h) fun i v e => by
      have := hi (i + 1) v (by simpa using e)
      simpa using this)
theorem signs_vals {x : Str} {acc : Array Value} (h : ItemsOf (SignAt x) acc x.cps.size) : Vals ((cs x).map fun c => V.str (mkS [c])) acc.toList := by
  have e := h.1
  refine vals_of_at _ _ (by simp [cs, e]) fun i v hv => ?_
  have hi : i < acc.size := by
    have := (List.getElem?_eq_some_iff.mp hv).1
    simpa using this
  obtain ⟨c, u, hc, e⟩ := h.2 i v (by rw [← Array.getElem?_toList]; exact hv)
  have e1 : (cs x)[i]? = some c := by unfold cs; rw [Array.getElem?_toList]; exact hc
  exact ⟨V.str (mkS [c]), by rw [List.getElem?_map, e1]; rfl, by rw [e]; exact ⟨u, rfl⟩⟩
theorem collect_strZ {prog : Program} {w : World} {A : Around} {E : Value → Shared → Prop} {s : Shared} {Q : List Value → Shared → Prop} (hh : A.handled = none) (x : Str) (t : Tok)
    (hQ : ∀ s' acc, (∀ b o, s.heap.get? b = some o → s'.heap.get? b = some o) → s.heap.objs.size ≤ s'.heap.objs.size → s'.gens = s.gens → s'.os = s.os → ItemsOf (SignAt x) acc x.cps.size → Q acc.toList s') (hn : x.cps.size ≤ sizeLine) :
    wpAny (model prog w) A (collect (.str x t)) Q E s := by
  unfold collect
  refine wpAny_bind (wpAny_runValue (codeAny_builtin PySem.F.entry_proto_collect ?_))
  rw [Around.under_plainId PySem.F.plain_proto_collect _]
  show wpAny _ A.in1 (newList [] >>= fun l => again (.builtin "list.__iadd__" ⟨[l, .str x t], []⟩)) _ _ s
  refine wpAny_bind (wpAny_newObj_type ?_)
  refine wpAny_pure ⟨plainId_quiet PySem.F.plain_list_iadd _, codeAny_builtin PySem.F.entry_list_iadd ?_⟩
  rw [Around.under_plainId PySem.F.plain_list_iadd _]
  show wpAny _ A.in1 (Builtin.List.listExtendWith (.ref s.heap.objs.size) (.str x t) (.ref s.heap.objs.size)) _ _ _
  unfold Builtin.List.listExtendWith
  refine wpAny_bind (wpAny_typeOf (T := "str") (v := .str x t) rfl ?_)
  have h1 : Builtin.List.listSameRef (.ref s.heap.objs.size) (.str x t) = false := rfl
  have h2 : (Value.type "str" == Value.type "list") = false := by decide
  have h3 : (Value.type "str" == Value.type "tuple") = false := by decide
  simp only [h1, h2, h3, Bool.or_false, Bool.false_eq_true, if_false]
  refine wpAny_bind (wpAny_pyIter_str fun o St W hst => ?_)
  refine wpAny_bind (wpAny_holding ?_)
  unfold Builtin.List.listLengthHint
  refine wpAny_bind (wpAny_specialOf (T := "str") (v := .str x t) rfl PySem.F.str_len ?_)
  wp_delta
  refine wpAny_bind (wpAny_isInstance (T := "str") (v := .str x t) (b := true) rfl (by rw [isSubtype_type]; kernel_rfl) ?_)
  show wpAny _ A.in1 (typeOf (Value.str x t) >>= _) _ _ _
  refine wpAny_bind (wpAny_typeOf (T := "str") (v := .str x t) rfl ?_)
  refine wpAny_pure ?_
  rw [if_neg (by decide)]
  generalize hH : s.heap.push { cls := .type "list", data := .seq ([] : List Value).toArray } = Hh at W hst ⊢
  have hHs : Hh.objs.size = s.heap.objs.size + 1 := by rw [← hH, Heap.size_push]
  have hSf : s.heap.objs.size ∉ [Hh.objs.size] := fun hm => by rw [List.mem_singleton.mp hm] at hHs; exact absurd hHs (Nat.ne_of_lt (Nat.lt_succ_self _))
  have hS : (Hh.push o).get? s.heap.objs.size = some { cls := .type "list", data := .seq ([] : List Value).toArray } := Heap.get?_push_of_some _ (hH ▸ Heap.get?_push_size _ rfl)
  refine wpAny_pure ⟨plainId_quiet PySem.F.plain_extend_loop _, codeAny_extend_loopS (W A.in1 hh).toS hn _ hSf _ x.cps.size 0 _ _ _ rfl (Nat.zero_le _) hst hS (ItemsOf.nil _) fun s' acc' c' hm hS' hacc => ?_⟩
  show wpAny _ A (load s.heap.objs.size >>= _) _ _ s'
  refine wpAny_bind (wpAny_load hS' ?_)
  refine wpAny_pure (hQ s' acc' (fun b ob e => hm.heap b ob (fun hb => ?_) (Heap.get?_push_of_some _ (hH ▸ Heap.get?_push_of_some _ e))) (Nat.le_of_lt (Heap.lt_size hS')) hm.gens hm.os hacc)
  have hlt := Heap.lt_size e
  rcases List.mem_cons.mp hb with h | h
  · exact absurd hlt (h ▸ Nat.lt_irrefl _)
  · rw [List.mem_singleton.mp h, hHs] at hlt; exact absurd hlt (Nat.not_lt.mpr (Nat.le_succ _))
section
variable {X : Cx}
theorem bList (hc : X.calm = true) : CallR X (.type "list") (rL1 X.K fun a => b1D .list a.toD) := by
  intro pins s σ H xs us Q I rs ⟨x, hx, O, ra, r, ha, hO, hg, q⟩
  subst hx
  have ha := ha.cv
  dsimp only at hg
  generalize ra.toD = a at ha hg
  simp only [b1D] at hg
  split at hg
  · cases hg
    obtain ⟨p, vs, rfl, s1, d1⟩ := ha.lst
    exact call_list_of pins s σ H _ us Q I rs ⟨p, vs, rfl, .inl (.inl s1), giveLst q d1⟩
  · cases hg
    obtain ⟨p, vs, rfl, s1, d1⟩ := ha.tup
    exact call_list_of pins s σ H _ us Q I rs ⟨p, vs, rfl, .inr s1, giveLst q d1⟩
  · rename_i z
    · cases hg
      obtain ⟨rfl, hz⟩ := ha.strZ
      cases rs with
      | cons r1 rr =>
        cases rr
        obtain ⟨t, rfl⟩ := r1
        have hn : z.cps.size ≤ sizeLine := by rw [sizeLine_eq]; exact hz
        refine call_list_str (I.ok.hd hc) z t (fun h' tk acc' c' hk hS hi => ?_) hn
        refine ⟨.ref s.heap.objs.size, _, I.laid (t' := tk) (o := .lst ((cs z).map fun c => V.str (mkS [c]))) hk (Nat.le_refl _) ?_, rfl, giveLst q (dq_signs (cs z)) _ (I.hok.fresh (Nat.le_refl _))⟩
        exact ⟨by rw [List.length_map]; exact hn, acc'.toList, c', signs_vals hi, hS⟩
  · cases hg
def sortB (a : D) : Option R := (itemsD a).bind fun xs => if ordAll xs && sortOk xs && szOk xs.length then some (.f (sortD xs)) else none
theorem bSorted0 {n : Nat} (hc : X.calm = true) (hr : Room n X.A) : CallR X (.builtin "sorted") (rL1 X.K fun a => sortB a.toD) := by
  intro pins s σ H xs us Q I rs ⟨x, hx, O, ra, r, ha, hO, hg, q⟩
  subst hx
  have ha := ha.cv
  dsimp only at hg
  generalize ra.toD = a at ha hg
  have hu := hr.units
  obtain ⟨u, rfl, ru⟩ := vals1 rs
  unfold sortB at hg
  obtain ⟨xs, hxs, hg⟩ := Option.bind_eq_some_iff.mp hg
  split at hg
  · rename_i hz
    cases hg
    simp only [Bool.and_eq_true] at hz
    obtain ⟨⟨z0, z5⟩, z6⟩ := hz
    obtain ⟨z1, z2⟩ := ordAll_iff z0
    obtain ⟨z3, z4⟩ := ord_depth z1
    have hk := sortOk_iff z5 z2.2
    have hL := szOk_le z6
    have hdp : ∀ d ∈ xs, X.A.units + 2 + d.depth < cLine := fun d hd => by
      have := (okD_iff (z1 d hd)).2
      omega
    -- what is known of the items
    have key : ∀ (vs : List V) (its : List Value), Vals vs its → DqAll X.K (frz H O) vs xs →
        ∃ ds, PySem.W.EachIs (fun v d => ∃ x, RelV x v ∧ Dq X.K (frz H O) x d) its ds ∧ PySem.W.EachIs (fun v b => ∃ as, Reads s.heap v b as) its ds ∧ PySem.W.AllAlike ds ∧ PySem.W.Sortable ds ∧ ds.length ≤ sizeLine ∧ (∀ d ∈ ds, X.A.units + 2 + d.depth < cLine) ∧ ds = xs := fun vs its rv dd => by
      obtain ⟨as, rr⟩ := dqReadsAll I _ _ its (dpMonoAll Ext.unfrz _ _ dd) rv
      exact ⟨xs, each_join rv dd, each_reads rr, z2.1, hk, hL, hdp, rfl⟩
    have fin : ∀ s' p (out : Array Value) (c : Nat) (ds : List D), (∀ b o, s.heap.get? b = some o → s'.heap.get? b = some o) → s'.gens = s.gens → s'.os = s.os → s.heap.objs.size ≤ p →
      s'.heap.get? p = some (seqObj "list" out c) → PySem.W.EachIs (fun v d => ∃ x, RelV x v ∧ Dq X.K (frz H O) x d) out.toList (ds.mergeSort (PySem.W.dataLe false id)) → ds.length ≤ sizeLine → ds = xs → EP X pins σ Q (.ref p) s' := by
      intro s' p out c ds k g o hp hgg hs hl e
      subst e
      obtain ⟨ys, y1, y2⟩ := each_split hs
      have yl : ys.length ≤ sizeLine := by
        rw [y2.len, List.length_mergeSort]; exact hl
      obtain ⟨hn, J⟩ := laidL I k g o hp hgg y1 yl
      exact ⟨.ref p, _, J, rfl, giveLst q (by rw [sortD_eq]; exact y2) p hn⟩
    rcases itemsCv ha hxs with ⟨p, vs, rfl, s1, d1⟩ | ⟨p, vs, rfl, s1, d1⟩ | ⟨z, rfl, e⟩
    · cases ru
      obtain ⟨its, rv, pl, _⟩ := I.list (.inl s1)
      have hlen : its.length ≤ sizeLine := by rw [← rv.length, DqAll.len d1]; exact hL
      refine sorted_from (C := fun vs => vs = its) (G := fun ds => ds = xs) (R := fun v d => ∃ x, RelV x v ∧ Dq X.K (frz H O) x d) (fun Q' hQ' => collect_list pl.isList (hQ' _ _ (fun b o e => ?_) ?_ rfl rfl rfl) hlen) (fun ws e => by subst e; exact key vs _ rv d1) fin
      · have hlt := Heap.lt_size e
        show ((s.heap.push (seqObj "list" #[] 0)).update s.heap.objs.size _).get? b = some o
        rw [Heap.get?_update_ne _ _ _ _ (Nat.ne_of_lt hlt)]
        exact Heap.get?_push_of_some _ e
      · show s.heap.objs.size ≤ ((s.heap.push (seqObj "list" #[] 0)).update s.heap.objs.size _).objs.size
        rw [Heap.size_update, Heap.size_push]; exact Nat.le_succ _
    · cases ru
      obtain ⟨its, rv, pl, _⟩ := I.tuple s1
      have hlen : its.length ≤ sizeLine := by rw [← rv.length, DqAll.len d1]; exact hL
      refine sorted_from (C := fun vs => vs = its) (G := fun ds => ds = xs) (R := fun v d => ∃ x, RelV x v ∧ Dq X.K (frz H O) x d) (fun Q' hQ' => collect_tuple pl (hQ' _ _ (fun b o e => ?_) ?_ rfl rfl rfl) hlen) (fun ws e => by subst e; exact key vs _ rv d1) fin
      · have hlt := Heap.lt_size e
        show ((s.heap.push (seqObj "list" #[] 0)).update s.heap.objs.size _).get? b = some o
        rw [Heap.get?_update_ne _ _ _ _ (Nat.ne_of_lt hlt)]
        exact Heap.get?_push_of_some _ e
      · show s.heap.objs.size ≤ ((s.heap.push (seqObj "list" #[] 0)).update s.heap.objs.size _).objs.size
        rw [Heap.size_update, Heap.size_push]; exact Nat.le_succ _
    · obtain ⟨t, rfl⟩ := ru
      have hlen : z.cps.size ≤ sizeLine := by
        rw [e, List.length_map] at hL
        simpa [cs] using hL
      refine sorted_from (C := fun vs => Vals ((cs z).map fun c => V.str (mkS [c])) vs) (G := fun ds => ds = xs) (R := fun v d => ∃ x, RelV x v ∧ Dq X.K (frz H O) x d) (fun Q' hQ' => collect_strZ (A := X.A.in1) (I.ok.hd hc) z t (fun s' acc k hz g o hi => hQ' _ _ k hz g o (signs_vals hi)) hlen) (fun ws e2 => key _ _ e2 (by rw [e]; exact dq_signs _)) fin
  · cases hg
end

/-! ### sets -/
def keyD : Key → D
  | .inl i => .int i
  | .inr x => .str x
theorem keyD_inj {a b : Key} (h : keyD a = keyD b) : a = b := by
  cases a <;> cases b <;> simp [keyD] at h <;> rw [h]
def ded {α : Type} [DecidableEq α] : List α → List α
  | [] => []
  | x :: r => if x ∈ ded r then ded r else x :: ded r
theorem mem_ded {α : Type} [DecidableEq α] : ∀ {l : List α} {x : α}, x ∈ ded l ↔ x ∈ l
  | [], x => by simp [ded]
  | y :: r, x => by
    rw [ded]
    split
    · rename_i h
      rw [mem_ded, List.mem_cons]
      constructor
      · exact .inr
      · rintro (h2 | h2)
        · rw [h2]; exact mem_ded.mp h
        · exact h2
    · rw [List.mem_cons, List.mem_cons, mem_ded]
theorem nd_ded {α : Type} [DecidableEq α] : ∀ (l : List α), (ded l).Nodup
  | [] => List.nodup_nil
  | y :: r => by
    rw [ded]
    split
    · exact nd_ded r
    · rename_i h; exact List.nodup_cons.mpr ⟨h, nd_ded r⟩
theorem dedD_map {α : Type} [DecidableEq α] (f : α → D) (hf : ∀ a b, PyData.eqv (f a) (f b) = decide (a = b)) : ∀ l : List α, dedD (l.map f) = (ded l).map f
  | [] => rfl
  | x :: r => by
    have e : ((dedD (r.map f)).any fun y => PyData.eqv y (f x)) = decide (x ∈ ded r) := by
      rw [dedD_map f hf r, List.any_map, Bool.eq_iff_iff, List.any_eq_true, decide_eq_true_eq]
      constructor
      · rintro ⟨y, hy, h⟩
        simp only [Function.comp, hf, decide_eq_true_eq] at h
        rw [← h]; exact hy
      · intro h
        exact ⟨x, h, by simp [hf]⟩
    rw [List.map_cons, dedD, ded, e, dedD_map f hf r]
    by_cases h : x ∈ ded r
    · simp [h]
    · simp [h]
theorem eqvI (a b : Int) : PyData.eqv (.int a) (.int b) = decide (a = b) := by
  simp only [PyData.eqv]
  by_cases h : a = b <;> simp [h]
theorem eqvS (a b : Str) : PyData.eqv (.str a) (.str b) = decide (a = b) := by
  simp only [PyData.eqv]
  by_cases h : a = b <;> simp [h]
theorem eqvTx (a b : List Nat) : PyData.eqv (.str (mkS a)) (.str (mkS b)) = decide (a = b) := by
  rw [eqvS]
  exact decide_eq_decide.mpr ⟨mkS_inj, fun h => by rw [h]⟩
noncomputable instance : DecidableEq Key := Classical.typeDecidableEq _
theorem eqvKey (a b : Key) : PyData.eqv (keyD a) (keyD b) = decide (a = b) := by
  cases a with
  | inl i => cases b with
    | inl j =>
      show PyData.eqv (.int i) (.int j) = _
      rw [eqvI]; exact decide_eq_decide.mpr ⟨fun h => by rw [h], fun h => by cases h; rfl⟩
    | inr y =>
      show PyData.eqv (.int i) (.str y) = _
      simp [PyData.eqv]
  | inr x => cases b with
    | inl j =>
      show PyData.eqv (.str x) (.int j) = _
      simp [PyData.eqv]
    | inr y =>
      show PyData.eqv (.str x) (.str y) = _
      rw [eqvS]; exact decide_eq_decide.mpr ⟨fun h => by rw [h], fun h => by cases h; rfl⟩
theorem foldK_perm (ks : List Key) : (foldK ks).Perm (ded ks) := by
  refine (List.perm_ext_iff_of_nodup (foldl_addK_nd ks [] List.nodup_nil) (nd_ded ks)).mpr fun k => ?_
  rw [mem_ded]
  show k ∈ ks.foldl addK [] ↔ _
  rw [foldl_addK_mem]
  simp
/-! the order -/
theorem msort_perm {α : Type} {le : α → α → Bool} (tr : ∀ a b c, le a b → le b c → le a c) (tot : ∀ a b, le a b || le b a) (anti : ∀ a b, le a b → le b a → a = b) {l l' : List α} (h : l.Perm l') : l.mergeSort le = l'.mergeSort le :=
  List.Perm.eq_of_pairwise (le := fun a b => le a b = true) (fun a b _ _ => anti a b) (List.pairwise_mergeSort tr tot l) (List.pairwise_mergeSort tr tot l') ((List.mergeSort_perm l le).trans (h.trans (List.mergeSort_perm l' le).symm))
def leI (a b : Int) : Bool := decide (a ≤ b)
def leT (a b : List Nat) : Bool := decide (a ≤ b)
theorem leI_tr (a b c : Int) (h : leI a b) (h2 : leI b c) : leI a c := by simp only [leI, decide_eq_true_eq] at *; omega
theorem leI_tot (a b : Int) : leI a b || leI b a := by simp only [leI, Bool.or_eq_true, decide_eq_true_eq]; omega
theorem leI_anti (a b : Int) (h : leI a b) (h2 : leI b a) : a = b := by simp only [leI, decide_eq_true_eq] at *; omega
theorem leT_tr (a b c : List Nat) (h : leT a b) (h2 : leT b c) : leT a c := by
  simp only [leT, decide_eq_true_eq] at *; exact List.le_trans h h2
theorem leT_tot (a b : List Nat) : leT a b || leT b a := by
  simp only [leT, Bool.or_eq_true, decide_eq_true_eq]; exact List.le_total a b
theorem leT_anti (a b : List Nat) (h : leT a b) (h2 : leT b a) : a = b := by
  simp only [leT, decide_eq_true_eq] at *; exact List.le_antisymm h h2
theorem sortD_int (is : List Int) : sortD (is.map .int) = (is.mergeSort leI).map .int := by
  rw [sortD]
  refine (List.map_mergeSort fun a _ b _ => ?_).symm
  have := congrFun (congrFun (PySem.W.dataLe_int (β := Int) id) a) b
  exact this.symm
theorem sortD_txt (ls : List (List Nat)) : sortD (ls.map fun l => .str (mkS l)) = (ls.mergeSort leT).map fun l => .str (mkS l) := by
  rw [sortD]
  refine (List.map_mergeSort fun a _ b _ => ?_).symm
  have := congrFun (congrFun (PySem.W.dataLe_str (β := List Nat) mkS) a) b
  exact this.symm
/-- a row that rises is its own sorting -/
theorem rise_sort {α : Type} {le : α → α → Bool} (tr : ∀ a b c, le a b → le b c → le a c) (tot : ∀ a b, le a b || le b a) (anti : ∀ a b, le a b → le b a → a = b) {l l' : List α} (h : l'.Perm l) (hs : l'.Pairwise fun a b => le a b = true) : l.mergeSort le = l' :=
  List.Perm.eq_of_pairwise (le := fun a b => le a b = true) (fun a b _ _ => anti a b) (List.pairwise_mergeSort tr tot l) hs ((List.mergeSort_perm l le).trans h.symm)
theorem ltCps_iff : ∀ a b : List Nat, ltCps a b = decide (a < b)
  | [], [] => by simp [ltCps]
  | [], _ :: _ => by simp [ltCps]
  | _ :: _, [] => by simp [ltCps]
  | x :: a, y :: b => by
    have ih := ltCps_iff a b
    simp only [ltCps, ih, List.cons_lt_cons_iff]
    by_cases h : x = y
    · subst h; simp
    · by_cases h2 : x < y <;> simp [h, h2]
theorem rise_txt : ∀ ss : List Str, PyProof.Rows.sortedS ss = true → (ss.map cs).Pairwise fun a b => leT a b = true
  | [], _ => .nil
  | [x], _ => by simp
  | x :: y :: r, h => by
    have h : (!ltCps y.cps.toList x.cps.toList && PyProof.Rows.sortedS (y :: r)) = true := h
    rw [Bool.and_eq_true, Bool.not_eq_true', ltCps_iff, decide_eq_false_iff_not] at h
    have ih := rise_txt (y :: r) h.2
    have xy : leT (cs x) (cs y) = true := decide_eq_true (List.not_lt.mp h.1)
    rw [List.map_cons, List.pairwise_cons]
    refine ⟨fun b hb => ?_, ih⟩
    rw [List.map_cons] at hb
    rcases List.mem_cons.mp hb with z | z
    · rw [z]; exact xy
    · rw [List.map_cons, List.pairwise_cons] at ih
      exact leT_tr _ _ _ xy (ih.1 b z)
section
variable {X : Cx}
theorem bSorted {n : Nat} (hc : X.calm = true) (hr : Room n X.A) : CallR X (.builtin "sorted") (rL1 X.K fun a => b1D .sorted a.toD) := by
  intro pins s σ H xs us Q I rs ⟨x, hx, O, ra, r, ha, hO, hg, q⟩
  dsimp only at hg
  by_cases hd : ∃ kvs, ra.toD = .dict kvs
  · obtain ⟨kvs, hk⟩ := hd
    have c := ha.cv
    rw [hk] at c
    obtain ⟨p, o, rfl, hrd, ks, rfl, hda⟩ := c.dct
    rw [hk] at hg
    simp only [b1D] at hg
    split at hg
    · rename_i hz
      cases hg
      rw [Bool.and_eq_true, Bool.or_eq_true, decide_eq_true_eq] at hz
      obtain ⟨hz | hz, hl⟩ := hz
      · obtain ⟨is, e1, e2⟩ : ∃ is : List Int, ks.map (·.1) = is.map Sum.inl ∧ kvs.map (·.1) = is.map PyData.int := by
          clear hl hk q hrd c
          induction hda with
          | nil => exact ⟨[], rfl, rfl⟩
          | @cons k0 v0 d0 e0 ks0 kvs0 h1 h2 h3 ih =>
            rw [List.map_cons, List.all_cons, Bool.and_eq_true] at hz
            obtain ⟨is, e1, e2⟩ := ih hz.2
            cases k0 with
            | inl i =>
              have h1 : Dq X.K (frz H O) (.int i) d0 := h1
              cases h1
              exact ⟨i :: is, by rw [List.map_cons, e1]; rfl, by rw [List.map_cons, e2]; rfl⟩
            | inr z =>
              have h1 : Dq X.K (frz H O) (.str z) d0 := h1
              cases h1
              cases hz.1
        have hlen : is.length < 64 := by
          have := congrArg List.length e2
          rw [List.length_map, List.length_map] at this
          omega
        refine L2.call_sortedDI hc pins s σ H xs us Q I rs ⟨p, ks, is, hx, hrd, e1, hlen, fun ys p2 hp hs hn => ?_⟩
        have e3 : sortD (kvs.map (·.1)) = ys.map PyData.int := by
          rw [e2, sortD_int, rise_sort leI_tr leI_tot leI_anti hp (hs.imp fun h => decide_eq_true h)]
        rw [e3] at q
        refine giveLst q ?_ p2 hn
        clear hp hs e3 q
        induction ys with
        | nil => exact .nil
        | cons y ys ih => exact .cons (.int y) ih
      · obtain ⟨is, e1, e2, e4⟩ : ∃ is : List Str, ks.map (·.1) = is.map Sum.inr ∧ kvs.map (·.1) = is.map PyData.str ∧ ∀ z ∈ is, z.length ≤ 16777216 := by
          clear hl hk q hrd c
          induction hda with
          | nil => exact ⟨[], rfl, rfl, fun z h => by cases h⟩
          | @cons k0 v0 d0 e0 ks0 kvs0 h1 h2 h3 ih =>
            rw [List.map_cons, List.all_cons, Bool.and_eq_true] at hz
            obtain ⟨is, e1, e2, e4⟩ := ih hz.2
            cases k0 with
            | inr i =>
              have h1 : Dq X.K (frz H O) (.str i) d0 := h1
              cases h1 with
              | str _ zb =>
                refine ⟨i :: is, by rw [List.map_cons, e1]; rfl, by rw [List.map_cons, e2]; rfl, fun z hz => ?_⟩
                rcases List.mem_cons.mp hz with w | w
                · rw [w]; exact zb
                · exact e4 z w
            | inl z =>
              have h1 : Dq X.K (frz H O) (.int z) d0 := h1
              cases h1
              cases hz.1
        have hlen : is.length < 64 := by
          have := congrArg List.length e2
          rw [List.length_map, List.length_map] at this
          omega
        refine L2.call_sortedD hc pins s σ H xs us Q I rs ⟨p, ks, is, hx, hrd, e1, hlen, fun ys p2 hp hs hn => ?_⟩
        have em : ∀ l : List Str, l.map PyData.str = (l.map cs).map fun l => .str (mkS l) := fun l => by
          rw [List.map_map]
          exact List.map_congr_left fun z _ => by show PyData.str z = .str (mkS (cs z)); rw [mkS_cs]
        have e3 : sortD (kvs.map (·.1)) = ys.map PyData.str := by
          rw [e2, em, sortD_txt, rise_sort leT_tr leT_tot leT_anti (hp.map cs) (rise_txt ys hs), ← em]
        rw [e3] at q
        have e5 : ∀ z ∈ ys, z.length ≤ 16777216 := fun z hz => e4 z (hp.mem_iff.mp hz)
        refine giveLst q ?_ p2 hn
        clear hp hs e3 q
        induction ys with
        | nil => exact .nil
        | cons y ys ih => exact .cons (.str y (e5 y List.mem_cons_self)) (ih fun z hz => e5 z (List.mem_cons_of_mem _ hz))
    · cases hg
  · refine bSorted0 hc hr pins s σ H xs us Q I rs ⟨x, hx, O, ra, r, ha, hO, ?_, q⟩
    have : ∀ d : D, (¬ ∃ kvs, d = .dict kvs) → b1D .sorted d = sortB d := fun d hd => by
      cases d <;> first | rfl | exact (hd ⟨_, rfl⟩).elim
    show sortB ra.toD = some r
    rw [← this _ hd]
    exact hg
end
def toI : D → Int
  | .int i => i
  | _ => 0
def toT : D → List Nat
  | .str x => cs x
  | _ => []
theorem ints_map {xs : List D} (h : xs.all isI = true) : xs = (xs.map toI).map .int := by
  rw [List.map_map]
  conv => lhs; rw [← List.map_id xs]
  refine List.map_congr_left fun x hx => ?_
  have := List.all_eq_true.mp h x hx
  cases x <;> first | rfl | cases this
theorem txts_map {xs : List D} (h : xs.all isS = true) : xs = (xs.map toT).map fun l => .str (mkS l) := by
  rw [List.map_map]
  conv => lhs; rw [← List.map_id xs]
  refine List.map_congr_left fun x hx => ?_
  have := List.all_eq_true.mp h x hx
  cases x <;> first | (cases this; done) | (simp only [id, Function.comp, toT, mkS_cs])
theorem all_perm {p : D → Bool} {xs ys : List D} (h : xs.Perm ys) (a : xs.all p = true) : ys.all p = true := by
  rw [List.all_eq_true] at a ⊢
  exact fun y hy => a y (h.mem_iff.mpr hy)
theorem sortD_perm {xs ys : List D} (h : xs.Perm ys) (hk : xs.all isI = true ∨ xs.all isS = true) : sortD xs = sortD ys := by
  rcases hk with hk | hk
  · rw [ints_map hk, ints_map (all_perm h hk), sortD_int, sortD_int, msort_perm leI_tr leI_tot leI_anti (h.map toI)]
  · rw [txts_map hk, txts_map (all_perm h hk), sortD_txt, sortD_txt, msort_perm leT_tr leT_tot leT_anti (h.map toT)]
theorem keys_of : ∀ {xs : List D}, xs.all (fun x => isI x || isS x) = true → ∃ ks : List Key, xs = ks.map keyD
  | [], _ => ⟨[], rfl⟩
  | x :: xs, h => by
    rw [List.all_cons, Bool.and_eq_true] at h
    obtain ⟨ks, e⟩ := keys_of h.2
    cases x with
    | int i => exact ⟨.inl i :: ks, by rw [e]; rfl⟩
    | str z => exact ⟨.inr z :: ks, by rw [e]; rfl⟩
    | _ => cases h.1
theorem keysAre_of {K : Frag} {F : Hp} : ∀ {ks : List Key} {vs : List V} {its : List Value}, DqAll K F vs (ks.map keyD) → Vals vs its → KeysAre its ks
  | [], _, _, h, r => by cases h; cases r; trivial
  | k :: ks, _, _, h, r => by
    cases h with
    | cons h1 h2 =>
      cases r with
      | cons r1 r2 =>
        refine ⟨?_, keysAre_of h2 r2⟩
        cases k with
        | inl i =>
          have h1 : Dq K F _ (.int i) := h1
          cases h1
          obtain ⟨t, rfl⟩ := r1
          exact keyIs_int i t
        | inr x =>
          have h1 : Dq K F _ (.str x) := h1
          cases h1
          obtain ⟨t, rfl⟩ := r1
          exact keyIs_str x t
section
variable {X : Cx} {pins : List (Addr × Obj)} {σ : L2.St} {H : Hp} {s : Shared}
theorem call_setM {O : Msk} {x : V} {u : Value} {a : D} {ks : List Key} {Q : Value → Shared → Prop} {E : Value → Shared → Prop} (I : Inv X pins σ H s) (hc : X.calm = true) (ha : Cv X.K O H x a) (ru : RelV x u) (hi : itemsD a = some (ks.map keyD)) (hl : ks.length ≤ 4000)
    (h : ∀ (h' : Heap) (tk : Nat), SetM X.w h' s.heap.objs.size (foldK ks) → (∀ b o, s.heap.get? b = some o → h'.get? b = some o) → Q (.ref s.heap.objs.size) { s with heap := h', toks := tk }) :
    wpAny (model X.prog X.w) X.A (PySem.call (.type "set") [u]) Q E s := by
  have hb : ks.length + 1 < scanBound := by unfold scanBound; omega
  rcases itemsCv ha hi with ⟨p, vs, rfl, s1, d1⟩ | ⟨p, vs, rfl, s1, d1⟩ | ⟨z, rfl, e⟩
  · cases ru
    obtain ⟨its, rv, pl, _⟩ := I.list (.inl s1)
    exact call_setM_list ks (I.ok.hd hc) pl.isList (by simpa using keysAre_of d1 rv) hb h
  · cases ru
    obtain ⟨its, rv, pl, _⟩ := I.tuple s1
    exact call_setM_tuple ks (I.ok.hd hc) pl (by simpa using keysAre_of d1 rv) hb h
  · obtain ⟨t, rfl⟩ := ru
    refine call_setM_str ks (I.ok.hd hc) ?_ hb h
    have : ∀ (ks : List Key) (l : List Nat), ks.map keyD = l.map (fun c => PyData.str (mkS [c])) → ks = l.map fun c => .inr (mkS [c]) := by
      intro ks
      induction ks with
      | nil => intro l h; cases l with
        | nil => rfl
        | cons => simp at h
      | cons k ks ih => intro l h; cases l with
        | nil => simp at h
        | cons c l =>
          simp only [List.map_cons, List.cons.injEq] at h
          rw [List.map_cons, ih l h.2, show k = .inr (mkS [c]) from keyD_inj (by rw [h.1]; rfl)]
    exact this ks (cs z) e
def tSet1 (K : Frag) (f : B1) (ta : TE) : TE := fun σ H Q => ta σ H fun x H1 => rU1 K (fun r => b1D f r.toD) x H1 Q
theorem keys_bound {K : Frag} {O : Msk} {H : Hp} {v : V} {d : D} {ks : List Key} (h : Cv K O H v d) (e : itemsD d = some (ks.map keyD)) : ∀ x : Str, (.inr x : Key) ∈ ks → x.length ≤ 16777216 := by
  have all : ∀ {vs : List V} {F : Hp}, DqAll K F vs (ks.map keyD) → ∀ x : Str, (.inr x : Key) ∈ ks → x.length ≤ 16777216 := by
    clear e
    induction ks with
    | nil => intro vs F _ x hx; cases hx
    | cons k r ih =>
      intro vs F hd x hx
      cases hd with
      | cons h1 h2 =>
        rcases List.mem_cons.mp hx with z | z
        · subst z
          have h1 : Dq K F _ (.str x) := h1
          cases h1 with
          | str _ z => exact z
        · exact ih h2 x z
  rcases itemsCv h e with ⟨a, vs, _, _, hd⟩ | ⟨a, vs, _, _, hd⟩ | ⟨z, _, hd⟩
  · exact all hd
  · exact all hd
  · intro x hx
    have : keyD (.inr x) ∈ (cs z).map fun c => PyData.str (mkS [c]) := by rw [← hd]; exact List.mem_map_of_mem hx
    obtain ⟨c, _, e⟩ := List.mem_map.mp this
    have e : PyData.str (mkS [c]) = .str x := e
    cases e
    rw [length_mkS, List.length_singleton]; decide
theorem pe_sset {n : Nat} {a : Expr} {ta : TE} {p p2 q pos : Pos} (hc : X.calm = true) (hr : Room n X.A) (hg : Gl X "sorted") (hm : X.mg "sorted" = none) (hg2 : Gl X "set") (hm2 : X.mg "set" = none) (ha : PE X a ta)
    (na : starEach [a] X.env = (false, eval a X.env) :: starEach [] X.env) : PE X (.Call (.Name "sorted" p) [.Call (.Name "set" p2) [a] [] q] [] pos) (tSet1 X.K .sset ta) := by
  have hu := hr.units
  refine ⟨fun pins s σ H Q I h => ?_⟩
  refine Call_ (ld_blt I hg hm PyProof.Rows.boot_sorted ?_)
  refine PyProof.Rows.callWith_builtin1 (PyProof.Rows.args_cons ?_ rfl) rfl rfl
  refine Call_ (ld_blt I hg2 hm2 PyProof.Rows.boot_set ?_)
  refine PyProof.Rows.callWith_type1 (PyProof.Rows.args_cons (thn (ha.run pins s σ H _ I h) fun v s1 ⟨x, H1, I1, r1, q1⟩ => PyProof.Rows.args_nil ?_) na) na rfl
  obtain ⟨O, ra, r, ca, hO, hg, q⟩ := q1
  have ca := ca.cv
  dsimp only at hg
  generalize ra.toD = d at ca hg
  simp only [b1D] at hg
  obtain ⟨xs, hxs, hg⟩ := Option.bind_eq_some_iff.mp hg
  split at hg
  · rename_i hk
    cases hg
    simp only [keyOk, Bool.and_eq_true, Bool.or_eq_true, decide_eq_true_eq] at hk
    have hmx : xs.all (fun x => isI x || isS x) = true := by
      rw [List.all_eq_true]
      intro y hy
      rcases hk.1 with z | z
      · rw [List.all_eq_true.mp z y hy, Bool.true_or]
      · rw [List.all_eq_true.mp z y hy, Bool.or_true]
    obtain ⟨ks, rfl⟩ := keys_of hmx
    rw [List.length_map] at hk
    refine call_setM I1 hc ca r1 hxs hk.2 fun h' tk R k => PyProof.Rows.args_nil ?_
    obtain ⟨o, es, ep, t, ho, hex, hd, g, pL, nd, hb, hf, hr', hl⟩ := R
    have I2 : Inv X pins σ H1 { s1 with heap := h', toks := tk } := I1.kept k
    have dd : dedD (ks.map keyD) = (ded ks).map keyD := dedD_map keyD eqvKey ks
    have kb := keys_bound ca hxs
    have hlt : es.size < 4096 := hb
    -- the set's values, read as data
    have key : ∀ vs : List Value, vs.Perm (es.toList.map (·.2)) → ∃ ds, PySem.W.EachIs (fun v d => ∃ x, RelV x v ∧ Dq X.K (frz H1 O) x d) vs ds ∧ PySem.W.EachIs (fun v b => ∃ as, Reads h' v b as) vs ds ∧ ds = vs.map fun v => keyD (keyE (0, v)) := by
      intro vs hp
      have hv : ∀ v ∈ vs, ∃ k : Key, keyIs k v = true ∧ k ∈ ks := fun v hv => by
        obtain ⟨e, he, q⟩ := List.mem_map.mp (hp.mem_iff.mp hv)
        obtain ⟨k, h1, _⟩ := g e he
        refine ⟨k, by rw [← q]; exact h1, ?_⟩
        have m1 : keyE e ∈ es.toList.map keyE := List.mem_map_of_mem he
        have m2 := (pL.trans (foldK_perm ks)).mem_iff.mp m1
        rw [keyE_of (e := e) h1] at m2
        exact mem_ded.mp m2
      clear hp
      induction vs with
      | nil => exact ⟨[], .nil, .nil, rfl⟩
      | cons v vs ih =>
        obtain ⟨ds, e1, e2, e3⟩ := ih fun u hu => hv u (List.mem_cons_of_mem _ hu)
        obtain ⟨k, hkv, hkm⟩ := hv v List.mem_cons_self
        have ek : keyE (0, v) = k := keyE_of (e := (0, v)) hkv
        refine ⟨keyD k :: ds, ?_, ?_, by rw [List.map_cons, ek, e3]⟩
        · refine .cons ?_ e1
          rcases keyIs_shape hkv with ⟨i, t, rfl, rfl⟩ | ⟨x, t, rfl, rfl⟩
          · exact ⟨.int i, ⟨t, rfl⟩, .int i⟩
          · exact ⟨.str x, ⟨t, rfl⟩, .str x (kb x hkm)⟩
        · refine .cons ?_ e2
          rcases keyIs_shape hkv with ⟨i, t, rfl, rfl⟩ | ⟨x, t, rfl, rfl⟩
          · exact ⟨_, Reads.int i t⟩
          · exact ⟨_, Reads.str x t⟩
    have perm : ∀ vs : List Value, vs.Perm (es.toList.map (·.2)) → (vs.map fun v => keyD (keyE (0, v))).Perm (dedD (ks.map keyD)) := fun vs hp => by
      rw [dd]
      have h1 : (vs.map fun v => keyD (keyE (0, v))).Perm ((es.toList.map (·.2)).map fun v => keyD (keyE (0, v))) := hp.map _
      rw [List.map_map] at h1
      have h2 : es.toList.map ((fun v => keyD (keyE (0, v))) ∘ (·.2)) = (es.toList.map keyE).map keyD := by
        rw [List.map_map]
        exact List.map_congr_left fun e _ => rfl
      rw [h2] at h1
      exact h1.trans ((pL.trans (foldK_perm ks)).map keyD)
    have hdd : (dedD (ks.map keyD)).all isI = true ∨ (dedD (ks.map keyD)).all isS = true := by
      have sub : ∀ x ∈ dedD (ks.map keyD), x ∈ ks.map keyD := fun x hx => by
        rw [dd] at hx
        obtain ⟨k, hk, rfl⟩ := List.mem_map.mp hx
        exact List.mem_map.mpr ⟨k, mem_ded.mp hk, rfl⟩
      rcases hk.1 with z | z
      · exact .inl (List.all_eq_true.mpr fun x hx => List.all_eq_true.mp z x (sub x hx))
      · exact .inr (List.all_eq_true.mpr fun x hx => List.all_eq_true.mp z x (sub x hx))
    refine sorted_from (s := { s1 with heap := h', toks := tk }) (C := fun vs => vs.Perm (es.toList.map (·.2))) (G := fun ds => ds.Perm (dedD (ks.map keyD))) (R := fun v d => ∃ x, RelV x v ∧ Dq X.K (frz H1 O) x d)
      (fun Q' hQ' => collect_set (A := X.A.in1) (I1.ok.hd hc) ⟨o, ho, hex.1, hd⟩ hf hb hr' hl fun s' out k hz g o hp => hQ' s' out k hz g o hp) (fun vs hp => ?_) ?_
    · obtain ⟨ds, e1, e2, e3⟩ := key vs hp
      have pd : ds.Perm (dedD (ks.map keyD)) := by rw [e3]; exact perm vs hp
      have hdl : ds.length ≤ 4096 := by
        rw [e3, List.length_map, hp.length_eq, List.length_map, Array.length_toList]; omega
      have hal : ds.all isI = true ∨ ds.all isS = true := hdd.imp (all_perm pd.symm) (all_perm pd.symm)
      refine ⟨ds, e1, e2, ?_, ?_, by rw [sizeLine_eq]; omega, fun d hd => ?_, pd⟩
      · rcases hal with z | z
        · intro d hd d' hd'
          have z1 := List.all_eq_true.mp z d hd
          have z2 := List.all_eq_true.mp z d' hd'
          cases d <;> simp only [isI, Bool.false_eq_true] at z1
          cases d' <;> simp only [isI, Bool.false_eq_true] at z2
          rfl
        · intro d hd d' hd'
          have z1 := List.all_eq_true.mp z d hd
          have z2 := List.all_eq_true.mp z d' hd'
          cases d <;> simp only [isS, Bool.false_eq_true] at z1
          cases d' <;> simp only [isS, Bool.false_eq_true] at z2
          rfl
      · refine .inr fun d hd => ?_
        rcases hal with z | z
        · have z1 := List.all_eq_true.mp z d hd
          cases d <;> simp only [isI, Bool.false_eq_true] at z1
          exact ⟨by simp, by simp⟩
        · have z1 := List.all_eq_true.mp z d hd
          cases d <;> simp only [isS, Bool.false_eq_true] at z1
          exact ⟨by simp, by simp⟩
      · have : d.depth = 0 := by
          rcases hal with z | z
          · have z1 := List.all_eq_true.mp z d hd
            cases d <;> simp only [isI, Bool.false_eq_true] at z1
            rfl
          · have z1 := List.all_eq_true.mp z d hd
            cases d <;> simp only [isS, Bool.false_eq_true] at z1
            rfl
        omega
    · intro s' p out c ds k g o hp hgg hs hl2 pd
      obtain ⟨ys, y1, y2⟩ := each_split hs
      have yl : ys.length ≤ sizeLine := by
        rw [y2.len, List.length_mergeSort]; exact hl2
      obtain ⟨hn, J⟩ := laidL I2 k g o hp hgg y1 yl
      have es2 : ds.mergeSort (PySem.W.dataLe false id) = sortD (dedD (ks.map keyD)) := by
        rw [← sortD_eq]
        exact sortD_perm pd (hdd.imp (all_perm pd.symm) (all_perm pd.symm))
      rw [es2] at y2
      exact ⟨.ref p, _, J, rfl, giveLst q y2 p hn⟩
  · cases hg
end
end WM

/-! ## part S3: len(set(..)) of tuples of ints -/
namespace WM
open PySem PySem.Spec PyProof.Rows L2
theorem call_setT_tuple {w : World} {P : Program} {A : Around} {E : Value → Shared → Prop} {s : Shared} {l : Addr} {items : Array Value} (ks : List (Addr × List Int)) {Q : Value → Shared → Prop} (hh : A.handled = none) (hl : s.heap.IsTuple l items) (hit : items.toList = ks.map fun p => Value.ref p.1)
    (hk : ∀ p ∈ ks, IsT P w s.heap p.2 p.1) (hfew : ks.length < 64) (hu : A.units + 3 < cLine)
    (h : ∀ (h' : Heap) (tk : Nat) L es ep t, SetTR P w h' s.heap.objs.size L es ep t → Got ks ks.length L → (∀ b o, s.heap.get? b = some o → h'.get? b = some o) → Q (.ref s.heap.objs.size) { s with heap := h', toks := tk }) :
    wpAny (model P w) A (PySem.call (.type "set") [.ref l]) Q E s := by
  have hisz : items.size = ks.length := by
    have q := congrArg List.length hit
    rw [Array.length_toList, List.length_map] at q
    exact q
  obtain ⟨c, tl, hmro⟩ := PySem.F.called_set.mro
  have hmade := PySem.F.called_set.made
  have hsub := PySem.F.called_set.sub
  refine wpAny_call (codeAny_of_tree ?_)
  show wpAny _ _ (callAny (.type "set") _) _ _ _
  refine wpAny_pure ⟨Code.quiet_builtin _ (by decide +kernel), codeAny_builtin PySem.F.entry_type_call ?_⟩
  rw [Around.under_plain (weight_type_call_type "set" [.ref l] []) rfl]
  have h1 := PySem.F.called_set.notType
  have h2 := PySem.F.called_set.canCreate
  have hct := PySem.F.typeCall_set_1 (.ref l)
  repeat (any_goals (first | assumption | wp_step))

  refine codeAny_mono (code_set_led1 (.ref l) (E := E) (Q₁ := fun obj s₁ => obj = .ref s.heap.objs.size ∧ s₁ = { s with heap := s.heap.push { cls := .type "set", dict := none, data := .set #[] 0 (.fresh 0 0 (!w.params.followText "set-order")) } }) ⟨rfl, rfl⟩) fun r s₁ hr => ?_
  cases r with
  | error e => exact hr
  | ok fl =>
    cases fl with
    | ret obj =>
      obtain ⟨rfl, rfl⟩ := hr
      have hS : (s.heap.push { cls := .type "set", dict := none, data := .set #[] 0 (.fresh 0 0 (!w.params.followText "set-order")) }).get? s.heap.objs.size = some { cls := .type "set", dict := none, data := .set #[] 0 (.fresh 0 0 (!w.params.followText "set-order")) } := Heap.get?_push_size _ rfl
      have hT : Shared.TypeIs { s with heap := s.heap.push { cls := .type "set", dict := none, data := .set #[] 0 (.fresh 0 0 (!w.params.followText "set-order")) } } (.ref s.heap.objs.size) "set" := ⟨_, hS, rfl⟩
      have hli := PySem.F.called_set.init.lookup
      have hbi := PySem.F.called_set.init.bind (.ref s.heap.objs.size)
      repeat (any_goals (first | assumption | wp_step))

      refine codeAny_mono (codeAny_call_builtin (R := wants (fun r s₂ => r = .none ∧ ∃ h' tk L es ep t, s₂ = { s with heap := h', toks := tk } ∧ SetTR P w h' s.heap.objs.size L es ep t ∧ Got ks ks.length L ∧
          (∀ b o, s.heap.get? b = some o → h'.get? b = some o)) E) PySem.F.called_set.init.plain PySem.F.entry_set_init (check_set_init_1 hT ?_)) fun r₂ s₂ hr₂ => ?_
      · obtain ⟨ol, hol, hcl, nl, hdl⟩ := hl
        obtain ⟨ocls, odict, odata, oslots⟩ := ol
        simp only at hcl hdl
        subst hcl; subst hdl
        have hol' : (s.heap.push { cls := .type "set", dict := none, data := .set #[] 0 (.fresh 0 0 (!w.params.followText "set-order")) }).get? l = some { cls := .type "tuple", dict := odict, data := .seq items nl, slots := oslots } := Heap.get?_push_of_some _ hol
        have hsls := PySem.F.sub_tuple_set
        have hslf := PySem.F.sub_tuple_frozenset
        have hne : (Value.type "tuple" == Value.type "dict") = false := by decide
        have hl1 : (s.heap.push { cls := .type "set", dict := none, data := .set #[] 0 (.fresh 0 0 (!w.params.followText "set-order")) }).IsTuple l items := ⟨_, hol', rfl, nl, rfl⟩
        unfold Builtin.«set.__init__» noKeywords Builtin.Frozenset.updateFrom
        generalize hPI : pyIter = PI
        wp_walk
        subst hPI

        refine wpAny_pyIter_tuple hl1 ?_
        refine wpAny_bind (wpAny_runValue ?_)
        have hlS : l < s.heap.objs.size := Heap.lt_size hol
        have hh3 : A.in1.in1.in1.handled = none := by simp [hh]
        have hz1 : (s.heap.push { cls := .type "set", dict := none, data := .set #[] 0 (.fresh 0 0 (!w.params.followText "set-order")) }).objs.size = s.heap.objs.size + 1 := Heap.size_push ..
        have hneI : l ≠ (s.heap.push { cls := .type "set", dict := none, data := .set #[] 0 (.fresh 0 0 (!w.params.followText "set-order")) }).objs.size := by
          rw [Heap.size_push]; exact Nat.ne_of_lt (Nat.lt_succ_of_lt hlS)
        have hSf : s.heap.objs.size ∉ [(s.heap.push { cls := .type "set", dict := none, data := .set #[] 0 (.fresh 0 0 (!w.params.followText "set-order")) }).objs.size, l] := by
          rw [Heap.size_push]; simp only [List.mem_cons, List.mem_singleton, List.not_mem_nil, or_false, not_or]
          exact ⟨Nat.ne_of_lt (Nat.lt_succ_self _), Nat.ne_of_gt hlS⟩
        have hval : ∀ (i : Nat) (v : Value), items[i]? = some v → ∃ p, ks[i]? = some p ∧ v = .ref p.1 := fun i v hv => by
          have q : items.toList[i]? = some v := by rw [Array.getElem?_toList]; exact hv
          rw [hit, List.getElem?_map] at q
          cases hq : ks[i]? with
          | none => rw [hq] at q; cases q
          | some p =>
            rw [hq] at q
            exact ⟨p, rfl, (Option.some.inj q).symm⟩
        have none_of : ∀ b, s.heap.objs.size ≤ b → s.heap.get? b = none := fun b hb => by
          cases q : s.heap.get? b with
          | none => rfl
          | some o => exact absurd (Nat.lt_of_lt_of_le (Heap.lt_size q) hb) (Nat.lt_irrefl _)
        refine set_update_tups ((Walks.tuple hh3 _ l hneI items).toS) s.heap.objs.size
          hSf ks hisz hfew hval s.heap hk (none_of _ (Nat.le_refl _)) (fun b hb => none_of b (by
            rw [List.mem_singleton.mp hb, Heap.size_push]
            exact Nat.le_succ _)) hu (items.size - 0) 0 _ (by omega) (Nat.zero_le _)
          ⟨⟨_, Heap.get?_push_size _ rfl, rfl, rfl⟩, (hl1.push _)⟩ (fun b o e => Heap.get?_push_of_some _ (Heap.get?_push_of_some _ e)) ?hS0 ?hR
        case hS0 =>
          have hget : ((s.heap.push { cls := .type "set", dict := none, data := .set #[] 0 (.fresh 0 0 (!w.params.followText "set-order")) }).push { cls := .type "tuple_iterator", data := .fields #[.ref l, .int 0 0] }).get? s.heap.objs.size
              = some { cls := .type "set", dict := none, data := .set #[] 0 (.fresh 0 0 (!w.params.followText "set-order")) } := Heap.get?_push_of_some _ hS
          exact ⟨[], #[], 0, _, setTR_fresh hget, Got.zero ks⟩
        case hR =>
          intro s' L es ep t hm hS' g' hkp
          obtain ⟨h', g2, d', tk', os'⟩ := s'
          have eg : g2 = s.gens := hm.gens
          have ed : d' = s.drawn := hm.drawn
          have eo : os' = s.os := hm.os
          subst eg; subst ed; subst eo
          show wpAny _ _ _ _ _ _
          refine wpAny_pure ?_
          show wpAny _ _ (ret Value.none) _ _ _
          rw [hisz] at g'
          exact wpAny_pure ⟨rfl, h', tk', L, es, ep, t, rfl, hS', g', hkp⟩

      · cases r₂ with
        | error e => exact hr₂
        | ok fl₂ =>
          cases fl₂ with
          | ret r =>
            obtain ⟨rfl, h', tk, L, es, ep, t, rfl, hS', g', hk'⟩ := hr₂
            repeat (any_goals (first | assumption | wp_step))
            exact h _ _ _ _ _ _ hS' g' hk'
          | _ => exact hr₂.elim
    | _ => exact hr.elim

def intD (k : List Int) : D := .tuple (k.map .int)
theorem isI_map : ∀ {ys : List D}, ys.all isI = true → ∃ k : List Int, ys = k.map PyData.int
  | [], _ => ⟨[], rfl⟩
  | y :: r, h => by
    rw [List.all_cons, Bool.and_eq_true] at h
    obtain ⟨k, e⟩ := isI_map h.2
    cases y with
    | int i => exact ⟨i :: k, by rw [e]; rfl⟩
    | _ => cases h.1
theorem pairsK_of : ∀ {xs : List D}, xs.all isU = true → ∃ ks : List (List Int), xs = ks.map intD
  | [], _ => ⟨[], rfl⟩
  | x :: xs, h => by
    rw [List.all_cons, Bool.and_eq_true] at h
    obtain ⟨ks, e⟩ := pairsK_of h.2
    cases x with
    | tuple ys =>
      obtain ⟨k, hk⟩ := isI_map (show ys.all isI = true from h.1)
      exact ⟨k :: ks, by rw [e, hk]; rfl⟩
    | _ => cases h.1
theorem dqInts {K : Frag} {F : Hp} : ∀ {k : List Int} {vs : List V}, DqAll K F vs (k.map PyData.int) → vs = k.map V.int
  | [], _, h => by cases h; rfl
  | i :: k, _, h => by
    cases h with
    | cons h1 h2 => cases h1; rw [dqInts h2]; rfl
theorem sqT_unfrz {K : Frag} {H : Hp} {O : Msk} {a : Addr} {xs : List V} (h : SqT K (frz H O) a xs) : SqT K H a xs := Ext.unfrz.sqT h
theorem addrs_of {K : Frag} {H : Hp} {O : Msk} : ∀ {ks : List (List Int)} {vs : List V}, DqAll K (frz H O) vs (ks.map intD) → ∃ ps : List (Addr × List Int), ps.map (·.2) = ks ∧ vs = ps.map (fun p => V.ref p.1) ∧ ∀ p ∈ ps, SqT K H p.1 (p.2.map V.int)
  | [], _, h => by cases h; exact ⟨[], rfl, rfl, fun _ hp => by cases hp⟩
  | k :: ks, _, h => by
    cases h with
    | cons h1 h2 =>
      obtain ⟨ps, e1, e2, e3⟩ := addrs_of h2
      have h1 : Dq K (frz H O) _ (.tuple (k.map .int)) := h1
      cases h1 with
      | tup s d =>
        rw [dqInts d] at s
        refine ⟨(_, k) :: ps, by rw [List.map_cons, e1], by rw [List.map_cons, e2], fun p hp => ?_⟩
        rcases List.mem_cons.mp hp with z | z
        · subst z; exact sqT_unfrz s
        · exact e3 p z
theorem eqvInts : ∀ xs ys : List Int, PyData.eqvAll (xs.map .int) (ys.map .int) = decide (xs = ys)
  | [], [] => rfl
  | [], _ :: _ => rfl
  | _ :: _, [] => rfl
  | x :: xs, y :: ys => by
    simp only [List.map_cons, PyData.eqvAll]
    rw [eqvI, eqvInts xs ys, Bool.eq_iff_iff]
    simp
theorem eqvD (xs ys : List Int) : PyData.eqv (intD xs) (intD ys) = decide (xs = ys) := by
  unfold intD
  rw [PyData.eqv]
  exact eqvInts xs ys
section
variable {X : Cx} {pins : List (Addr × Obj)} {σ : L2.St} {H : Hp} {s : Shared}
theorem call_setT {O : Msk} {x : V} {u : Value} {a : D} {ks : List (List Int)} {Q : Value → Shared → Prop} {E : Value → Shared → Prop} (I : Inv X pins σ H s) (hc : X.calm = true) (hu : X.A.units + 3 < cLine) (ha : Cv X.K O H x a) (ru : RelV x u) (hi : itemsD a = some (ks.map intD)) (hl : ks.length < 64) (hne : ks ≠ [])
    (h : ∀ (h' : Heap) (tk : Nat) (ps L : List (Addr × List Int)) es ep t, ps.map (·.2) = ks → SetTR X.prog X.w h' s.heap.objs.size L es ep t → Got ps ps.length L → (∀ b o, s.heap.get? b = some o → h'.get? b = some o) → Q (.ref s.heap.objs.size) { s with heap := h', toks := tk }) :
    wpAny (model X.prog X.w) X.A (PySem.call (.type "set") [u]) Q E s := by
  rcases itemsCv ha hi with ⟨p, vs, rfl, s1, d1⟩ | ⟨p, vs, rfl, s1, d1⟩ | ⟨z, rfl, e⟩
  · cases ru
    obtain ⟨ps, e1, rfl, e3⟩ := addrs_of d1
    obtain ⟨its, rv, pl, _⟩ := I.list (.inl s1)
    rw [refs_of_vals rv] at pl
    exact call_set_tups ps (I.ok.hd hc) pl.isList (by simp) (fun q hq => I.isT (e3 q hq)) (by rw [← e1, List.length_map] at hl; exact hl) hu fun h' tk L es ep t R g k => h h' tk ps L es ep t e1 R g k
  · cases ru
    obtain ⟨ps, e1, rfl, e3⟩ := addrs_of d1
    obtain ⟨its, rv, pl, _⟩ := I.tuple s1
    rw [refs_of_vals rv] at pl
    exact call_setT_tuple ps (I.ok.hd hc) pl (by simp) (fun q hq => I.isT (e3 q hq)) (by rw [← e1, List.length_map] at hl; exact hl) hu fun h' tk L es ep t R g k => h h' tk ps L es ep t e1 R g k
  · cases ks with
    | nil => exact absurd rfl hne
    | cons k r =>
      cases hq : cs z with
      | nil => rw [hq] at e; cases e
      | cons c l => rw [hq] at e; simp only [List.map_cons, List.cons.injEq] at e; exact absurd e.1 (by unfold intD; intro q; cases q)
theorem nd_len {α : Type} [DecidableEq α] : ∀ {l m : List α}, l.Nodup → (∀ x ∈ l, x ∈ m) → l.length ≤ m.length
  | [], _, _, _ => Nat.zero_le _
  | x :: l, m, h, hs => by
    obtain ⟨h1, h2⟩ := List.nodup_cons.mp h
    have hx := hs x List.mem_cons_self
    have := nd_len (l := l) (m := m.erase x) h2 fun y hy => (List.mem_erase_of_ne (fun e => h1 (by rw [← e]; exact hy))).mpr (hs y (List.mem_cons_of_mem _ hy))
    rw [List.length_erase_of_mem hx] at this
    have := List.length_pos_of_mem hx
    rw [List.length_cons]; omega
theorem got_len {ps L : List (Addr × List Int)} (g : Got ps ps.length L) (nd : (L.map (·.2)).Nodup) : L.length = (ded (ps.map (·.2))).length := by
  rw [← List.length_map (·.2) (as := L)]
  refine Nat.le_antisymm (nd_len nd fun x hx => ?_) (nd_len (nd_ded _) fun x hx => ?_)
  · obtain ⟨p, hp, rfl⟩ := List.mem_map.mp hx
    have := g.sub p hp
    rw [List.take_length] at this
    exact mem_ded.mpr (List.mem_map_of_mem this)
  · obtain ⟨p, hp, rfl⟩ := List.mem_map.mp (mem_ded.mp hx)
    exact g.all p (by rw [List.take_length]; exact hp)
theorem pe_lset {a : Expr} {ta : TE} {p p2 q pos : Pos} (hc : X.calm = true) (hu : X.A.units + 20 < cLine) (hg : Gl X "len") (hm : X.mg "len" = none) (hg2 : Gl X "set") (hm2 : X.mg "set" = none) (ha : PE X a ta)
    (na : starEach [a] X.env = (false, eval a X.env) :: starEach [] X.env) : PE X (.Call (.Name "len" p) [.Call (.Name "set" p2) [a] [] q] [] pos) (tSet1 X.K .lset ta) := by
  refine ⟨fun pins s σ H Q I h => ?_⟩
  refine Call_ (ld_blt I hg hm boot_len ?_)
  refine PyProof.Rows.callWith_builtin1 (PyProof.Rows.args_cons ?_ rfl) rfl rfl
  refine Call_ (ld_blt I hg2 hm2 PyProof.Rows.boot_set ?_)
  refine PyProof.Rows.callWith_type1 (PyProof.Rows.args_cons (thn (ha.run pins s σ H _ I h) fun v s1 ⟨x, H1, I1, r1, q1⟩ => PyProof.Rows.args_nil ?_) na) na rfl
  obtain ⟨O, ra, r, ca, hO, hg, q⟩ := q1
  have ca := ca.cv
  dsimp only at hg
  generalize ra.toD = d at ca hg
  simp only [b1D] at hg
  obtain ⟨xs, hxs, hg⟩ := Option.bind_eq_some_iff.mp hg
  split at hg
  · rename_i hk
    cases hg
    simp only [keyMx, Bool.and_eq_true, decide_eq_true_eq] at hk
    obtain ⟨ks, rfl⟩ := keys_of hk.1
    rw [List.length_map] at hk
    refine call_setM I1 hc ca r1 hxs hk.2 fun h' tk R k => PyProof.Rows.args_nil ?_
    obtain ⟨o, es, ep, t, ho, hex, hd, g, pL, nd, hb, hf, hr, hl⟩ := R
    have hn : (es.size : Int) = ((dedD (ks.map keyD)).length : Nat) := by
      rw [dedD_map keyD eqvKey, List.length_map, ← (foldK_perm ks).length_eq, ← pL.length_eq, List.length_map, Array.length_toList]
    have hlt : es.size < 4096 := hb
    have I2 : Inv X pins σ H1 { s1 with heap := h', toks := tk } := I1.kept k
    refine call_len_set ho hex hd hf (by omega) ⟨.int es.size, H1, I2.tok _, ⟨_, rfl⟩, ?_⟩
    rw [hn]
    exact giveInt q
  · rename_i hne
    split at hg
    · rename_i hk
      cases hg
      simp only [keyUx, Bool.and_eq_true, decide_eq_true_eq] at hk
      obtain ⟨ks, rfl⟩ := pairsK_of hk.1
      rw [List.length_map] at hk
      refine call_setT I1 hc (by omega) ca r1 hxs hk.2 (fun e => hne (by rw [e]; rfl)) fun h' tk ps L es ep t e1 R g k => PyProof.Rows.args_nil ?_
      obtain ⟨o, ho, hex, hd⟩ := R.ob
      have hn : (es.size : Int) = ((dedD (ks.map intD)).length : Nat) := by
        rw [dedD_map intD eqvD, List.length_map, SetTR.size (s := { s1 with heap := h', toks := tk }) R, got_len g R.nd, e1]
      have hlt : es.size < 64 := by rw [SetTR.size (s := { s1 with heap := h', toks := tk }) R]; exact R.few
      have I2 : Inv X pins σ H1 { s1 with heap := h', toks := tk } := I1.kept k
      refine call_len_set ho hex hd (SetTR.fits (s := { s1 with heap := h', toks := tk }) R) (by omega) ⟨.int es.size, H1, I2.tok _, ⟨_, rfl⟩, ?_⟩
      rw [hn]
      exact giveInt q
    · cases hg
end
end WM

/-! ## part E: the program's expressions against the small language -/
namespace WM
open PySem PySem.Spec PyProof.Rows L2
variable [τ : Tabs]

/-! ### the look: which tree of the text is which word -/
def nameOk (x : Str) : Bool := !(x == ("__debug__" : Str)) && !(x == ("__classdict__" : Str))
def visB (sc : Scope) (x : Str) : Bool := match sc.names.lookup x with
  | some .local => true
  | some .cell => true
  | some .free => true
  | _ => false
def locB (sc : Scope) (x : Str) : Bool := match sc.names.lookup x with
  | some .local => true
  | some .cell => true
  | _ => false
def gloB (sc : Scope) (x : Str) : Bool := match sc.names.lookup x with
  | some .globalImplicit => !(x == ("__debug__" : Str))
  | _ => false
/-- a tree that is read just as it stands: no star, no slice, no set -/
def plainE : Expr → Bool
  | .Starred _ _ => false
  | .Slice _ _ _ _ => false
  | .Set _ _ _ => false
  | _ => true
def notCall0 : Expr → Bool
  | .Call _ [] _ _ => false
  | _ => true
def b1Name : B1 → String
  | .len => "len" | .tuple => "tuple" | .list => "list" | .sorted => "sorted" | .abs => "abs" | .int => "int" | .sum => "sum" | .max => "max" | .min => "min"
  | .all => "all" | .any => "any" | .bool => "bool" | .ord => "ord" | .set => "set" | .sset => "" | .lset => ""
def b2Name : B2 → String
  | .max2 => "max" | .min2 => "min" | .gcd => "gcd"
def tyName : Ty → String
  | .int => "int" | .bool => "bool" | .str => "str" | .tuple => "tuple" | .list => "list"
/-- which of them have their proofs -/
def b1Has : B1 → Bool
  | .len => true | .tuple => true | .list => true | .sorted => true | .abs => true | .int => true | .sum => true | .all => true | .any => true | .max => true | .min => true
  | _ => false
structure Lk where
  N : List Str
  G : Gt
  /-- built-in names that the module leaves alone -/
  B : List Str
  gcd : Bool
def tgN (L : Lk) (loc : Str → Bool) (own : Option (List Nat)) : Nat → Expr → Bool
  | i, .Name x _ => decide (L.N[i]? = some x) && loc x && (match own with | none => true | some l => decide (i ∈ l))
  | _, _ => false
def tgNs (L : Lk) (loc : Str → Bool) (own : Option (List Nat)) : List Nat → List Expr → Bool
  | [], [] => true
  | i :: is, e :: es => tgN L loc own i e && tgNs L loc own is es
  | _, _ => false
def mtTg (L : Lk) (loc : Str → Bool) (own : Option (List Nat)) : Tg → Expr → Bool
  | .nm i, e => tgN L loc own i e
  | .tp is, .Tuple es _ _ => tgNs L loc own is es
  | _, _ => false
def bltB (L : Lk) (sc : Scope) (x : Str) (n : String) : Bool := decide (x = Str.ofString n) && gloB sc x && decide (x ∈ L.B)
def notListE : Expr → Bool
  | .List _ _ => false
  | _ => true
/-- a generator expression's own scope -/
def gxC (scope : Scope) : Bool := !scope.isCoroutine && scope.names.all (fun y => !decide (y.2 = .cell)) && decide (scope.names.lookup (".0" : Str) = some NameKind.local)
def cstZ : Const → Bool
  | .str z => szOk z.length
  | _ => true
mutual
def mtE (L : Lk) (j : Nat) : E → Scope → Expr → Bool
  | .var i, sc, e => match e with
    | .Name x _ => decide (L.N[i]? = some x) && visB sc x && nameOk x
    | _ => false
  | .cst c, sc, e => match e with
    | .Constant c' _ _ => decide (c = c') && (cstD c).isSome && cstZ c
    | _ => false
  | .glb k, sc, e => match e with
    | .Name x _ => (match L.G.gl[k]? with | some p => decide (p.1 = x) && gloB sc x | none => false)
    | _ => false
  | .tup es, sc, e => match e with
    | .Tuple xs _ _ => mtEs L j es sc xs && decide (es.len ≤ 1000)
    | _ => false
  | .lst es, sc, e => match e with
    | .List xs _ => mtEs L j es sc xs && decide (es.len ≤ 1000)
    | _ => false
  | .bin op a b, sc, e => match e with
    | .BinOp x o y _ => decide (op = o) && mtE L j a sc x && mtE L j b sc y
    | _ => false
  | .neg a, sc, e => match e with
    | .UnaryOp .USub x _ => mtE L j a sc x
    | _ => false
  | .inv a, sc, e => match e with
    | .UnaryOp .Not x _ => mtE L j a sc x
    | _ => false
  | .cmp op a b, sc, e => match e with
    | .Compare x [o] [y] _ => decide (op = o) && mtE L j a sc x && mtE L j b sc y
    | _ => false
  | .chn op op' a b c, sc, e => match e with
    | .Compare x [o, o'] [y, z] _ => decide (op = o) && decide (op' = o') && mtE L j a sc x && mtE L j b sc y && mtE L j c sc z
    | _ => false
  | .and es, sc, e => match e with
    | .BoolOp .And xs _ => mtEs L j es sc xs
    | _ => false
  | .or es, sc, e => match e with
    | .BoolOp .Or xs _ => mtEs L j es sc xs
    | _ => false
  | .ife c a b, sc, e => match e with
    | .IfExp x y z _ => mtE L j c sc x && mtE L j a sc y && mtE L j b sc z
    | _ => false
  | .ix a b, sc, e => match e with
    | .Subscript x y _ => mtE L j a sc x && mtE L j b sc y
    | _ => false
  | .sl a lo hi, sc, e => match e with
    | .Subscript x (.Slice l h none _) _ => mtE L j a sc x && mtO L j lo sc l && mtO L j hi sc h
    | _ => false
  | .rev a, sc, e => match e with
    | .Subscript x (.Slice none none (some (.UnaryOp .USub (.Constant (.int 1) _ _) _)) _) _ => mtE L j a sc x
    | _ => false
  | .call f es, sc, e => match e with
    | .Call (.Name x _) xs [] _ => decide (L.G.fn[f]? = some x) && gloB sc x && mtEs L j es sc xs && decide (0 < es.len)
    | _ => false
  | .b1 f a, sc, e => match e with
    | .Call (.Name x _) [y] [] _ => (match f with
      | .sset => (match y with | .Call (.Name x2 _) [z] [] _ => bltB L sc x "sorted" && bltB L sc x2 "set" && mtE L j a sc z | _ => false)
      | .lset => (match y with | .Call (.Name x2 _) [z] [] _ => bltB L sc x "len" && bltB L sc x2 "set" && mtE L j a sc z | _ => false)
      | _ => bltB L sc x (b1Name f) && mtE L j a sc y && b1Has f)
    | _ => false
  | .b2 f a b, sc, e => match e with
    | .Call (.Name x _) [y, z] [] _ => (match f with | .gcd => decide (x = Str.ofString "gcd") && gloB sc x && L.gcd | _ => bltB L sc x (b2Name f)) && mtE L j a sc y && mtE L j b sc z
    | _ => false
  | .isi a t, sc, e => match e with
    | .Call (.Name x _) [y, .Name z _] [] _ => bltB L sc x "isinstance" && bltB L sc z (tyName t) && mtE L j a sc y
    | _ => false
  | .m1 f o a, sc, e => match e with
    | .Call (.Attribute y m ap) [x] [] cp => decide (m = Str.ofString (m1Nm f)) && (ap.endLine == cp.line) && notCall0 y && mtE L j o sc y && mtE L j a sc x
    | _ => false
  | .lc own t it ifs e1, sc, e => match e with
    | .ListComp x [⟨tg, i, fs, 0⟩] scope _ => blkC L.N sc scope own && mtIt L j it sc tg i && mtTg L (locB scope) (some (own.map (·.2))) t tg && mtEs L j ifs (relS scope sc) fs && decide (ifs.len ≤ 1) && mtE L j e1 (relS scope sc) x
    | _ => false
  | .lc2 own t it t2 it2 ifs e1, sc, e => match e with
    | .ListComp x [⟨tg, i, [], 0⟩, ⟨tg2, i2, fs, 0⟩] scope _ => blkC L.N sc scope own && mtIt L j it sc tg i && mtTg L (locB scope) (some (own.map (·.2))) t tg && mtIt L j it2 (relS scope sc) tg2 i2 && mtTg L (locB scope) (some (own.map (·.2))) t2 tg2 && mtEs L j ifs (relS scope sc) fs && decide (ifs.len ≤ 1) && mtE L j e1 (relS scope sc) x
    | _ => false
  | .gx c own t it ifs e1, sc, e => match e with
    | .Call (.Name z _) [.GeneratorExp x [⟨tg, i, fs, 0⟩] scope _] [] _ => (match c with | .all => bltB L sc z "all" | .any => bltB L sc z "any" | _ => false) && decide (j = 1) && gxC scope && notListE i && blkC L.N sc scope own && mtIt L j it sc tg i && mtTg L (locB scope) (some (own.map (·.2))) t tg && mtEs L 0 ifs scope fs && decide (ifs.len ≤ 1) && mtE L 0 e1 scope x
    | _ => false
  | .dnew, sc, e => match e with
    | .Dict [] [] _ => true
    | _ => false
  | .ddp k v, sc, e => match e with
    | .Dict [some x] [y] _ => mtE L j k sc x && mtE L j v sc y
    | _ => false
  | .dg1 a k, sc, e => match e with
    | .Call (.Attribute y m ap) [x] [] cp => decide (m = Str.ofString "get") && (ap.endLine == cp.line) && notCall0 y && mtE L j a sc y && mtE L j k sc x
    | _ => false
  | .dg2 a k d, sc, e => match e with
    | .Call (.Attribute y m ap) [x, z] [] cp => decide (m = Str.ofString "get") && (ap.endLine == cp.line) && notCall0 y && mtE L j a sc y && mtE L j k sc x && mtE L j d sc z
    | _ => false
def mtEs (L : Lk) (j : Nat) : Es → Scope → List Expr → Bool
  | .nil, sc, l => match l with
    | [] => true
    | _ => false
  | .cons e es, sc, l => match l with
    | x :: xs => mtE L j e sc x && mtEs L j es sc xs
    | [] => false
def mtO (L : Lk) (j : Nat) : Oe → Scope → Option Expr → Bool
  | .no, sc, o => match o with
    | none => true
    | _ => false
  | .so e, sc, o => match o with
    | some x => mtE L j e sc x
    | none => false
def mtIt (L : Lk) (j : Nat) : It → Scope → Expr → Expr → Bool
  | .e a, sc, tg, e => mtE L j a sc e
  | .rg1 a, sc, tg, e => match e with
    | .Call (.Name x _) [y] [] _ => bltB L sc x "range" && mtE L j a sc y
    | _ => false
  | .rg2 a b, sc, tg, e => match e with
    | .Call (.Name x _) [y, z] [] _ => bltB L sc x "range" && mtE L j a sc y && mtE L j b sc z
    | _ => false
  | .rg3 a b c, sc, tg, e => match e with
    | .Call (.Name x _) [y, z, w] [] _ => bltB L sc x "range" && mtE L j a sc y && mtE L j b sc z && mtE L j c sc w
    | _ => false
  | .zp a b, sc, tg, e => match tg, e with
    | .Tuple _ _ _, .Call (.Name x _) [y, z] [] _ => bltB L sc x "zip" && mtE L j a sc y && mtE L j b sc z
    | _, _ => false
  | .en a, sc, tg, e => match tg, e with
    | .Tuple _ _ _, .Call (.Name x _) [y] [] _ => bltB L sc x "enumerate" && mtE L j a sc y
    | _, _ => false
end
theorem mtE_plain (L : Lk) (j : Nat) (ir : E) (sc : Scope) (e : Expr) (h : mtE L j ir sc e = true) : plainE e = true := by
  cases e with
  | Starred => cases ir <;> simp [mtE] at h
  | Slice => cases ir <;> simp [mtE] at h
  | «Set» => cases ir <;> simp [mtE] at h
  | _ => rfl

/-! ### contexts -/
/-- a def's promise -/
def CvAll (K : Frag) (O : Msk) (H : Hp) : List V → List D → Prop
  | [], [] => True
  | v :: vs, d :: ds => Cv K O H v d ∧ CvAll K O H vs ds
  | _, _ => False
theorem CvAll.len {K : Frag} {O : Msk} {H : Hp} : ∀ {vs : List V} {ds : List D}, CvAll K O H vs ds → vs.length = ds.length
  | [], [], _ => rfl
  | _ :: _, _ :: _, h => by rw [List.length_cons, List.length_cons, CvAll.len h.2]
  | [], _ :: _, h => h.elim
  | _ :: _, [], h => h.elim
def notB : R → Prop
  | .b _ => False
  | .bd _ => False
  | _ => True
def spF (K : Frag) (φ : List D → Option R) : Sp := fun vs H Q _ => ∃ (O : Msk) (ds : List D) (r : R), CvAll K O H vs ds ∧ (∀ P, Tabs.T P → GxR.TabG H P) ∧ (∀ b, O b → ∃ o, H b = some o ∧ lstO o = true) ∧ φ ds = some r ∧ notB r ∧ ∀ v H', Ext H H' → Rv K O H H' v r → Q v H'
def HLen (K : Frag) (H : Hp) : Prop := (∀ a vs, Rd H a (.lst vs) → vs.length ≤ sizeLine) ∧ ∀ a vs, SqT K H a vs → vs.length ≤ sizeLine
structure CxOk (L : Lk) (Φ : Phi) (n j : Nat) (sc : Scope) (X : Cx) : Prop where
  names : X.N = L.N
  nd : X.N.Nodup
  scope : X.env.scope = sc
  calm : X.calm = true
  nox : X.xe = fun _ _ => False
  room : Room (n + j) X.A
  blt : ∀ x ∈ L.B, X.mg x = none
  gl : ∀ (k : Nat) (p : Str × D), L.G.gl[k]? = some p → ∃ u v, X.mg p.1 = some u ∧ RelV v u ∧ ∀ H, Dq X.K H v p.2
  gcd : L.gcd = true → X.mg ("gcd" : Str) = some (.builtin "math.gcd")
  fns : ∀ (f : Nat) (x : Str), L.G.fn[f]? = some x → ∃ fa fd ps, X.mg x = some (.ref fa) ∧ PySem.W.keepIn X.K (.ref fa) = true ∧ Binds X.K fd ps [] ∧ FnOk X.prog X.w X.K X.mg X.base CX0 n fa fd ps (spF X.K (Φ f))
  own : j = 1 → ∃ c P, X.env.code = .ref c ∧ GxR.TabB X.base X.mg c P ∧ Tabs.T P
section
variable {X : Cx} {pins : List (Addr × Obj)} {σ : L2.St} {H : Hp} {s : Shared}
theorem hlen_of (I : Inv X pins σ H s) : HLen X.K H :=
  ⟨fun a vs h => (lstObj I h).1, fun a vs h => let ⟨_, _, _, z⟩ := I.tuple h; z⟩
end
section
variable {X : Cx} {e : Expr}
theorem peImp {t t' : TE} (h : PE X e t) (i : ∀ σ H Q, HLen X.K H → t' σ H Q → t σ H fun v H' => HLen X.K H' → Q v H') : PE X e t' :=
  ⟨fun pins s σ H Q I q => thn (h.run pins s σ H _ I (i σ H Q (hlen_of I) q)) fun u s' ⟨v, H', I', r, z⟩ => ⟨v, H', I', r, z (hlen_of I')⟩⟩
theorem ptImp {t t' : TT} (h : PT X e t) (i : ∀ σ H Q, HLen X.K H → t' σ H Q → t σ H fun v H' => HLen X.K H' → Q v H') : PT X e t' :=
  ⟨fun pins s σ H Q I q => thn (h.run pins s σ H _ I (i σ H Q (hlen_of I) q)) fun b s' ⟨H', I', z⟩ => ⟨H', I', z (hlen_of I')⟩⟩
theorem pwImp {t t' : TT} (h : PW X e t) (i : ∀ σ H Q, HLen X.K H → t' σ H Q → t σ H fun v H' => HLen X.K H' → Q v H') : PW X e t' :=
  ⟨fun wh pins s σ H Q I q => thn (h.run wh pins s σ H _ I (i σ H Q (hlen_of I) q)) fun b s' ⟨H', I', z⟩ => ⟨H', I', z (hlen_of I')⟩⟩
theorem paImp {es : List Expr} {t t' : TA} (h : PA X es t) (i : ∀ σ H Q, HLen X.K H → t' σ H Q → t σ H fun v H' => HLen X.K H' → Q v H') : PA X es t' :=
  ⟨fun pos pins s σ H Q I q => thn (h.run pos pins s σ H _ I (i σ H Q (hlen_of I) q)) fun us s' ⟨vs, H', I', r, z⟩ => ⟨vs, H', I', r, z (hlen_of I')⟩⟩
theorem poImp {o : Option Expr} {t t' : TO} (h : PO X o t) (i : ∀ σ H Q, HLen X.K H → t' σ H Q → t σ H fun v H' => HLen X.K H' → Q v H') : PO X o t' :=
  ⟨fun pins s σ H Q I q => thn (h.run pins s σ H _ I (i σ H Q (hlen_of I) q)) fun u s' ⟨v, H', I', r, z⟩ => ⟨v, H', I', r, z (hlen_of I')⟩⟩
end

/-! ### the readings -/
section
variable (K : Frag) (G : Gt) (Φ : Phi)
def tE (e : E) : TE := fun σ H Q => ∃ H0 O A ρ r, Rel K H0 O A σ H ρ ∧ ev G Φ e false ρ = some r ∧ ∀ v H', Ext H H' → HLen K H' → Rv K (Ow O A) H H' v r → Q v H'
def tT (e : E) : TT := fun σ H Q => ∃ H0 O A ρ b, Rel K H0 O A σ H ρ ∧ asB (ev G Φ e true ρ) = some b ∧ ∀ H', Ext H H' → HLen K H' → Q b H'
def RvAll (M : Msk) (H : Hp) : List V → List R → Prop
  | [], [] => True
  | v :: vs, r :: rs => Uv K M H v r ∧ RvAll M H vs rs
  | _, _ => False
/-- arguments: and the fresh lists among them, new since H -/
def tA (es : Es) : TA := fun σ H Q => ∃ H0 O A ρ rs, Rel K H0 O A σ H ρ ∧ evs G Φ es ρ = some rs ∧ ∀ vs H', Ext H H' → HLen K H' → RvAll K (Ow O A) H' vs rs → (∀ xs, shareAll rs = some xs → DqAll K (frz H' (Ow O A)) vs xs) → Q vs H'
def tO (o : Oe) : TO := fun σ H Q => ∃ H0 O A ρ x, Rel K H0 O A σ H ρ ∧ evo G Φ o ρ = some x ∧ ∀ H', Ext H H' → HLen K H' → Q x H'
end
section
variable {K : Frag} {G : Gt} {Φ : Phi} {H0 H : Hp} {O : Msk} {A : Nat → Option Addr} {σ : L2.St} {ρ : List Sl}
theorem tE.go {e : E} {r : R} {Q : VK} (rel : Rel K H0 O A σ H ρ) (h : ev G Φ e false ρ = some r)
    (q : ∀ v H', Ext H H' → HLen K H' → Rel K H0 O A σ H' ρ → Rv K (Ow O A) H H' v r → Q v H') : tE K G Φ e σ H Q :=
  ⟨H0, O, A, ρ, r, rel, h, fun v H' x l z => q v H' x l (rel.mono x) z⟩
theorem tT.go {e : E} {b : Bool} {Q : Bool → Hp → Prop} (rel : Rel K H0 O A σ H ρ) (h : asB (ev G Φ e true ρ) = some b)
    (q : ∀ H', Ext H H' → HLen K H' → Rel K H0 O A σ H' ρ → Q b H') : tT K G Φ e σ H Q :=
  ⟨H0, O, A, ρ, b, rel, h, fun H' x l => q H' x l (rel.mono x)⟩
theorem tA.go {es : Es} {rs : List R} {Q : List V → Hp → Prop} (rel : Rel K H0 O A σ H ρ) (h : evs G Φ es ρ = some rs)
    (q : ∀ vs H', Ext H H' → HLen K H' → Rel K H0 O A σ H' ρ → RvAll K (Ow O A) H' vs rs → (∀ xs, shareAll rs = some xs → DqAll K (frz H' (Ow O A)) vs xs) → Q vs H') : tA K G Φ es σ H Q :=
  ⟨H0, O, A, ρ, rs, rel, h, fun v H' x l z y => q v H' x l (rel.mono x) z y⟩
theorem tO.go {o : Oe} {x : Option Int} {Q : Option Int → Hp → Prop} (rel : Rel K H0 O A σ H ρ) (h : evo G Φ o ρ = some x)
    (q : ∀ H', Ext H H' → HLen K H' → Rel K H0 O A σ H' ρ → Q x H') : tO K G Φ o σ H Q :=
  ⟨H0, O, A, ρ, x, rel, h, fun H' y l => q H' y l (rel.mono y)⟩
theorem Rel.domO (r : Rel K H0 O A σ H ρ) : Dom (Ow O A) H := fun b h => let ⟨o, h1, _⟩ := r.lsts b h; ⟨o, h1⟩
theorem RvAll.mono {M : Msk} {H H' : Hp} (e : Ext H H') : ∀ {vs : List V} {rs : List R}, RvAll K M H vs rs → RvAll K M H' vs rs
  | [], [], _ => trivial
  | _ :: _, _ :: _, h => ⟨h.1.mono e, RvAll.mono e h.2⟩
  | [], _ :: _, h => h.elim
  | _ :: _, [], h => h.elim
theorem RvAll.cv {M : Msk} {H : Hp} : ∀ {vs : List V} {rs : List R}, RvAll K M H vs rs → CvAll K M H vs (rs.map R.toD)
  | [], [], _ => trivial
  | _ :: _, _ :: _, h => ⟨h.1.cv, RvAll.cv h.2⟩
  | [], _ :: _, h => h.elim
  | _ :: _, [], h => h.elim
theorem RvAll.len {M : Msk} {H : Hp} : ∀ {vs : List V} {rs : List R}, RvAll K M H vs rs → vs.length = rs.length
  | [], [], _ => rfl
  | _ :: _, _ :: _, h => by rw [List.length_cons, List.length_cons, RvAll.len h.2]
  | [], _ :: _, h => h.elim
  | _ :: _, [], h => h.elim
end
theorem evs_len {G : Gt} {Φ : Phi} {ρ : List Sl} : ∀ (es : Es) {rs : List R}, evs G Φ es ρ = some rs → rs.length = es.len
  | .nil, rs, h => by
    simp only [evs] at h
    cases h; rfl
  | .cons e es, rs, h => by
    simp only [evs, Option.bind_eq_some_iff, Option.map_eq_some_iff] at h
    obtain ⟨r, _, rs', h2, rfl⟩ := h
    rw [List.length_cons, evs_len es h2, Es.len]
theorem shareAll_len : ∀ (rs : List R) {xs : List D}, shareAll rs = some xs → xs.length = rs.length
  | [], xs, h => by
    simp only [shareAll] at h
    cases h; rfl
  | r :: rs, xs, h => by
    simp only [shareAll, Option.bind_eq_some_iff, Option.map_eq_some_iff] at h
    obtain ⟨x, _, ys, h2, rfl⟩ := h
    rw [List.length_cons, List.length_cons, shareAll_len rs h2]
/-- the end of a value: as a value, or its truth -/
theorem fin_asB {r : Option R} {b : Bool} (h : asB (fin true r) = some b) : ∃ x, r = some x ∧ tru x.toD = some b := by
  cases r with
  | none => cases h
  | some x =>
    refine ⟨x, rfl, ?_⟩
    simp only [fin, Option.bind_some] at h
    cases e : tru x.toD with
    | none => rw [e] at h; cases h
    | some k => rw [e] at h; exact h
end WM

/-! ## part F: what is walked -/
namespace WM
open PySem PySem.Spec PyProof.Rows L2
variable [τ : Tabs]

/-- the heap is as when the walk began, as far as the walk asks -/
structure StW (K : Frag) (H1 : Hp) (M1 : Msk) (L : List (Addr × List V)) (H : Hp) (M : Msk) : Prop where
  dom : Dom M H
  ext : Ext (frz H1 M1) (frz H M)
  keep : ∀ p ∈ L, Rd H p.1 (.lst p.2)
structure Wk (K : Frag) (H1 : Hp) (M1 : Msk) (L : List (Addr × List V)) (J : L2.It) (xs : List D) : Prop where
  goes : ∀ i H M, i < xs.length → StW K H1 M1 L H M → J.go i H
  stops : ∀ H M, StW K H1 M1 L H M → J.stop xs.length H
  yields : ∀ i H M x H', i < xs.length → StW K H1 M1 L H M → J.yld i H x H' → Ext H H' ∧ ∃ d, xs[i]? = some d ∧ Dq K (frz H' M) x d
def Kp (H0 H1 : Hp) (M1 : Msk) (A : Nat → Option Addr) (ls : List Nat) (p : Addr × List V) : Prop :=
  frz H1 M1 p.1 = some (.lst p.2) ∨ (∃ i, i ∈ ls ∧ A i = some p.1 ∧ H1 p.1 = some (.lst p.2)) ∨ Rd H0 p.1 (.lst p.2)
def tI (K : Frag) (G : Gt) (Φ : Phi) (it : It) : TI := fun σ H R => ∃ H0 O A ρ xs, Rel K H0 O A σ H ρ ∧ evIt G Φ it ρ = some xs ∧
  ∀ J H1 L, Ext H H1 → HLen K H1 → (∀ p ∈ L, Kp H0 H1 (Ow O A) A it.locks p) → Wk K H1 (Ow O A) L J xs → R J H1
section
variable {X : Cx} {tg e : Expr}
theorem piImp {t t' : TI} (h : PI X tg e t) (i : ∀ σ H R, HLen X.K H → t' σ H R → t σ H fun J H' => HLen X.K H' → R J H') : PI X tg e t' :=
  ⟨fun pins s σ H R I q => thn (h.run pins s σ H _ I (i σ H R (hlen_of I) q)) fun u s' z => thn z fun itv s2 ⟨it, fp, tn, J, H', e1, I', T, t0, f, r⟩ => ⟨it, fp, tn, J, H', e1, I', T, t0, f, r (hlen_of I')⟩⟩
theorem piOr {t t' : TI} (h : PI X tg e t) (h' : PI X tg e t') : PI X tg e (fun σ H R => t σ H R ∨ t' σ H R) :=
  ⟨fun pins s σ H R I q => q.elim (h.run pins s σ H R I) (h'.run pins s σ H R I)⟩
end
section
variable {K : Frag} {H1 : Hp} {M1 : Msk} {L : List (Addr × List V)}
theorem wkList {a : Addr} {vs : List V} {xs : List D} (hL : (a, vs) ∈ L) (hd : DqAll K (frz H1 M1) vs xs) : Wk K H1 M1 L (Itl K a) xs where
  goes := fun i H M hi st => ⟨vs, vs[i]'(by rw [DqAll.len hd]; exact hi), .inl (st.keep _ hL), by simp⟩
  stops := fun H M st => ⟨vs, .inl (st.keep _ hL), by rw [DqAll.len hd]; exact Nat.le_refl _⟩
  yields := fun i H M x H' hi st ⟨e, y⟩ => by
    subst e
    have q := y vs (.inl (st.keep _ hL))
    obtain ⟨d, h1, h2⟩ := DqAll.get' hd q
    exact ⟨Ext.refl _, d, h1, dpMono st.ext _ _ h2⟩
theorem wkTup {a : Addr} {vs : List V} {xs : List D} (hT : SqT K (frz H1 M1) a vs) (hd : DqAll K (frz H1 M1) vs xs) : Wk K H1 M1 L (Itt K a) xs where
  goes := fun i H M hi st => ⟨vs, vs[i]'(by rw [DqAll.len hd]; exact hi), Ext.unfrz.sqT (st.ext.sqT hT), by simp⟩
  stops := fun H M st => ⟨vs, Ext.unfrz.sqT (st.ext.sqT hT), by rw [DqAll.len hd]; exact Nat.le_refl _⟩
  yields := fun i H M x H' hi st ⟨e, y⟩ => by
    subst e
    have q := y vs (Ext.unfrz.sqT (st.ext.sqT hT))
    obtain ⟨d, h1, h2⟩ := DqAll.get' hd q
    exact ⟨Ext.refl _, d, h1, dpMono st.ext _ _ h2⟩
theorem wkStr {z : Str} : Wk K H1 M1 L (Its z) ((cs z).map fun c => .str (mkS [c])) where
  goes := fun i H M hi st => by
    show i < z.cps.size
    simpa [cs] using hi
  stops := fun H M st => by
    show z.cps.size ≤ _
    simp [cs]
  yields := fun i H M x H' hi st ⟨e, c, hc, hx⟩ => by
    subst e hx
    refine ⟨Ext.refl _, .str (mkS [c]), ?_, Dq.str _ (show (1 : Nat) ≤ 16777216 by decide)⟩
    rw [List.getElem?_map]
    have : (cs z)[i]? = some c := by
      unfold cs
      rw [Array.getElem?_toList]
      exact hc
    rw [this]
    rfl
theorem wkRangeC {lo c : Int} {n : Nat} : Wk K H1 M1 L (Itc lo c n) (rangeC lo c n) where
  goes := fun i H M hi st => by
    show i < n
    simpa [rangeC] using hi
  stops := fun H M st => by
    show n ≤ _
    simp [rangeC]
  yields := fun i H M x H' hi st ⟨e, hx⟩ => by
    subst e hx
    have hi : i < n := by simpa [rangeC] using hi
    refine ⟨Ext.refl _, .int (lo + i * c), ?_, Dq.int _⟩
    unfold rangeC
    rw [List.getElem?_map, List.getElem?_range hi]
    rfl
theorem wkRange {lo : Int} {n : Nat} : Wk K H1 M1 L (Itr lo n) (rangeL lo n) where
  goes := fun i H M hi st => by
    show i < n
    simpa [rangeL] using hi
  stops := fun H M st => by
    show n ≤ _
    simp [rangeL]
  yields := fun i H M x H' hi st ⟨e, hx⟩ => by
    subst e hx
    have hi : i < n := by simpa [rangeL] using hi
    refine ⟨Ext.refl _, .int (lo + i), ?_, Dq.int _⟩
    unfold rangeL
    rw [List.getElem?_map, List.getElem?_range hi]
    rfl
end
theorem bndOk_iff {i : Int} (h : bndOk i = true) : -(2 ^ 62) ≤ i ∧ i < 2 ^ 62 := by simpa [bndOk] using h

/-! ## the expressions -/
section
variable {L : Lk} {Φ : Phi} {n j : Nat} {X : Cx} {sc : Scope}
theorem visOk (x : Str) (h : visB sc x = true) : Vis sc x := by
  unfold visB at h
  unfold Vis
  split at h
  · rename_i e; exact .inl e
  · rename_i e; exact .inr (.inl e)
  · rename_i e; exact .inr (.inr e)
  · cases h
theorem locOk (x : Str) (h : locB sc x = true) : L2.Loc sc x := by
  unfold locB at h
  unfold L2.Loc
  split at h
  · rename_i e; exact .inl e
  · rename_i e; exact .inr e
  · cases h
theorem gloOk {x : Str} (c : CxOk L Φ n j sc X) (h : gloB sc x = true) : Gl X x ∧ (x == ("__debug__" : Str)) = false := by
  unfold gloB at h
  split at h
  · rename_i e
    refine ⟨?_, by simpa using h⟩
    unfold Gl Env.kindOf
    rw [c.scope]
    exact e
  · cases h
theorem bltOk {x : Str} {m : String} (c : CxOk L Φ n j sc X) (h : bltB L sc x m = true) : x = Str.ofString m ∧ Gl X x ∧ (x == ("__debug__" : Str)) = false ∧ X.mg x = none := by
  simp only [bltB, Bool.and_eq_true, decide_eq_true_eq] at h
  obtain ⟨⟨h1, h2⟩, h3⟩ := h
  obtain ⟨h4, h5⟩ := gloOk c h2
  exact ⟨h1, h4, h5, c.blt x h3⟩
theorem plainStar {e : Expr} {es : List Expr} {env : Env} (h : plainE e = true) : starEach (e :: es) env = (false, eval e env) :: starEach es env := by
  cases e <;> first | rfl | cases h
theorem plainIx {e : Expr} (h : plainE e = true) : PlainIx e := by
  intro o i
  cases e <;> first | rfl | cases h
theorem plainMark {e : Expr} {op : CmpOp} (h : plainE e = true) : behindInMarks op e = false := by
  cases e <;> first | rfl | cases h
theorem plainFold {e : Expr} {env : Env} {x : Value} (h : plainE e = true) : foldedSetIterable e env x = pure x := by
  cases e <;> first | rfl | cases h
/-- trees whose test is their value's truth -/
def testE : Expr → Bool
  | .UnaryOp .Not _ _ => false
  | .BoolOp _ _ _ => false
  | .IfExp _ _ _ _ => false
  | .Compare _ _ _ _ => false
  | _ => true
theorem testTrue {e : Expr} {env : Env} (h : testE e = true) : ∀ whole, isTrue e env whole = (do let v ← whole; standAt e.pos; holding [v] (truthy v)) := by
  intro whole
  cases e with
  | UnaryOp op a pos => cases op <;> first | rfl | cases h
  | BoolOp => cases h
  | IfExp => cases h
  | Compare => cases h
  | _ => rfl
end

/-- an expression in both its uses -/
structure SE (K : Frag) (G : Gt) (Φ : Phi) (X : Cx) (e : Expr) (ir : E) : Prop where
  v : PE X e (tE K G Φ ir)
  t : PT X e (tT K G Φ ir)
section
variable {K : Frag} {G : Gt} {Φ : Phi} {X : Cx} {e : Expr} {ir : E}
/-- its test from its value -/
theorem SE.of (hK : X.K = K) (h : PE X e (tE K G Φ ir)) (ht : testE e = true) (hf : ∀ ρ, ev G Φ ir true ρ = fin true (ev G Φ ir false ρ)) : SE K G Φ X e ir := by
  subst hK
  refine ⟨h, ptImp (pt_truth h (testTrue ht)) fun σ H Q hl ⟨H0, O, A, ρ, b, rel, he, q⟩ => ?_⟩
  rw [hf] at he
  obtain ⟨x, hx, hk⟩ := fin_asB he
  refine tE.go rel hx fun v H' x1 l1 r1 rv => ⟨b, tru_v rv.cv hk, fun _ => q H' x1 l1⟩
theorem SE.tC (hK : X.K = K) (h : PE X e (tE K G Φ ir)) (hp : PT X e (tB (tE K G Φ ir))) (hf : ∀ ρ, ev G Φ ir true ρ = ev G Φ ir false ρ) : SE K G Φ X e ir := by
  subst hK
  refine ⟨h, ptImp hp fun σ H Q hl ⟨H0, O, A, ρ, b, rel, he, q⟩ => ?_⟩
  rw [hf] at he
  cases hx : ev G Φ ir false ρ with
  | none => rw [hx] at he; cases he
  | some r =>
    rw [hx] at he
    cases r with
    | d x =>
      cases x with
      | bool k =>
        cases he
        refine tE.go rel hx fun v H' x1 l1 r1 rv => ⟨b, rv.cv.bool, fun _ => q H' x1 l1⟩
      | _ => cases he
    | _ => cases he
end
end WM

namespace WM
open PySem PySem.Spec PyProof.Rows L2
variable [τ : Tabs]
theorem enumL_len : ∀ (xs : List D) (n : Nat), (enumL n xs).length = xs.length
  | [], _ => rfl
  | x :: xs, n => by rw [enumL, List.length_cons, List.length_cons, enumL_len xs]
theorem enumL_get : ∀ (xs : List D) (n i : Nat), (enumL n xs)[i]? = (xs[i]?).map fun x => .tuple [.int ((n + i : Nat) : Int), x]
  | [], _, _ => by simp [enumL]
  | x :: xs, n, 0 => by simp [enumL]
  | x :: xs, n, i + 1 => by
    rw [enumL, List.getElem?_cons_succ, List.getElem?_cons_succ, enumL_get xs (n + 1) i]
    rw [show n + 1 + i = n + (i + 1) by omega]
theorem pairL_len : ∀ (xs ys : List D), (pairL xs ys).length = min xs.length ys.length
  | [], _ => by simp [pairL]
  | _ :: _, [] => by simp [pairL]
  | x :: xs, y :: ys => by rw [pairL, List.length_cons, List.length_cons, List.length_cons, pairL_len xs ys]; omega
theorem pairL_get : ∀ (xs ys : List D) (i : Nat) (x y : D), xs[i]? = some x → ys[i]? = some y → (pairL xs ys)[i]? = some (.tuple [x, y])
  | [], _, _, _, _, h, _ => by simp at h
  | _ :: _, [], _, _, _, _, h => by simp at h
  | a :: xs, b :: ys, 0, x, y, h, h2 => by
    simp at h h2
    subst h h2
    simp [pairL]
  | a :: xs, b :: ys, i + 1, x, y, h, h2 => by
    rw [pairL, List.getElem?_cons_succ]
    exact pairL_get xs ys i x y (by simpa using h) (by simpa using h2)
section
variable {K : Frag} {H1 : Hp} {M1 : Msk} {Ls : List (Addr × List V)}
theorem newTup {H : Hp} {M : Msk} {T : Addr} {vs : List V} {ds : List D} (hM : Dom M H) (hT : H T = none) (h : DqAll K (frz H M) vs ds) : Dq K (frz (upd H T (.tup vs)) M) (.ref T) (.tuple ds) := by
  have nm : ¬ M T := fun z => by
    obtain ⟨o, e⟩ := hM T z
    rw [hT] at e; cases e
  exact .tup (.inl (.inl (frz_mk nm upd_same))) (dpMonoAll (Ext.upd hT).frz _ _ h)
theorem wkEnum {a : Addr} {vs : List V} {xs : List D} (hL : (a, vs) ∈ Ls) (hd : DqAll K (frz H1 M1) vs xs) : Wk K H1 M1 Ls (Ite K a) (enumL 0 xs) where
  goes := fun i H M hi st => by
    rw [enumL_len] at hi
    exact ⟨vs, vs[i]'(by rw [DqAll.len hd]; exact hi), .inl (st.keep _ hL), by simp⟩
  stops := fun H M st => ⟨vs, .inl (st.keep _ hL), by rw [DqAll.len hd, enumL_len]; exact Nat.le_refl _⟩
  yields := fun i H M x H' hi st ⟨T, y, e1, e2, e3, e4⟩ => by
    subst e1 e3
    have q := e4 vs (.inl (st.keep _ hL))
    obtain ⟨d, h1, h2⟩ := DqAll.get' hd q
    refine ⟨Ext.upd e2, .tuple [.int i, d], by rw [enumL_get, h1, Nat.zero_add]; rfl, ?_⟩
    exact newTup st.dom e2 (.cons (.int _) (.cons (dpMono st.ext _ _ h2) .nil))
theorem wkZip {a b : Addr} {vs ws : List V} {xs ys : List D} (hL : (a, vs) ∈ Ls) (hL2 : (b, ws) ∈ Ls) (hd : DqAll K (frz H1 M1) vs xs) (hd2 : DqAll K (frz H1 M1) ws ys) : Wk K H1 M1 Ls (Itz K a b) (pairL xs ys) where
  goes := fun i H M hi st => by
    rw [pairL_len] at hi
    exact ⟨vs, ws, vs[i]'(by rw [DqAll.len hd]; omega), ws[i]'(by rw [DqAll.len hd2]; omega), .inl (st.keep _ hL), .inl (st.keep _ hL2), by simp, by simp⟩
  stops := fun H M st => ⟨vs, ws, .inl (st.keep _ hL), .inl (st.keep _ hL2), by rw [DqAll.len hd, DqAll.len hd2, pairL_len]; omega⟩
  yields := fun i H M x H' hi st ⟨T, y, z, e1, e2, e3, e4, e5⟩ => by
    subst e1 e3
    obtain ⟨d, h1, h2⟩ := DqAll.get' hd (e4 vs (.inl (st.keep _ hL)))
    obtain ⟨d2, h3, h4⟩ := DqAll.get' hd2 (e5 ws (.inl (st.keep _ hL2)))
    refine ⟨Ext.upd e2, .tuple [d, d2], pairL_get _ _ _ _ _ h1 h3, ?_⟩
    exact newTup st.dom e2 (.cons (dpMono st.ext _ _ h2) (.cons (dpMono st.ext _ _ h4) .nil))
end
end WM

/-! ## part Z: zip of two texts, of two tuples -/
namespace WM
open PySem PySem.Spec PyProof.Rows L2
/-- the letters of two texts, in new pairs -/
def ItzS (x y : Str) : L2.It :=
  ⟨fun i _ => i < x.cps.size ∧ i < y.cps.size, fun i H v H' => ∃ T c d, v = .ref T ∧ H T = none ∧ H' = upd H T (.tup [.str ⟨#[c]⟩, .str ⟨#[d]⟩]) ∧ x.cps[i]? = some c ∧ y.cps[i]? = some d,
    fun i _ => i ≤ x.cps.size ∧ i ≤ y.cps.size ∧ (i = x.cps.size ∨ i = y.cps.size)⟩
theorem turn_zipS {P : Program} {w : World} {K : Frag} {elts : List Expr} {kk : Nat} {tpos : Pos} {x y : Str} {t t' : Tok} {z TI TO i1 i2 : Addr} (S : ZipSep2 z TI TO i1 i2 [i1] [i2]) :
    Turn P w K (.Tuple elts kk tpos) (ItzS x y) [z, TI, TO, i1, i2] z (fun i h => IsZip h z TI TO .none ∧ IsTupOf2 h TI (.ref i1) (.ref i2) ∧ (∃ a b, IsTupOf2 h TO a b) ∧ h.IsStrIter i1 (strIterType x) x t i ∧ h.IsStrIter i2 (strIterType y) y t' i) where
  mem := by simp
  obj := fun i h st c hc => by
    obtain ⟨hz, hTI, ⟨a, b, hTO⟩, ⟨o1, e1, _, d1⟩, ⟨o2, e2, _, d2⟩⟩ := st
    have e' : c = z ∨ c = TI ∨ c = TO ∨ c = i1 ∨ c = i2 := by simpa using hc
    rcases e' with q | q | q | q | q
    · rw [q]; exact ⟨_, hz, fun v q => nomatch q⟩
    · rw [q]; exact ⟨_, hTI, fun v q => nomatch q⟩
    · rw [q]; exact ⟨_, hTO, fun v q => nomatch q⟩
    · rw [q]; exact ⟨o1, e1, fun v q => by rw [d1] at q; cases q⟩
    · rw [q]; exact ⟨o2, e2, fun v q => by rw [d2] at q; cases q⟩
  keep := fun i h h' st k => by
    obtain ⟨hz, hTI, ⟨a, b, hTO⟩, ⟨o1, e1, r1⟩, ⟨o2, e2, r2⟩⟩ := st
    exact ⟨k z (by simp) _ hz, k TI (by simp) _ hTI, ⟨a, b, k TO (by simp) _ hTO⟩, ⟨o1, k i1 (by simp) o1 e1, r1⟩, ⟨o2, k i2 (by simp) o2 e2, r2⟩⟩
  item := by
    intro X hP hw hK hc i pins s σ H E I hf st hg
    subst hP hw hK
    obtain ⟨hz, hTI, ⟨x0, y0, hTO⟩, h1, h2⟩ := st
    obtain ⟨l1, l2⟩ := hg
    have hzl : z < s.heap.objs.size := Heap.lt_size hz
    have hTIl : TI < s.heap.objs.size := Heap.lt_size hTI
    have hTOl : TO < s.heap.objs.size := Heap.lt_size hTO
    have hi1l : i1 < s.heap.objs.size := by obtain ⟨_, e1, _⟩ := h1; exact Heap.lt_size e1
    have hi2l : i2 < s.heap.objs.size := by obtain ⟨_, e2, _⟩ := h2; exact Heap.lt_size e2
    refine wpAny_pyNext_zipD2_item S (Draws.text (A := X.A.in1) (I.ok.hd hc) i1 x t) (Draws.text (A := X.A.in1) (I.ok.hd hc) i2 y t') hz hTI hTO h1 h2 l1 l2 fun u u2 h' tk p1 p2 z' TO' h1' h2' hT hsz hk => ?_
    obtain ⟨c, tc, hcx, rfl⟩ := p1
    obtain ⟨d, td, hdy, rfl⟩ := p2
    refine ⟨_, rfl, wpAny_letOwnedTupleGo_zip (s := { s with heap := h', toks := tk }) z' fun h'' z'' sb => ?_⟩
    have hT2 : h''.get? s.heap.objs.size = some { cls := .type "tuple", data := .seq #[.str ⟨#[c]⟩ tc, .str ⟨#[d]⟩ td] } := (sb.2 _ (Nat.ne_of_gt hzl)).trans hT
    have new : ObjOk X.prog X.w (upd H s.heap.objs.size (.tup [.str ⟨#[c]⟩, .str ⟨#[d]⟩])) h'' s.heap.objs.size (.tup [.str ⟨#[c]⟩, .str ⟨#[d]⟩]) :=
      ⟨by show 2 ≤ sizeLine; decide, [.str ⟨#[c]⟩ tc, .str ⟨#[d]⟩ td], .cons ⟨_, rfl⟩ (.cons ⟨_, rfl⟩ .nil), ⟨_, hT2, rfl, _, rfl⟩⟩
    have I1 : Inv X pins σ (upd H s.heap.objs.size (.tup [.str ⟨#[c]⟩, .str ⟨#[d]⟩])) { s with heap := h'', toks := tk } :=
      I.turnedNew (t' := tk) (ch := [z, TI, TO, i1, i2]) (fun c o hb q => (sb.2 c (fun q' => hb (by simp [q']))).trans (hk c o (fun q' => hb (by simp [q'])) (fun q' => hb (by simp [q'])) (fun q' => hb (by simp [q'])) (fun q' => hb (by simp [q'])) q)) hf (Nat.le_refl _) new
    obtain ⟨o1, e1, r1⟩ := h1'
    obtain ⟨o2, e2, r2⟩ := h2'
    refine ⟨.ref s.heap.objs.size, _, I1, rfl, ⟨_, c, d, rfl, I.hok.fresh (Nat.le_refl _), rfl, hcx, hdy⟩, ⟨z'', ?_, ⟨.str ⟨#[c]⟩ tc, .str ⟨#[d]⟩ td, ?_⟩, ⟨o1, ?_, r1⟩, ⟨o2, ?_, r2⟩⟩, fun c hcm => ?_⟩
    · exact (sb.2 _ S.TIz).trans (hk _ _ S.TIz S.TITO S.TIi1 S.TIi2 hTI)
    · exact (sb.2 _ S.TOz).trans TO'
    · exact (sb.2 _ (Ne.symm S.zi1)).trans e1
    · exact (sb.2 _ (Ne.symm S.zi2)).trans e2
    · have hlt : c < s.heap.objs.size := by
        have e' : c = z ∨ c = TI ∨ c = TO ∨ c = i1 ∨ c = i2 := by simpa using hcm
        rcases e' with q | q | q | q | q
        · rw [q]; exact hzl
        · rw [q]; exact hTIl
        · rw [q]; exact hTOl
        · rw [q]; exact hi1l
        · rw [q]; exact hi2l
      rw [upd_ne (Nat.ne_of_lt hlt)]
      exact (hf c hcm).1
  done := by
    intro X hP hw hK hc i pins s σ H E I hf st hg
    subst hP hw hK
    obtain ⟨hz, hTI, ⟨x0, y0, hTO⟩, h1, h2⟩ := st
    obtain ⟨l1, l2, he⟩ := hg
    exact wpAny_pyNext_zipD2_end S (Draws.text (A := X.A.in1) (I.ok.hd hc) i1 x t) (Draws.text (A := X.A.in1) (I.ok.hd hc) i2 y t') hz hTI hTO h1 h2 l1 l2 he fun h' tk hk => ⟨rfl, I.turnedL (t' := tk) (ch := [z, TI, TO, i1, i2]) (fun c o hb q =>
      hk c o (fun q' => hb (by simp [q'])) (fun q' => hb (by simp [q'])) (fun q' => hb (by simp [q'])) (fun q' => hb (by simp [q'])) q) hf⟩
  self := fun A i s Q E st h => wpAny_pyIter_zip st.1 h
def iZipS (ta : TA) : TI := fun σ H R => ta σ H fun vs H1 => ∃ x y, vs = [.str x, .str y] ∧ R (ItzS x y) H1
theorem pi_zipS {X : Cx} {e e2 : Expr} {ta : TA} {p pos tpos : Pos} {elts : List Expr} {kk : Nat} (hg : Gl X "zip") (hm : X.mg "zip" = none) (ha : PA X [e, e2] ta)
    (hs : starEach [e, e2] X.env = (false, eval e X.env) :: starEach [e2] X.env := by rfl) (hpl : (backTo pos (starEach [e2] X.env)).any (·.1) = false := by rfl) :
    PI X (.Tuple elts kk tpos) (.Call (.Name "zip" p) [e, e2] [] pos) (iZipS ta) := by
  refine ⟨fun pins s σ H R I h => ?_⟩
  refine Call_ (ld_blt I hg hm PyProof.Rows.boot_zip (PyProof.Rows.callWith_type1 (thn (ha.run pos pins s σ H _ I h) fun us s1 ⟨vs, H1, I1, r1, q1⟩ => ?_) hs hpl))
  obtain ⟨x, y, ex, q⟩ := q1
  subst ex
  cases r1 with
  | cons r rr =>
    cases rr with
    | cons r' rr =>
      cases rr
      obtain ⟨t, rfl⟩ := r
      obtain ⟨t', rfl⟩ := r'
      have fresh5 : ∀ c, c ∈ [s1.heap.objs.size + 4, s1.heap.objs.size + 2, s1.heap.objs.size + 3, s1.heap.objs.size, s1.heap.objs.size + 1] → FpOk X pins H1 c := fun c hcm => by
        have e' : c = s1.heap.objs.size + 4 ∨ c = s1.heap.objs.size + 2 ∨ c = s1.heap.objs.size + 3 ∨ c = s1.heap.objs.size ∨ c = s1.heap.objs.size + 1 := by simpa using hcm
        have hle : s1.heap.objs.size ≤ c := by
          rcases e' with z | z | z | z | z
          · rw [z]; exact Nat.le_add_right _ _
          · rw [z]; exact Nat.le_add_right _ _
          · rw [z]; exact Nat.le_add_right _ _
          · rw [z]; exact Nat.le_refl _
          · rw [z]; exact Nat.le_add_right _ _
        exact I1.fpOk hle (I1.hok.fresh hle)
      refine zip_begins2 (begins_text x t) (begins_text y t') trivial trivial fun h' hz hTI hTO h1 h2 hsz hk => wpAny_pyIter_zip hz ?_
      have I2 : Inv X pins σ H1 { s1 with heap := h' } := I1.kept (t' := s1.toks) hk
      exact ⟨s1.heap.objs.size + 4, [s1.heap.objs.size + 4, s1.heap.objs.size + 2, s1.heap.objs.size + 3, s1.heap.objs.size, s1.heap.objs.size + 1], _, _, H1, rfl, I2,
        turn_zipS (t := t) (t' := t') (zip_sep2 (fp1 := []) (fp2 := []) (fun _ hb => by cases hb) (fun _ hb => by cases hb)), ⟨hz, hTI, ⟨_, _, hTO⟩, ⟨_, h1, rfl, rfl⟩, ⟨_, h2, rfl, rfl⟩⟩, fresh5, q⟩
variable [τ : Tabs]
section
variable {K : Frag} {H1 : Hp} {M1 : Msk} {Ls : List (Addr × List V)}
/-- the letters of a text, each a text -/
def sgn (x : Str) : List D := (cs x).map fun c => .str (mkS [c])
theorem sgn_len (x : Str) : (sgn x).length = x.cps.size := by
  unfold sgn
  rw [List.length_map]
  rfl
theorem sgn_get {x : Str} {i c : Nat} (h : x.cps[i]? = some c) : (sgn x)[i]? = some (.str (mkS [c])) := by
  unfold sgn
  rw [List.getElem?_map]
  have : (cs x)[i]? = some c := by
    show x.cps.toList[i]? = some c
    rw [Array.getElem?_toList]; exact h
  rw [this]; rfl
theorem wkZipS (x y : Str) : Wk K H1 M1 Ls (ItzS x y) (pairL (sgn x) (sgn y)) where
  goes := fun i H M hi st => by
    rw [pairL_len, sgn_len, sgn_len] at hi
    exact ⟨by omega, by omega⟩
  stops := fun H M st => by
    rw [pairL_len, sgn_len, sgn_len]
    exact ⟨by omega, by omega, by omega⟩
  yields := fun i H M v H' hi st ⟨T, c, d, e1, e2, e3, e4, e5⟩ => by
    subst e1 e3
    exact ⟨Ext.upd e2, .tuple [.str (mkS [c]), .str (mkS [d])], pairL_get _ _ _ _ _ (sgn_get e4) (sgn_get e5), newTup st.dom e2 (.cons (.str _ (show (1 : Nat) ≤ 16777216 by decide)) (.cons (.str _ (show (1 : Nat) ≤ 16777216 by decide)) .nil))⟩
theorem wkZipT {a b : Addr} {vs ws : List V} {xs ys : List D} (s1 : SqT K (frz H1 M1) a vs) (s2 : SqT K (frz H1 M1) b ws) (hd : DqAll K (frz H1 M1) vs xs) (hd2 : DqAll K (frz H1 M1) ws ys) : Wk K H1 M1 Ls (RZ.ItzT K a b) (pairL xs ys) where
  goes := fun i H M hi st => by
    rw [pairL_len] at hi
    exact ⟨vs, ws, vs[i]'(by rw [DqAll.len hd]; omega), ws[i]'(by rw [DqAll.len hd2]; omega), Ext.unfrz.sqT (st.ext.sqT s1), Ext.unfrz.sqT (st.ext.sqT s2), by simp, by simp⟩
  stops := fun H M st => ⟨vs, ws, Ext.unfrz.sqT (st.ext.sqT s1), Ext.unfrz.sqT (st.ext.sqT s2), by rw [DqAll.len hd, DqAll.len hd2, pairL_len]; omega⟩
  yields := fun i H M v H' hi st ⟨T, y, z, e1, e2, e3, e4, e5⟩ => by
    subst e1 e3
    obtain ⟨d, h1, h2⟩ := DqAll.get' hd (e4 vs (Ext.unfrz.sqT (st.ext.sqT s1)))
    obtain ⟨d2, h3, h4⟩ := DqAll.get' hd2 (e5 ws (Ext.unfrz.sqT (st.ext.sqT s2)))
    refine ⟨Ext.upd e2, .tuple [d, d2], pairL_get _ _ _ _ _ h1 h3, ?_⟩
    exact newTup st.dom e2 (.cons (dpMono st.ext _ _ h2) (.cons (dpMono st.ext _ _ h4) .nil))
end
end WM

/-! ## part G: every expression of the text gives what the small language says -/
namespace WM
open PySem PySem.Spec PyProof.Rows L2
variable [τ : Tabs]

theorem asB_some {r : Option R} {b : Bool} (h : asB r = some b) : r = some (.d (.bool b)) := by
  unfold asB at h
  split at h
  · cases h; rfl
  · cases h
section
variable {K : Frag} {G : Gt} {Φ : Phi} {X : Cx} {L : Lk} {n j : Nat} {sc : Scope}
/-- two values, an operation -/
theorem tOp_of {a b : E} {g : R → R → Option R} {H0 : Hp} {O : Msk} {A : Nat → Option Addr} {ρ : List Sl} {σ : L2.St} {H : Hp} {r : R} {Q : VK} (rel : Rel K H0 O A σ H ρ)
    (h : ((ev G Φ a false ρ).bind fun x => (ev G Φ b false ρ).bind fun y => g x y) = some r) (q : ∀ v H', Ext H H' → Rv K (Ow O A) H H' v r → Q v H') :
    tOp (rB K g) (tE K G Φ a) (tE K G Φ b) σ H Q := by
  obtain ⟨x, hx, h⟩ := Option.bind_eq_some_iff.mp h
  obtain ⟨y, hy, h⟩ := Option.bind_eq_some_iff.mp h
  refine tE.go rel hx fun v H1 e1 l1 r1 v1 => tE.go r1 hy fun u H2 e2 l2 r2 v2 => ?_
  exact ⟨Ow O A, x, y, r, v1.uv.mono e2, v2.uv, r2.domO, h, fun w H' e3 rv => q w H' ((e1.trans e2).trans e3) (rv.back (e1.trans e2))⟩
theorem seBin {a b : E} {x y : Expr} {op : Operator} {pos : Pos} (hK : X.K = K) (ha : SE K G Φ X x a) (hb : SE K G Φ X y b) (ho : OpR X (binaryOp op) (rB X.K (binR op))) : SE K G Φ X (.BinOp x op y pos) (.bin op a b) := by
  subst hK
  refine .of rfl (peImp (pe_op ho ha.v hb.v) fun σ H Q hl ⟨H0, O, A, ρ, r, rel, h, q⟩ => ?_) rfl fun ρ => by simp only [ev, fin]
  simp only [ev, fin] at h
  exact tOp_of rel h fun v H' e rv l => q v H' e l rv
theorem seCmp {a b : E} {x y : Expr} {op : CmpOp} {pos : Pos} (hK : X.K = K) (ha : SE K G Φ X x a) (hb : SE K G Φ X y b) (ho : OpR X (compareOp op) (rB X.K fun a b => (cmpD op a.toD b.toD).map fun k => .d (.bool k))) (hm : behindInMarks op y = false) :
    SE K G Φ X (.Compare x [op] [y] pos) (.cmp op a b) := by
  subst hK
  refine ⟨peImp (pe_cmpR ho ha.v hb.v hm) fun σ H Q hl ⟨H0, O, A, ρ, r, rel, h, q⟩ => ?_, ptImp (pt_cmpR ho ha.v hb.v hm) fun σ H Q hl ⟨H0, O, A, ρ, b', rel, h, q⟩ => ?_⟩
  · simp only [ev] at h
    exact tOp_of rel h fun v H' e rv l => q v H' e l rv
  · have h := asB_some h
    simp only [ev] at h
    exact tOp_of rel h fun v H' e rv => ⟨b', rv.cv.bool, fun l => q H' e l⟩
/-- three values, two comparisons -/
theorem tChn_of {a b c : E} {op op' : CmpOp} {H0 : Hp} {O : Msk} {A : Nat → Option Addr} {ρ : List Sl} {σ : L2.St} {H : Hp} {k : Bool} {Q : VK} (rel : Rel K H0 O A σ H ρ)
    (h : ev G Φ (.chn op op' a b c) false ρ = some (.d (.bool k))) (q : ∀ H', Ext H H' → Q (.bl k) H') :
    tChain (rB K fun a b => (cmpD op a.toD b.toD).map fun k => .d (.bool k)) (rB K fun a b => (cmpD op' a.toD b.toD).map fun k => .d (.bool k)) (tE K G Φ a) (tE K G Φ b) (tE K G Φ c) σ H Q := by
  simp only [ev] at h
  obtain ⟨x, hx, h⟩ := Option.bind_eq_some_iff.mp h
  obtain ⟨y, hy, h⟩ := Option.bind_eq_some_iff.mp h
  obtain ⟨k1, hk1, h⟩ := Option.bind_eq_some_iff.mp h
  refine tE.go rel hx fun v H1 e1 l1 r1 v1 => tE.go r1 hy fun u H2 e2 l2 r2 v2 => ?_
  refine ⟨Ow O A, x, y, .d (.bool k1), v1.uv.mono e2, v2.uv, r2.domO, by show Option.map _ (cmpD op x.toD y.toD) = _; rw [hk1]; rfl, fun w H3 e3 rv => ⟨k1, rv.cv.bool, ?_⟩⟩
  cases k1 with
  | false =>
    cases h
    rw [if_neg Bool.false_ne_true]
    exact q H3 ((e1.trans e2).trans e3)
  | true =>
    obtain ⟨z, hz, h⟩ := Option.bind_eq_some_iff.mp h
    rw [if_pos rfl]
    refine tE.go (r2.mono e3) hz fun w2 H4 e4 l4 r4 v4 => ?_
    exact ⟨Ow O A, y, z, .d (.bool k), (v2.uv.mono e3).mono e4, v4.uv, r4.domO, h, fun w5 H5 e5 rv5 => by rw [rv5.cv.bool]; exact q H5 ((((e1.trans e2).trans e3).trans e4).trans e5)⟩
theorem chn_bool {a b c : E} {op op' : CmpOp} {m : Bool} {ρ : List Sl} {r : R} (h : ev G Φ (.chn op op' a b c) m ρ = some r) : ∃ k, r = .d (.bool k) := by
  simp only [ev] at h
  obtain ⟨x, hx, h⟩ := Option.bind_eq_some_iff.mp h
  obtain ⟨y, hy, h⟩ := Option.bind_eq_some_iff.mp h
  obtain ⟨k1, hk1, h⟩ := Option.bind_eq_some_iff.mp h
  cases k1 with
  | false => cases h; exact ⟨_, rfl⟩
  | true =>
    obtain ⟨z, hz, h⟩ := Option.bind_eq_some_iff.mp h
    obtain ⟨k, _, h⟩ := Option.map_eq_some_iff.mp h
    exact ⟨k, h.symm⟩
theorem seChn {a b c : E} {x y z : Expr} {op op' : CmpOp} {pos : Pos} (hK : X.K = K) (ha : SE K G Φ X x a) (hb : SE K G Φ X y b) (hc : SE K G Φ X z c) (ho : OpR X (compareOp op) (rB X.K fun a b => (cmpD op a.toD b.toD).map fun k => .d (.bool k)))
    (ho' : OpR X (compareOp op') (rB X.K fun a b => (cmpD op' a.toD b.toD).map fun k => .d (.bool k))) (hm : lastMarks [op, op'] [y, z] = false) :
    SE K G Φ X (.Compare x [op, op'] [y, z] pos) (.chn op op' a b c) := by
  subst hK
  refine ⟨peImp (pe_chain ho ho' ha.v hb.v hc.v hm) fun σ H Q hl ⟨H0, O, A, ρ, r, rel, h, q⟩ => ?_, ptImp (pt_chain ho ho' ha.v hb.v hc.v hm) fun σ H Q hl ⟨H0, O, A, ρ, b', rel, h, q⟩ => ?_⟩
  · obtain ⟨k, rfl⟩ := chn_bool h
    exact tChn_of rel h fun H' e l => q _ H' e l (Dq.bl k)
  · have h := asB_some h
    have h : ev G Φ (.chn op op' a b c) false ρ = some (.d (.bool b')) := by
      simp only [ev] at h ⊢
      exact h
    exact tChn_of rel h fun H' e => ⟨b', rfl, fun l => q H' e l⟩
theorem seNeg {a : E} {x : Expr} {pos : Pos} (hK : X.K = K) (ha : SE K G Φ X x a) : SE K G Φ X (.UnaryOp .USub x pos) (.neg a) := by
  subst hK
  refine .of rfl (peImp (pe_un un_neg ha.v) fun σ H Q hl ⟨H0, O, A, ρ, r, rel, h, q⟩ => ?_) rfl fun ρ => by simp only [ev, fin]
  simp only [ev, fin] at h
  obtain ⟨x, hx, h⟩ := Option.bind_eq_some_iff.mp h
  refine tE.go rel hx fun v H1 e1 l1 r1 v1 => ?_
  split at h
  · rename_i i hi
    cases h
    have c := v1.cv
    rw [hi] at c
    exact ⟨i, c.int, fun l => q _ H1 e1 l (Dq.int _)⟩
  · cases h
theorem seInv {a : E} {x : Expr} {pos : Pos} (hK : X.K = K) (ha : SE K G Φ X x a) : SE K G Φ X (.UnaryOp .Not x pos) (.inv a) := by
  subst hK
  refine ⟨peImp (pe_not ha.v) fun σ H Q hl ⟨H0, O, A, ρ, r, rel, h, q⟩ => ?_, ptImp (pt_not ha.t) fun σ H Q hl ⟨H0, O, A, ρ, b', rel, h, q⟩ => ?_⟩
  · simp only [ev] at h
    obtain ⟨b, hb, h⟩ := Option.map_eq_some_iff.mp h
    subst h
    exact tE.go rel (asB_some hb) fun v H1 e1 l1 r1 v1 => ⟨b, v1.cv.bool, fun l => q _ H1 e1 l (Dq.bl _)⟩
  · have h := asB_some h
    simp only [ev] at h
    obtain ⟨b, hb, h⟩ := Option.map_eq_some_iff.mp h
    cases h
    exact tT.go rel hb fun H1 e1 l1 r1 l => q H1 e1 l
theorem seIfe {a b c : E} {x y z : Expr} {pos : Pos} (hK : X.K = K) (hc : SE K G Φ X x c) (ha : SE K G Φ X y a) (hb : SE K G Φ X z b) (hp : PT X (.IfExp x y z pos) (fun _ _ _ => False)) : SE K G Φ X (.IfExp x y z pos) (.ife c a b) := by
  subst hK
  refine ⟨peImp (pe_ifExp hc.t ha.v hb.v) fun σ H Q hl ⟨H0, O, A, ρ, r, rel, h, q⟩ => ?_, ptImp hp fun σ H Q hl ⟨H0, O, A, ρ, b', rel, h, q⟩ => ?_⟩
  · simp only [ev] at h
    obtain ⟨k, hk, h⟩ := Option.bind_eq_some_iff.mp h
    refine tT.go rel hk fun H1 e1 l1 r1 => ?_
    cases k with
    | true =>
      rw [if_pos rfl]
      exact tE.go r1 h fun v H2 e2 l2 r2 v2 l => q v H2 (e1.trans e2) l (v2.back e1)
    | false =>
      rw [if_neg Bool.false_ne_true]
      exact tE.go r1 h fun v H2 e2 l2 r2 v2 l => q v H2 (e1.trans e2) l (v2.back e1)
  · have h := asB_some h
    simp only [ev] at h
    cases h
theorem ptNo {e : Expr} : PT X e (fun _ _ _ => False) := ⟨fun _ _ _ _ _ _ h => h.elim⟩
theorem seIx {a b : E} {x y : Expr} {pos : Pos} (hK : X.K = K) (ha : SE K G Φ X x a) (hb : SE K G Φ X y b) (hs : PlainIx y) {n : Nat} (hr : Room n X.A) : SE K G Φ X (.Subscript x y pos) (.ix a b) := by
  subst hK
  refine .of rfl (peImp (pe_ix (ixOk hr) ha.v hb.v hs) fun σ H Q hl ⟨H0, O, A, ρ, r, rel, h, q⟩ => ?_) rfl fun ρ => by simp only [ev, fin]
  simp only [ev, fin] at h
  exact tOp_of (g := fun a b => (ixD a.toD b.toD).map .d) rel h fun v H' e rv l => q v H' e l rv
theorem seSl {a : E} {lo hi : Oe} {x : Expr} {l h : Option Expr} {p pos : Pos} (hK : X.K = K) (ha : SE K G Φ X x a) (hl : PO X l (tO K G Φ lo)) (hh : PO X h (tO K G Φ hi)) : SE K G Φ X (.Subscript x (.Slice l h none p) pos) (.sl a lo hi) := by
  subst hK
  refine .of rfl (peImp (pe_slice slOk ha.v hl hh) fun σ H Q hlen ⟨H0, O, A, ρ, r, rel, h, q⟩ => ?_) rfl fun ρ => by simp only [ev, fin]
  simp only [ev, fin] at h
  obtain ⟨x, hx, h⟩ := Option.bind_eq_some_iff.mp h
  obtain ⟨i, hi', h⟩ := Option.bind_eq_some_iff.mp h
  obtain ⟨j, hj, h⟩ := Option.bind_eq_some_iff.mp h
  refine tE.go rel hx fun v H1 e1 l1 r1 v1 => tO.go r1 hi' fun H2 e2 l2 r2 => tO.go r2 hj fun H3 e3 l3 r3 => ?_
  exact ⟨Ow O A, x, r, (v1.uv.mono e2).mono e3, r3.domO, h, fun w H' e4 rv l4 => q w H' (((e1.trans e2).trans e3).trans e4) l4 (rv.back ((e1.trans e2).trans e3))⟩
theorem poNo (hK : X.K = K) : PO X none (tO K G Φ .no) := by
  subst hK
  refine ⟨fun pins s σ H Q I ⟨H0, O, A, ρ, x, rel, h, q⟩ => ?_⟩
  simp only [evo] at h
  cases h
  exact po_none.run pins s σ H Q I (q H (Ext.refl _) (hlen_of I))
theorem poSo {a : E} {x : Expr} (hK : X.K = K) (ha : SE K G Φ X x a) : PO X (some x) (tO K G Φ (.so a)) := by
  subst hK
  refine poImp (po_some ha.v) fun σ H Q hl ⟨H0, O, A, ρ, r, rel, h, q⟩ => ?_
  simp only [evo] at h
  obtain ⟨x, hx, h⟩ := Option.bind_eq_some_iff.mp h
  refine tE.go rel hx fun v H1 e1 l1 r1 v1 => ?_
  split at h
  · rename_i i hi
    cases h
    have c := v1.cv
    rw [hi] at c
    exact ⟨i, c.int, fun l => q H1 e1 l⟩
  · cases h
theorem seB1 {a : E} {y : Expr} {x : Str} {f : B1} {p pos : Pos} (hK : X.K = K) (h : PE X (.Call (.Name x p) [y] [] pos) (tCB (rL1 X.K fun a => b1D f a.toD) (tCons (tE K G Φ a) tNil))) : SE K G Φ X (.Call (.Name x p) [y] [] pos) (.b1 f a) := by
  subst hK
  refine .of rfl (peImp h fun σ H Q hl ⟨H0, O, A, ρ, r, rel, h, q⟩ => ?_) rfl fun ρ => by simp only [ev, fin]
  simp only [ev, fin] at h
  obtain ⟨x, hx, h⟩ := Option.bind_eq_some_iff.mp h
  refine tE.go rel hx fun v H1 e1 l1 r1 v1 => ?_
  exact ⟨v, rfl, Ow O A, x, r, v1.uv, r1.domO, h, fun w H' e2 rv l2 => q w H' (e1.trans e2) l2 (rv.back e1)⟩
theorem seB2 {a b : E} {y z : Expr} {x : Str} {f : B2} {p pos : Pos} (hK : X.K = K) (h : PE X (.Call (.Name x p) [y, z] [] pos) (tCB (rL2 X.K fun a b => b2D f a.toD b.toD) (tCons (tE K G Φ a) (tCons (tE K G Φ b) tNil)))) : SE K G Φ X (.Call (.Name x p) [y, z] [] pos) (.b2 f a b) := by
  subst hK
  refine .of rfl (peImp h fun σ H Q hl ⟨H0, O, A, ρ, r, rel, h, q⟩ => ?_) rfl fun ρ => by simp only [ev, fin]
  simp only [ev, fin] at h
  obtain ⟨x, hx, h⟩ := Option.bind_eq_some_iff.mp h
  obtain ⟨y, hy, h⟩ := Option.bind_eq_some_iff.mp h
  refine tE.go rel hx fun v H1 e1 l1 r1 v1 => tE.go r1 hy fun u H2 e2 l2 r2 v2 => ?_
  exact ⟨v, u, rfl, Ow O A, x, y, r, v1.uv.mono e2, v2.uv, r2.domO, h, fun w H' e3 rv l3 => q w H' ((e1.trans e2).trans e3) l3 (rv.back (e1.trans e2))⟩
theorem seRev {a : E} {x : Expr} {k : Nat} {p1 p2 p3 pos : Pos} (hK : X.K = K) (ha : SE K G Φ X x a) : SE K G Φ X (.Subscript x (.Slice none none (some (.UnaryOp .USub (.Constant (.int 1) k p1) p2)) p3) pos) (.rev a) := by
  subst hK
  refine .of rfl (peImp (peRev ha.v) fun σ H Q hlen ⟨H0, O, A, ρ, r, rel, h, q⟩ => ?_) rfl fun ρ => by simp only [ev, fin]
  simp only [ev, fin] at h
  obtain ⟨x, hx, h⟩ := Option.bind_eq_some_iff.mp h
  refine tE.go rel hx fun v H1 e1 l1 r1 v1 => ?_
  exact ⟨Ow O A, x, r, v1.uv, r1.domO, h, fun w H' e2 rv l2 => q w H' (e1.trans e2) l2 (rv.back e1)⟩
theorem abase {o : Expr} {name : Str} {env : Env} {m : Sem Value} (h : notCall0 o = true) : attributeBase o name env m = m := by
  cases o with
  | Call f as ks pos =>
    cases as with
    | nil => cases h
    | cons a r => cases f <;> rfl
  | _ => rfl
theorem seM1 {n : Nat} {f : M1} {o a : E} {y x : Expr} {ap cp : Pos} (hK : X.K = K) (hr : Room n X.A) (ho : SE K G Φ X y o) (ha : SE K G Φ X x a) (hp : plainE x = true) (hb : notCall0 y = true) (hl : (ap.endLine == cp.line) = true) : SE K G Φ X (.Call (.Attribute y (Str.ofString (m1Nm f)) ap) [x] [] cp) (.m1 f o a) := by
  subst hK
  obtain ⟨id, k1, k2, k3, k4⟩ := m1Ok hr f
  have few : ((backTo cp (starEach [x] X.env)).all (fun x => !x.1) && (backToKw cp (keywordEach [] X.env)).all (fun x => x.1.isSome) && decide (([x] : List Expr).length + ([] : List Keyword).length + (if ([] : List Keyword).isEmpty then 0 else 1) < 30)) = true := by
    rw [plainStar hp]; rfl
  refine .of rfl (peImp (pe_bm k1 k2 k3 k4 ho.v (pa_cons ha.v pa_nil (plainStar hp)) (abase hb) few hl (plainStar hp) rfl) fun σ H Q hlen ⟨H0, O, A, ρ, r, rel, h, q⟩ => ?_) rfl fun ρ => by simp only [ev, fin]
  simp only [ev, fin] at h
  obtain ⟨b, hb, h⟩ := Option.bind_eq_some_iff.mp h
  obtain ⟨d, hd, h⟩ := Option.bind_eq_some_iff.mp h
  refine tE.go rel hb fun v H1 e1 l1 r1 v1 => ?_
  refine ⟨?_, tE.go r1 hd fun u H2 e2 l2 r2 v2 => ?_⟩
  · have c := v1.cv
    rcases m1Ty h with ⟨t, xs, e⟩ | ⟨t, z, e⟩
    · rw [e] at c
      obtain ⟨p, vs, rfl, s1, _⟩ := c.lst
      exact .inl ⟨t, vs, .inl s1⟩
    · rw [e] at c
      rw [c.str]
      exact t
  · exact ⟨u, rfl, Ow O A, b, d, r, v1.uv.mono e2, v2.uv, r2.domO, h, fun w H' e3 rv l3 => q w H' ((e1.trans e2).trans e3) l3 (rv.back (e1.trans e2))⟩
/-! ### dicts -/
theorem seDnew {pos : Pos} (hK : X.K = K) : SE K G Φ X (.Dict [] [] pos) .dnew := by
  subst hK
  refine .of rfl (peImp pe_dnewK fun σ H Q hlen ⟨H0, O, A, ρ, r, rel, h, q⟩ => ?_) rfl fun ρ => by simp only [ev, fin]
  simp only [ev, fin] at h
  cases h
  exact fun p hp l => q (.ref p) _ (Ext.upd hp) l ⟨p, _, rfl, hp, upd_same, [], rfl, .nil⟩
theorem seDg1 {n : Nat} {o a : E} {y x : Expr} {ap cp : Pos} (hK : X.K = K) (hr : Room n X.A) (ho : SE K G Φ X y o) (ha : SE K G Φ X x a) (hp : plainE x = true) (hb : notCall0 y = true) (hl : (ap.endLine == cp.line) = true) : SE K G Φ X (.Call (.Attribute y (Str.ofString "get") ap) [x] [] cp) (.dg1 o a) := by
  subst hK
  have few : ((backTo cp (starEach [x] X.env)).all (fun x => !x.1) && (backToKw cp (keywordEach [] X.env)).all (fun x => x.1.isSome) && decide (([x] : List Expr).length + ([] : List Keyword).length + (if ([] : List Keyword).isEmpty then 0 else 1) < 30)) = true := by
    rw [plainStar hp]; rfl
  refine .of rfl (peImp (pe_dget1 (by have := hr.units; omega) ho.v ha.v ⟨abase hb, few, hl, by rw [plainStar hp]; rfl⟩) fun σ H Q hlen ⟨H0, O, A, ρ, r, rel, h, q⟩ => ?_) rfl fun ρ => by simp only [ev, fin]
  simp only [ev, fin] at h
  obtain ⟨b, hb, h⟩ := Option.bind_eq_some_iff.mp h
  obtain ⟨d, hd, h⟩ := Option.bind_eq_some_iff.mp h
  split at h
  · rename_i kvs hk
    split at h
    · rename_i hkey
      cases h
      refine tE.go rel hb fun v H1 e1 l1 r1 v1 => ?_
      have c := v1.cv
      rw [hk] at c
      obtain ⟨p, o, rfl, hrd, ks, rfl, hda⟩ := c.dct
      refine ⟨p, rfl, .inl ⟨ks, hrd⟩, tE.go r1 hd fun u H2 e2 l2 r2 v2 => ?_⟩
      obtain ⟨p', ks', k, ep, rfl, hr', hd', hx, g⟩ := dgetOf (c.mono e2) v2.cv hkey
      cases ep
      exact ⟨_, g, fun l => q _ H2 (e1.trans e2) l (dk_getD hd' hx .non)⟩
    · cases h
  · cases h
theorem seDg2 {n : Nat} {o a d : E} {y x z : Expr} {ap cp : Pos} (hK : X.K = K) (hr : Room n X.A) (ho : SE K G Φ X y o) (ha : SE K G Φ X x a) (hd : SE K G Φ X z d) (hp : plainE x = true) (hp2 : plainE z = true) (hb : notCall0 y = true) (hl : (ap.endLine == cp.line) = true) : SE K G Φ X (.Call (.Attribute y (Str.ofString "get") ap) [x, z] [] cp) (.dg2 o a d) := by
  subst hK
  have few : ((backTo cp (starEach [x, z] X.env)).all (fun x => !x.1) && (backToKw cp (keywordEach [] X.env)).all (fun x => x.1.isSome) && decide (([x, z] : List Expr).length + ([] : List Keyword).length + (if ([] : List Keyword).isEmpty then 0 else 1) < 30)) = true := by
    rw [plainStar hp, plainStar hp2]; rfl
  refine .of rfl (peImp (pe_dget2 (by have := hr.units; omega) ho.v ha.v hd.v ⟨abase hb, few, hl, by rw [plainStar hp, plainStar hp2]; rfl⟩) fun σ H Q hlen ⟨H0, O, A, ρ, r, rel, h, q⟩ => ?_) rfl fun ρ => by simp only [ev, fin]
  simp only [ev, fin] at h
  obtain ⟨b, hb, h⟩ := Option.bind_eq_some_iff.mp h
  obtain ⟨d, hd, h⟩ := Option.bind_eq_some_iff.mp h
  obtain ⟨w, hw, h⟩ := Option.bind_eq_some_iff.mp h
  split at h
  · rename_i kvs hk
    split at h
    · rename_i ww
      split at h
      · rename_i hkey
        cases h
        refine tE.go rel hb fun v H1 e1 l1 r1 v1 => ?_
        have c := v1.cv
        rw [hk] at c
        obtain ⟨p, o, rfl, hrd, ks, rfl, hda⟩ := c.dct
        refine ⟨p, rfl, .inl ⟨ks, hrd⟩, tE.go r1 hd fun u H2 e2 l2 r2 v2 => tE.go r2 hw fun u3 H3 e3 l3 r3 v3 => ?_⟩
        obtain ⟨p', ks', k, ep, rfl, hr', hd', hx, g⟩ := dgetOf (c.mono (e2.trans e3)) (v2.cv.mono e3) hkey
        cases ep
        exact ⟨_, g, fun l => q _ H3 ((e1.trans e2).trans e3) l (dk_getD hd' hx v3)⟩
      · cases h
    · cases h
  · cases h
/-! ### argument lists -/
theorem paNil (hK : X.K = K) : PA X [] (tA K G Φ .nil) := by
  subst hK
  refine ⟨fun pos pins s σ H Q I ⟨H0, O, A, ρ, rs, rel, h, q⟩ => ?_⟩
  simp only [evs] at h
  cases h
  exact pa_nil.run pos pins s σ H Q I (q [] H (Ext.refl _) (hlen_of I) trivial fun xs hx => by
    simp only [shareAll] at hx
    cases hx
    exact .nil)
theorem paCons {a : E} {es : Es} {x : Expr} {xs : List Expr} (hK : X.K = K) (ha : SE K G Φ X x a) (hp : plainE x = true) (hs : PA X xs (tA K G Φ es)) : PA X (x :: xs) (tA K G Φ (.cons a es)) := by
  subst hK
  refine paImp (pa_cons ha.v hs (plainStar hp)) fun σ H Q hl ⟨H0, O, A, ρ, rs, rel, h, q⟩ => ?_
  simp only [evs] at h
  obtain ⟨r, hr, h⟩ := Option.bind_eq_some_iff.mp h
  obtain ⟨rs', hrs, rfl⟩ := Option.map_eq_some_iff.mp h
  refine tE.go rel hr fun v H1 e1 l1 r1 v1 => tA.go r1 hrs fun vs H2 e2 l2 r2 v2 sh l => ?_
  refine q (v :: vs) H2 (e1.trans e2) l ⟨v1.uv.mono e2, v2⟩ fun ys hy => ?_
  simp only [shareAll] at hy
  obtain ⟨y, hy1, hy⟩ := Option.bind_eq_some_iff.mp hy
  obtain ⟨ys', hys, rfl⟩ := Option.map_eq_some_iff.mp hy
  exact .cons (dpMono e2.frz _ _ (v1.share rel.domO hy1)) (sh _ hys)
theorem seTup {es : Es} {xs : List Expr} {k : Nat} {pos : Pos} (hK : X.K = K) (ha : PA X xs (tA K G Φ es)) (hl : es.len ≤ 1000) : SE K G Φ X (.Tuple xs k pos) (.tup es) := by
  subst hK
  refine .of rfl (peImp (pe_tup ha) fun σ H Q hlen ⟨H0, O, A, ρ, r, rel, h, q⟩ => ?_) rfl fun ρ => by simp only [ev, fin]
  simp only [ev, fin] at h
  obtain ⟨rs, hrs, h⟩ := Option.bind_eq_some_iff.mp h
  obtain ⟨ys, hys, rfl⟩ := Option.map_eq_some_iff.mp h
  refine tA.go rel hrs fun vs H1 e1 l1 r1 v1 sh => ⟨?_, ?_⟩
  · rw [v1.len, evs_len es hrs, sizeLine_eq]; omega
  · refine giveTup r1.domO (fun v H' e2 rv l2 => q v H' (e1.trans e2) l2 (rv.back e1)) (sh _ hys)
theorem seLst {es : Es} {xs : List Expr} {pos : Pos} (hK : X.K = K) (ha : PA X xs (tA K G Φ es)) (hl : es.len ≤ 1000) : SE K G Φ X (.List xs pos) (.lst es) := by
  subst hK
  refine .of rfl (peImp (pe_lst ha) fun σ H Q hlen ⟨H0, O, A, ρ, r, rel, h, q⟩ => ?_) rfl fun ρ => by simp only [ev, fin]
  simp only [ev, fin] at h
  obtain ⟨rs, hrs, h⟩ := Option.bind_eq_some_iff.mp h
  obtain ⟨ys, hys, rfl⟩ := Option.map_eq_some_iff.mp h
  refine tA.go rel hrs fun vs H1 e1 l1 r1 v1 sh => ⟨?_, ?_⟩
  · rw [v1.len, evs_len es hrs, sizeLine_eq]; omega
  · refine giveLst (fun v H' e2 rv l2 => q v H' (e1.trans e2) l2 (rv.back e1)) (sh _ hys)
theorem seCall {es : Es} {xs : List Expr} {f : Nat} {x : Str} {p pos : Pos} (hK : X.K = K) (h : PE X (.Call (.Name x p) xs [] pos) (tCall (spF K (Φ f)) [] E0 (tA K G Φ es))) : SE K G Φ X (.Call (.Name x p) xs [] pos) (.call f es) := by
  subst hK
  refine .of rfl (peImp h fun σ H Q hlen ⟨H0, O, A, ρ, r, rel, h, q⟩ => ?_) rfl fun ρ => by simp only [ev, fin]
  simp only [ev, fin] at h
  obtain ⟨rs, hrs, h⟩ := Option.bind_eq_some_iff.mp h
  obtain ⟨r', hr', h⟩ := Option.bind_eq_some_iff.mp h
  have nb : notB r' ∧ r' = r := by
    cases r' <;> first | (cases h; exact ⟨trivial, rfl⟩) | cases h
  obtain ⟨nb, rfl⟩ := nb
  refine tA.go rel hrs fun vs H1 e1 l1 r1 v1 sh => ?_
  refine ⟨Ow O A, rs.map R.toD, r', ?_, r1.tabs, r1.lsts, hr', nb, fun v H' e2 rv l2 => q v H' (e1.trans e2) l2 (rv.back e1)⟩
  rw [List.append_nil]
  exact v1.cv
/-! ### and, or -/
def tAndB (K : Frag) (G : Gt) (Φ : Phi) (es : Es) : TE := fun σ H Q => ∃ H0 O A ρ r, Rel K H0 O A σ H ρ ∧ andV G Φ es false ρ = some r ∧ ∀ v H', Ext H H' → HLen K H' → Rv K (Ow O A) H H' v r → Q v H'
def tAndT (K : Frag) (G : Gt) (Φ : Phi) (es : Es) : TT := fun σ H Q => ∃ H0 O A ρ b, Rel K H0 O A σ H ρ ∧ asB (andV G Φ es true ρ) = some b ∧ ∀ H', Ext H H' → HLen K H' → Q b H'
def tOrB (K : Frag) (G : Gt) (Φ : Phi) (es : Es) : TE := fun σ H Q => ∃ H0 O A ρ r, Rel K H0 O A σ H ρ ∧ orV G Φ es false ρ = some r ∧ ∀ v H', Ext H H' → HLen K H' → Rv K (Ow O A) H H' v r → Q v H'
def tOrT (K : Frag) (G : Gt) (Φ : Phi) (es : Es) : TT := fun σ H Q => ∃ H0 O A ρ b, Rel K H0 O A σ H ρ ∧ asB (orV G Φ es true ρ) = some b ∧ ∀ H', Ext H H' → HLen K H' → Q b H'
theorem and1 {a : E} {x : Expr} {pos : Pos} (hK : X.K = K) (ha : SE K G Φ X x a) : PE X (.BoolOp .And [x] pos) (tAndB K G Φ (.cons a .nil)) ∧ PW X (.BoolOp .And [x] pos) (tAndT K G Φ (.cons a .nil)) := by
  subst hK
  refine ⟨peImp (pe_one ha.v) fun σ H Q hl ⟨H0, O, A, ρ, r, rel, h, q⟩ => ?_, pwImp (pw_and1 ha.t) fun σ H Q hl ⟨H0, O, A, ρ, r, rel, h, q⟩ => ?_⟩
  · simp only [andV] at h
    exact tE.go rel h fun v H1 e1 l1 r1 v1 l => q v H1 e1 l v1
  · simp only [andV] at h
    exact tT.go rel h fun H1 e1 l1 r1 l => q H1 e1 l
theorem or1 {a : E} {x : Expr} {pos : Pos} (hK : X.K = K) (ha : SE K G Φ X x a) : PE X (.BoolOp .Or [x] pos) (tOrB K G Φ (.cons a .nil)) ∧ PW X (.BoolOp .Or [x] pos) (tOrT K G Φ (.cons a .nil)) := by
  subst hK
  refine ⟨peImp (pe_one ha.v) fun σ H Q hl ⟨H0, O, A, ρ, r, rel, h, q⟩ => ?_, pwImp (pw_or1 ha.t) fun σ H Q hl ⟨H0, O, A, ρ, r, rel, h, q⟩ => ?_⟩
  · simp only [orV] at h
    exact tE.go rel h fun v H1 e1 l1 r1 v1 l => q v H1 e1 l v1
  · simp only [orV] at h
    exact tT.go rel h fun H1 e1 l1 r1 l => q H1 e1 l
theorem andC {a b : E} {es : Es} {x y : Expr} {xs : List Expr} {pos : Pos} (hK : X.K = K) (ha : SE K G Φ X x a) (hb : PE X (.BoolOp .And (y :: xs) pos) (tAndB K G Φ (.cons b es)) ∧ PW X (.BoolOp .And (y :: xs) pos) (tAndT K G Φ (.cons b es))) :
    PE X (.BoolOp .And (x :: y :: xs) pos) (tAndB K G Φ (.cons a (.cons b es))) ∧ PW X (.BoolOp .And (x :: y :: xs) pos) (tAndT K G Φ (.cons a (.cons b es))) := by
  subst hK
  refine ⟨peImp (pe_and ha.v hb.1) fun σ H Q hl ⟨H0, O, A, ρ, r, rel, h, q⟩ => ?_, pwImp (pw_and ha.t hb.2) fun σ H Q hl ⟨H0, O, A, ρ, r, rel, h, q⟩ => ?_⟩
  · rw [andV] at h
    obtain ⟨k, hk, h⟩ := Option.bind_eq_some_iff.mp h
    refine tE.go rel (asB_some hk) fun v H1 e1 l1 r1 v1 => ⟨k, v1.cv.bool, ?_⟩
    cases k with
    | true =>
      rw [if_pos rfl]
      exact ⟨H0, O, A, ρ, r, r1, h, fun v H' e2 l2 rv l => q v H' (e1.trans e2) l (rv.back e1)⟩
    | false =>
      rw [if_neg Bool.false_ne_true]
      cases h
      exact fun l => q _ H1 e1 l (Dq.bl _)
  · rw [andV] at h
    cases hk : asB (ev G Φ a true ρ) with
    | none => rw [hk] at h; cases h
    | some k =>
      rw [hk] at h
      refine tT.go rel hk fun H1 e1 l1 r1 => ?_
      cases k with
      | true =>
        rw [if_pos rfl]
        exact ⟨H0, O, A, ρ, r, r1, h, fun H' e2 l2 l => q H' (e1.trans e2) l⟩
      | false =>
        rw [if_neg Bool.false_ne_true]
        cases h
        exact fun l => q H1 e1 l
theorem orC {a b : E} {es : Es} {x y : Expr} {xs : List Expr} {pos : Pos} (hK : X.K = K) (ha : SE K G Φ X x a) (hb : PE X (.BoolOp .Or (y :: xs) pos) (tOrB K G Φ (.cons b es)) ∧ PW X (.BoolOp .Or (y :: xs) pos) (tOrT K G Φ (.cons b es))) :
    PE X (.BoolOp .Or (x :: y :: xs) pos) (tOrB K G Φ (.cons a (.cons b es))) ∧ PW X (.BoolOp .Or (x :: y :: xs) pos) (tOrT K G Φ (.cons a (.cons b es))) := by
  subst hK
  refine ⟨peImp (pe_or ha.v hb.1) fun σ H Q hl ⟨H0, O, A, ρ, r, rel, h, q⟩ => ?_, pwImp (pw_or ha.t hb.2) fun σ H Q hl ⟨H0, O, A, ρ, r, rel, h, q⟩ => ?_⟩
  · rw [orV] at h
    obtain ⟨k, hk, h⟩ := Option.bind_eq_some_iff.mp h
    refine tE.go rel (asB_some hk) fun v H1 e1 l1 r1 v1 => ⟨k, v1.cv.bool, ?_⟩
    cases k with
    | false =>
      rw [if_neg Bool.false_ne_true]
      exact ⟨H0, O, A, ρ, r, r1, h, fun v H' e2 l2 rv l => q v H' (e1.trans e2) l (rv.back e1)⟩
    | true =>
      rw [if_pos rfl]
      cases h
      exact fun l => q _ H1 e1 l (Dq.bl _)
  · rw [orV] at h
    cases hk : asB (ev G Φ a true ρ) with
    | none => rw [hk] at h; cases h
    | some k =>
      rw [hk] at h
      refine tT.go rel hk fun H1 e1 l1 r1 => ?_
      cases k with
      | false =>
        rw [if_neg Bool.false_ne_true]
        exact ⟨H0, O, A, ρ, r, r1, h, fun H' e2 l2 l => q H' (e1.trans e2) l⟩
      | true =>
        rw [if_pos rfl]
        cases h
        exact fun l => q H1 e1 l
theorem seAnd {es : Es} {xs : List Expr} {pos : Pos} (h : PE X (.BoolOp .And xs pos) (tAndB K G Φ es) ∧ PW X (.BoolOp .And xs pos) (tAndT K G Φ es)) : SE K G Φ X (.BoolOp .And xs pos) (.and es) := by
  refine ⟨⟨fun pins s σ H Q I ⟨H0, O, A, ρ, r, rel, he, q⟩ => h.1.run pins s σ H Q I ⟨H0, O, A, ρ, r, rel, by simpa only [ev] using he, q⟩⟩, ⟨fun pins s σ H Q I ⟨H0, O, A, ρ, r, rel, he, q⟩ => h.2.pt.run pins s σ H Q I ⟨H0, O, A, ρ, r, rel, by simpa only [ev] using he, q⟩⟩⟩
theorem seOr {es : Es} {xs : List Expr} {pos : Pos} (h : PE X (.BoolOp .Or xs pos) (tOrB K G Φ es) ∧ PW X (.BoolOp .Or xs pos) (tOrT K G Φ es)) : SE K G Φ X (.BoolOp .Or xs pos) (.or es) := by
  refine ⟨⟨fun pins s σ H Q I ⟨H0, O, A, ρ, r, rel, he, q⟩ => h.1.run pins s σ H Q I ⟨H0, O, A, ρ, r, rel, by simpa only [ev] using he, q⟩⟩, ⟨fun pins s σ H Q I ⟨H0, O, A, ρ, r, rel, he, q⟩ => h.2.pt.run pins s σ H Q I ⟨H0, O, A, ρ, r, rel, by simpa only [ev] using he, q⟩⟩⟩
/-! ### isinstance -/
theorem tyX_of {K : Frag} {O : Msk} {H : Hp} {v : V} {d : D} (h : Cv K O H v d) : ∃ t, TyX K H v t ∧ (match d with | .none => t = .type "NoneType" | .bool _ => t = .type "bool" | .int _ => t = .type "int" | .str _ => t = .type "str" | .list _ => t = .type "list" | .tuple _ => t = .type "tuple" | .dict _ => t = .type "dict") := by
  cases d with
  | none =>
    have h : Dq K (frz H O) v .none := h
    cases h
    exact ⟨_, .base .non, rfl⟩
  | bool b => cases h.bool; exact ⟨_, .base (.bl b), rfl⟩
  | int i => cases h.int; exact ⟨_, .base (.int i), rfl⟩
  | str x => cases h.str; exact ⟨_, .base (.str x), rfl⟩
  | list xs =>
    obtain ⟨a, vs, rfl, s, _⟩ := h.lst
    rcases s with s | ⟨o, s⟩
    · exact ⟨_, .base (.lst s), rfl⟩
    · exact ⟨_, .base (.frz s), rfl⟩
  | tuple xs =>
    obtain ⟨a, vs, rfl, s, _⟩ := h.tup
    rcases s with (s | ⟨o, s⟩) | ⟨o, its, n, hk, hc, _⟩
    · exact ⟨_, .base (.tup s), rfl⟩
    · exact ⟨_, .fTuple s, rfl⟩
    · exact ⟨_, .kTuple hk hc, rfl⟩
  | dict kvs =>
    obtain ⟨a, o, rfl, s, ks, rfl, _⟩ := h.dct
    rcases s with s | ⟨od, s⟩
    · exact ⟨_, .base (.dK s), rfl⟩
    · exact ⟨_, .fDict s, rfl⟩
theorem kit1 {K : Frag} {a b : String} {c : Bool} (h : PySem.W.kitOne K (.type a) (.type b) = some c) : PySem.W.kitOne K (.type a) (.type b) = some c := h
theorem isiKit {K : Frag} {O : Msk} {H : Hp} {v : V} {d : D} (t : Ty) (h : Cv K O H v d) : ∃ u, TyX K H v u ∧ PySem.W.kitOne K u (.type (tyName t)) = some (isiD t d) := by
  obtain ⟨u, h1, h2⟩ := tyX_of h
  refine ⟨u, h1, ?_⟩
  cases d with
  | _ =>
    cases h2
    cases t <;> first | rfl | decide +kernel
theorem seIsi {a : E} {t : Ty} {y : Expr} {x z : Str} {p p2 pos : Pos} (hK : X.K = K) (h : PE X (.Call (.Name x p) [y, .Name z p2] [] pos) (tCB (rIsi X.K) (tCons (tE K G Φ a) (tCons (tC (.ty (tyName t))) tNil)))) : SE K G Φ X (.Call (.Name x p) [y, .Name z p2] [] pos) (.isi a t) := by
  subst hK
  refine .of rfl (peImp h fun σ H Q hl ⟨H0, O, A, ρ, r, rel, h, q⟩ => ?_) rfl fun ρ => by simp only [ev, fin]
  simp only [ev, fin] at h
  obtain ⟨x, hx, rfl⟩ := Option.map_eq_some_iff.mp h
  refine tE.go rel hx fun v H1 e1 l1 r1 v1 => ?_
  obtain ⟨u, k1, k2⟩ := isiKit t v1.cv
  exact ⟨v, _, u, _, _, rfl, .ty _, k1, k2, fun l => q _ H1 e1 l (Dq.bl _)⟩
end
end WM

/-! ## part H: targets, comprehensions, and all expressions at once -/
namespace WM
open PySem PySem.Spec PyProof.Rows L2
variable [τ : Tabs]

/-! ### targets -/
def gsOf : List Nat → TGs
  | [] => gNil
  | i :: is => gCons (gName i) (gsOf is)
def gOf (K : Frag) : Tg → TG
  | .nm i => gName i
  | .tp is => gTup K is.length (gsOf is)
section
variable {X : Cx} {L : Lk} {loc : Str → Bool} {own : Option (List Nat)}
theorem pgOf (hN : X.N = L.N) (nd : X.N.Nodup) (hc : X.calm = true) (hl : ∀ x, loc x = true → L2.Loc X.env.scope x ∧ (X.fn x = true ∨ X.env.scope.names.lookup x = some .local)) : ∀ (t : Tg) (e : Expr), mtTg L loc own t e = true → PG X e (gOf X.K t) := by
  have one : ∀ (i : Nat) (e : Expr), tgN L loc own i e = true → PG X e (gName i) ∧ ∃ x p, e = .Name x p := by
    intro i e h
    cases e <;> simp only [tgN, Bool.false_eq_true] at h
    rename_i x p
    simp only [Bool.and_eq_true, decide_eq_true_eq] at h
    obtain ⟨h1, h2⟩ := hl x h.1.2
    exact ⟨pg_name nd (by rw [hN]; exact h.1.1) h1 h2, x, p, rfl⟩
  have many : ∀ (is : List Nat) (es : List Expr), tgNs L loc own is es = true → PGs X es (gsOf is) ∧ (assignEach es X.env).length = is.length ∧ (assignEach es X.env).findIdx? (·.1) = none := by
    intro is
    induction is with
    | nil =>
      intro es h
      cases es with
      | nil => exact ⟨pgs_nil, rfl, rfl⟩
      | cons e es => cases h
    | cons i is ih =>
      intro es h
      cases es with
      | nil => cases h
      | cons e es =>
        simp only [tgNs, Bool.and_eq_true] at h
        obtain ⟨h1, x, p, rfl⟩ := one i e h.1
        obtain ⟨h2, h3, h4⟩ := ih es h.2
        refine ⟨pgs_cons h1 h2 rfl, ?_, ?_⟩
        · show (assignEach es X.env).length + 1 = is.length + 1
          rw [h3]
        · show List.findIdx? _ ((false, assign (.Name x p) X.env) :: assignEach es X.env) = none
          rw [List.findIdx?_cons, h4]
          rfl
  intro t e h
  cases t with
  | nm i => exact (one i e h).1
  | tp is =>
    cases e <;> simp only [mtTg, Bool.false_eq_true] at h
    obtain ⟨h1, h2, h3⟩ := many _ _ h
    exact pg_tup hc h1 h2 h3
end
/-- A without place i -/
def dropA (A : Nat → Option Addr) (i : Nat) : Nat → Option Addr := fun j => if j = i then none else A j
section
variable {K : Frag} {H0 H : Hp} {O : Msk} {A : Nat → Option Addr} {σ : L2.St} {ρ ρ' : List Sl}
theorem dropA_ow {i : Nat} {b : Addr} (h : Ow O (dropA A i) b) : Ow O A b := by
  rcases h with h | ⟨j, h⟩
  · exact .inl h
  · unfold dropA at h
    by_cases e : j = i
    · rw [if_pos e] at h; cases h
    · rw [if_neg e] at h; exact .inr ⟨j, h⟩
theorem setS_eq {i : Nat} {x : Sl} (h : setS ρ i x = some ρ') : ρ' = ρ.set i x ∧ i < ρ.length ∧ ∀ xs, ρ[i]? ≠ some (.lk xs) := by
  unfold setS at h
  split at h
  · cases h
  · rename_i y hn hy
    cases h
    exact ⟨rfl, (List.getElem?_eq_some_iff.mp hy).1, fun xs z => hn xs (Option.some.inj (hy.symm.trans z))⟩
  · cases h
theorem Rel.weakSlot {A' : Nat → Option Addr} (hw : ∀ b, Ow O A' b → Ow O A b) (a : Option Addr) (v : Option (Option V)) (s : Option Sl) (h : SlOk K H0 (Ow O A) H a v s) : SlOk K H0 (Ow O A') H a v s := by
  have e : Ext (frz H (Ow O A)) (frz H (Ow O A')) := frz_sub fun b o _ z => hw b z
  cases s with
  | none => exact h
  | some s =>
    cases s with
    | no => exact h
    | va x =>
      obtain ⟨h0, u, h1, h2⟩ := h
      exact ⟨h0, u, h1, dpMono e _ _ h2⟩
    | rd xs =>
      obtain ⟨h0, p, vs, h1, hz, h2, h3⟩ := h
      exact ⟨h0, p, vs, h1, hz, h2, dpMonoAll e _ _ h3⟩
    | ow xs =>
      obtain ⟨p, vs, h1, h2, h3, h4⟩ := h
      exact ⟨p, vs, h1, h2, h3, dpMonoAll e _ _ h4⟩
    | lk xs =>
      obtain ⟨p, vs, h1, h2, h3, h4⟩ := h
      exact ⟨p, vs, h1, h2, h3, dpMonoAll e _ _ h4⟩
    | od kvs =>
      obtain ⟨p, o, h1, h2, h3, h4⟩ := h
      exact ⟨p, o, h1, h2, h3, h4.mono e⟩
    | rdd kvs =>
      obtain ⟨h0, p, o, h1, hz, h2, h3⟩ := h
      exact ⟨h0, p, o, h1, hz, h2, h3.mono e⟩
theorem Rel.setVa (r : Rel K H0 O A σ H ρ) {i : Nat} {x : D} {v : V} (h : setS ρ i (.va x) = some ρ') (hd : Dq K (frz H (Ow O A)) v x) : Rel K H0 O (dropA A i) (σ.set i (some v)) H ρ' := by
  obtain ⟨rfl, hi, _⟩ := setS_eq h
  have hs : i < σ.length := by rw [← r.len]; exact hi
  refine ⟨by rw [List.length_set, List.length_set]; exact r.len, r.ext, r.out, fun j a e => ?_, fun j k a e1 e2 => ?_, fun j => ?_, r.tabs⟩
  · unfold dropA at e
    by_cases z : j = i
    · rw [if_pos z] at e; cases e
    · rw [if_neg z] at e; exact r.new j a e
  · unfold dropA at e1 e2
    by_cases z : j = i
    · rw [if_pos z] at e1; cases e1
    · by_cases z2 : k = i
      · rw [if_pos z2] at e2; cases e2
      · rw [if_neg z] at e1; rw [if_neg z2] at e2; exact r.inj j k a e1 e2
  · by_cases z : j = i
    · subst z
      rw [List.getElem?_set_self hs, List.getElem?_set_self hi]
      refine ⟨by unfold dropA; rw [if_pos rfl], v, rfl, dpMono (frz_sub fun b o _ z => dropA_ow z) _ _ hd⟩
    · rw [List.getElem?_set_ne (Ne.symm z), List.getElem?_set_ne (Ne.symm z)]
      have e : dropA A i j = A j := by unfold dropA; rw [if_neg z]
      rw [e]
      exact Rel.weakSlot (fun b => dropA_ow) _ _ _ (r.slot j)
theorem gsGo {Q : L2.St → Hp → Prop} : ∀ (is : List Nat) (xs : List D) (vs : List V) (A : Nat → Option Addr) (σ : L2.St) (ρ : List Sl), Rel K H0 O A σ H ρ → setsS ρ is xs = some ρ' → DqAll K (frz H (Ow O A)) vs xs →
    (∀ A' σ', Rel K H0 O A' σ' H ρ' → (∀ j, A' j = A j ∨ A' j = none) → σ'.length = σ.length → (∀ j, j ∉ is → A' j = A j ∧ σ'[j]? = σ[j]?) → Q σ' H) → gsOf is vs σ H Q
  | [], xs, vs, A, σ, ρ, r, h, d, q => by
    cases xs with
    | cons => cases h
    | nil =>
      cases d
      cases h
      exact ⟨rfl, q A σ r (fun j => .inl rfl) rfl fun j _ => ⟨rfl, rfl⟩⟩
  | i :: is, xs, vs, A, σ, ρ, r, h, d, q => by
    cases xs with
    | nil => cases h
    | cons x xs =>
      cases d with
      | cons d1 d2 =>
        simp only [setsS] at h
        obtain ⟨ρ1, h1, h⟩ := Option.bind_eq_some_iff.mp h
        refine ⟨_, _, rfl, ?_⟩
        have r1 := r.setVa h1 d1
        refine gsGo is xs _ _ _ ρ1 r1 h (dpMonoAll (frz_sub fun b o _ z => dropA_ow z) _ _ d2) fun A' σ' r' w len k => q A' σ' r' (fun j => ?_) (by rw [len, List.length_set]) fun j hj => ?_
        · rcases w j with z | z
          · unfold dropA at z
            by_cases e : j = i
            · rw [if_pos e] at z; exact .inr z
            · rw [if_neg e] at z; exact .inl z
          · exact .inr z
        simp only [List.mem_cons, not_or] at hj
        obtain ⟨k1, k2⟩ := k j hj.2
        refine ⟨k1.trans (by unfold dropA; rw [if_neg hj.1]), k2.trans (List.getElem?_set_ne (Ne.symm hj.1))⟩
theorem gGo {Q : L2.St → Hp → Prop} {t : Tg} {x : D} {v : V} (r : Rel K H0 O A σ H ρ) (h : asgD t x ρ = some ρ') (d : Dq K (frz H (Ow O A)) v x)
    (q : ∀ A' σ', Rel K H0 O A' σ' H ρ' → (∀ j, A' j = A j ∨ A' j = none) → σ'.length = σ.length → (∀ j, j ∉ t.slots → A' j = A j ∧ σ'[j]? = σ[j]?) → Q σ' H) : gOf K t v σ H Q := by
  cases t with
  | nm i =>
    refine q _ _ (r.setVa h d) (fun j => ?_) (by rw [List.length_set]) fun j hj => ?_
    · unfold dropA
      by_cases e : j = i
      · rw [if_pos e]; exact .inr rfl
      · rw [if_neg e]; exact .inl rfl
    simp only [Tg.slots, List.mem_singleton] at hj
    exact ⟨by unfold dropA; rw [if_neg hj], List.getElem?_set_ne (Ne.symm hj)⟩
  | tp is =>
    cases x <;> simp only [asgD] at h <;> try cases h
    rename_i xs
    cases d with
    | tup s a =>
      refine ⟨_, _, rfl, Ext.unfrz.sqT s, ?_, gsGo is xs _ A σ ρ r h a q⟩
      have l1 := DqAll.len a
      have l2 : ∀ (is : List Nat) (xs : List D) (ρ : List Sl), setsS ρ is xs = some ρ' → is.length = xs.length := by
        intro is
        induction is with
        | nil => intro xs ρ h; cases xs with
          | nil => rfl
          | cons => cases h
        | cons i is ih => intro xs ρ h; cases xs with
          | nil => cases h
          | cons x xs =>
            simp only [setsS] at h
            obtain ⟨ρ1, _, h⟩ := Option.bind_eq_some_iff.mp h
            rw [List.length_cons, List.length_cons, ih xs ρ1 h]
      rw [l1, l2 is xs ρ h]
end
/-! ### names of a block wiped -/
theorem wipe_get (σ : L2.St) : ∀ (vs : List Nat) (j : Nat), (wipe σ vs)[j]? = if j ∈ vs ∧ j < σ.length then some none else σ[j]?
  | [], j => by simp [wipe]
  | v :: vs, j => by
    unfold wipe
    by_cases e : v = j
    · subst e
      by_cases h : v < σ.length
      · rw [List.getElem?_set_self (by rw [wipe_length]; exact h)]
        simp [h]
      · rw [List.getElem?_eq_none (by rw [List.length_set, wipe_length]; omega)]
        rw [if_neg (by omega), List.getElem?_eq_none (by omega)]
    · rw [List.getElem?_set_ne e, wipe_get σ vs j]
      have : (j ∈ v :: vs) ↔ j ∈ vs := by simp [Ne.symm e]
      simp only [this]
theorem wipe_same {σ σ' : L2.St} {vs : List Nat} (hl : σ'.length = σ.length) (h : ∀ j, j ∉ vs → σ'[j]? = (wipe σ vs)[j]?) : wipe σ' vs = wipe σ vs := by
  refine List.ext_getElem? fun j => ?_
  rw [wipe_get, hl]
  by_cases e : j ∈ vs
  · rw [wipe_get]
    by_cases h2 : j < σ.length
    · rw [if_pos ⟨e, h2⟩, if_pos ⟨e, h2⟩]
    · rw [if_neg (by omega), if_neg (by omega), List.getElem?_eq_none (by omega), List.getElem?_eq_none (by omega)]
  · rw [if_neg (fun z => e z.1), h j e]
theorem wipeS_get : ∀ {vs : List Nat} {ρ ρ' : List Sl}, wipeS ρ vs = some ρ' → ρ'.length = ρ.length ∧ (∀ j, j ∈ vs → j < ρ.length → ρ'[j]? = some .no) ∧ (∀ j, j ∉ vs → ρ'[j]? = ρ[j]?) ∧ ∀ j, j ∈ vs → plainSl ρ[j]? = true
  | [], ρ, ρ', h => by
    simp only [wipeS] at h
    cases h
    exact ⟨rfl, fun j z => absurd z (by simp), fun j _ => rfl, fun j z => absurd z (by simp)⟩
  | v :: vs, ρ, ρ', h => by
    simp only [wipeS] at h
    obtain ⟨ρ1, h1, h⟩ := Option.bind_eq_some_iff.mp h
    split at h
    · rename_i hp
      cases h
      obtain ⟨a, b, c, d⟩ := wipeS_get h1
      refine ⟨by rw [List.length_set]; exact a, fun j hj hl => ?_, fun j hj => ?_, fun j hj => ?_⟩
      · by_cases e : v = j
        · subst e
          rw [List.getElem?_set_self (by omega)]
        · rw [List.getElem?_set_ne e]
          exact b j (by simpa [Ne.symm e] using hj) hl
      · simp only [List.mem_cons, not_or] at hj
        rw [List.getElem?_set_ne (Ne.symm hj.1)]
        exact c j hj.2
      · by_cases e : j ∈ vs
        · exact d j e
        · have : j = v := by simpa [e] using hj
          subst this
          rw [c j e] at hp
          exact hp
    · cases h
section
variable {K : Frag} {H0 H : Hp} {O : Msk} {A : Nat → Option Addr} {σ : L2.St} {ρ ρ' : List Sl}
theorem Rel.wiped (r : Rel K H0 O A σ H ρ) {vs : List Nat} (h : wipeS ρ vs = some ρ') : Rel K H0 O A (wipe σ vs) H ρ' := by
  obtain ⟨a, b, c, d⟩ := wipeS_get h
  refine ⟨by rw [wipe_length, a]; exact r.len, r.ext, r.out, r.new, r.inj, fun j => ?_, r.tabs⟩
  have s := r.slot j
  rw [wipe_get]
  by_cases e : j ∈ vs
  · by_cases hl : j < σ.length
    · rw [if_pos ⟨e, hl⟩, b j e (by rw [r.len]; exact hl)]
      have p := d j e
      revert s p
      cases ρ[j]? with
      | none => intro s p; exact s
      | some y =>
        cases y with
        | no => intro s p; exact s
        | va x => intro s p; exact s.1
        | rd x => intro s p; exact s.1
        | ow x => intro s p; cases p
        | lk x => intro s p; cases p
        | od x => intro s p; cases p
        | rdd x => intro s p; exact s.1
    · have h1 : ρ'[j]? = none := List.getElem?_eq_none (by rw [a, r.len]; omega)
      rw [h1]
      have h2 : ρ[j]? = none := List.getElem?_eq_none (by rw [r.len]; omega)
      rw [h2] at s
      exact s
  · rw [if_neg (fun z => e z.1), c j e]
    exact s
/-- one more list masked -/
theorem Rel.mask (r : Rel K H0 O A σ H ρ) {H' : Hp} {D : Addr} (e : Ext H H') (hn : H D = none) (hD : ∃ o, H' D = some o ∧ lstO o = true) : Rel K H0 (fun b => O b ∨ b = D) A σ H' ρ := by
  have r' := r.mono e
  refine ⟨r.len, r'.ext, fun b h => ?_, r.new, r.inj, fun i => ?_, r'.tabs⟩
  · rcases h with h | h
    · exact r'.out b h
    · subst h; exact hD
  · have s := (r.slot i)
    have e2 : Ext (frz H (Ow O A)) (frz H' (Ow (fun b => O b ∨ b = D) A)) := by
      refine ⟨fun b o h t => ?_, fun b o h => ?_, fun b ⟨ps, h, t⟩ => ?_⟩
      · obtain ⟨c, h⟩ := frz_of h
        refine frz_mk (fun z => ?_) (e.keep b o h t)
        rcases z with (z | z) | z
        · exact c (.inl z)
        · subst z; rw [hn] at h; cases h
        · exact c (.inr z)
      · obtain ⟨c, h⟩ := frz_of h
        obtain ⟨o', h'⟩ := e.dom b o h
        refine ⟨o', frz_mk (fun z => ?_) h'⟩
        rcases z with (z | z) | z
        · exact c (.inl z)
        · subst z; rw [hn] at h; cases h
        · exact c (.inr z)
      · obtain ⟨c, h⟩ := frz_of h
        obtain ⟨ps', h', t'⟩ := e.tb b ⟨ps, h, t⟩
        refine ⟨ps', frz_mk (fun z => ?_) h', t'⟩
        rcases z with (z | z) | z
        · exact c (.inl z)
        · subst z; rw [hn] at h; cases h
        · exact c (.inr z)
    revert s
    cases ρ[i]? with
    | none => exact fun s => s
    | some y =>
      cases y with
      | no => exact fun s => s
      | va x => exact fun ⟨h0, u, h1, h2⟩ => ⟨h0, u, h1, dpMono e2 _ _ h2⟩
      | rd x => exact fun ⟨h0, p, vs, h1, hz, h2, h3⟩ => ⟨h0, p, vs, h1, hz, e.rd rfl h2, dpMonoAll e2 _ _ h3⟩
      | ow x => exact fun ⟨p, vs, h1, h2, h3, h4⟩ => ⟨p, vs, h1, h2, e.keep _ _ h3 rfl, dpMonoAll e2 _ _ h4⟩
      | lk x => exact fun ⟨p, vs, h1, h2, h3, h4⟩ => ⟨p, vs, h1, h2, e.keep _ _ h3 rfl, dpMonoAll e2 _ _ h4⟩
      | od x => exact fun ⟨p, o, h1, h2, h3, h4⟩ => ⟨p, o, h1, h2, e.keep _ _ h3 h4.tb, h4.mono e2⟩
      | rdd x => exact fun ⟨h0, p, o, h1, hz, h2, h3⟩ => ⟨h0, p, o, h1, hz, e.rd h3.tb h2, h3.mono e2⟩
end

/-! ### comprehensions -/
/-- a clause's tests -/
def tTs (K : Frag) (G : Gt) (Φ : Phi) (es : Es) : TT := fun σ H Q => ∃ H0 O A ρ b, Rel K H0 O A σ H ρ ∧ tvs G Φ es ρ = some b ∧ ∀ H', Ext H H' → HLen K H' → Q b H'
theorem Kp.rd {H0 H1 : Hp} {M1 : Msk} {A : Nat → Option Addr} {ls : List Nat} {p : Addr × List V} (h : Kp H0 H1 M1 A ls p) (e : Ext H0 H1) : Rd H1 p.1 (.lst p.2) := by
  rcases h with h | ⟨i, _, _, h⟩ | h
  · exact .inl (frz_of h).2
  · exact .inl h
  · exact e.rd rfl h
theorem tgSlots {L : Lk} {loc : Str → Bool} {l : List Nat} : ∀ (t : Tg) (e : Expr), mtTg L loc (some l) t e = true → ∀ i ∈ t.slots, i ∈ l := by
  have one : ∀ (i : Nat) (e : Expr), tgN L loc (some l) i e = true → i ∈ l := by
    intro i e h
    cases e <;> simp only [tgN, Bool.false_eq_true] at h
    simp only [Bool.and_eq_true, decide_eq_true_eq] at h
    exact h.2
  have many : ∀ (is : List Nat) (es : List Expr), tgNs L loc (some l) is es = true → ∀ i ∈ is, i ∈ l := by
    intro is
    induction is with
    | nil => intro es h i hi; cases hi
    | cons j is ih =>
      intro es h i hi
      cases es with
      | nil => cases h
      | cons e es =>
        simp only [tgNs, Bool.and_eq_true] at h
        rcases List.mem_cons.mp hi with z | z
        · subst z; exact one _ e h.1
        · exact ih es h.2 i z
  intro t e h i hi
  cases t with
  | nm j =>
    simp only [Tg.slots, List.mem_singleton] at hi
    subst hi
    exact one _ e h
  | tp is =>
    cases e <;> simp only [mtTg, Bool.false_eq_true] at h
    exact many _ _ h i hi
section
variable {K : Frag} {G : Gt} {Φ : Phi} {X : Cx} {L : Lk} {n j : Nat} {sc : Scope}
theorem seLc {own : List (Str × Nat)} {t : Tg} {it : It} {ifs : Es} {e : E} {x tg i : Expr} {fs : List Expr} {scope : Scope} {pos : Pos} (hK : X.K = K) (hc : X.calm = true) (nd : X.N.Nodup) (ok : BlkOk X.N X.env.scope scope own) (hsl : ∀ i ∈ t.slots, i ∈ own.map (·.2))
    (hi : PI X tg i (tI K G Φ it)) (hf : ∀ v, foldedSetIterable i X.env v = pure v)
    (hg : ∀ (s : Shared) (H : Hp) (C : Addr) (cl : List (Str × Addr)) (fp : List Addr), PG (X.blk s H scope (compEnvC scope cl C X.env) fp) tg (gOf K t))
    (ht : ∀ (s : Shared) (H : Hp) (C : Addr) (cl : List (Str × Addr)) (fp : List Addr), PTs (X.blk s H scope (compEnvC scope cl C X.env) fp) fs (tTs K G Φ ifs))
    (he : ∀ (s : Shared) (H : Hp) (C : Addr) (cl : List (Str × Addr)) (fp : List Addr), PE (X.blk s H scope (compEnvC scope cl C X.env) fp) x (tE K G Φ e)) :
    ∀ σ H Q, (∃ H0 O A ρ r, Rel K H0 O A σ H ρ ∧ ev G Φ (.lc own t it ifs e) false ρ = some r ∧ ∀ v H', Ext H H' → Rv K (Ow O A) H H' v r → Q v H') → tLc (tI K G Φ it) (gOf K t) (tTs K G Φ ifs) (tE K G Φ e) (own.map (·.2)) σ H Q := by
  intro σ H Q ⟨H0, O, A, ρ, r, rel, h, q⟩
  simp only [ev, fin] at h
  obtain ⟨xs, hxs, h⟩ := Option.bind_eq_some_iff.mp h
  obtain ⟨ρ0, hρ0, h⟩ := Option.bind_eq_some_iff.mp h
  split at h
  · rename_i hz
    obtain ⟨ys, hys, rfl⟩ := Option.map_eq_some_iff.mp h
    refine ⟨H0, O, A, ρ, xs, rel, hxs, fun J H1 Lst e1 l1 hkp wk D hD => ?_⟩
    have relw := (rel.mono e1).wiped hρ0
    have hn := szOk_le hz
    generalize hMM : (fun b => O b ∨ b = D) = O2
    have inD : ∀ b, Ow O2 A b ↔ (Ow O A b ∨ b = D) := by
      intro b
      subst hMM
      constructor
      · rintro ((z | z) | z)
        · exact .inl (.inl z)
        · exact .inr z
        · exact .inl (.inr z)
      · rintro ((z | z) | z)
        · exact .inl (.inl z)
        · exact .inr z
        · exact .inl (.inr z)
    refine ⟨fun k m H' => m = xs.length - k ∧ k ≤ xs.length ∧ Ext H1 H' ∧ ∃ acc zs rest, H' D = some (.lst acc) ∧ acc.length ≤ k ∧ DqAll K (frz H' (Ow O2 A)) acc zs ∧
      lcRun t ρ0 (fun ρ => tvs G Φ ifs ρ) (fun ρ => ev G Φ e false ρ) (xs.drop k) = some rest ∧ zs ++ rest = ys,
      ⟨xs.length, by omega, Nat.zero_le _, Ext.upd hD, [], [], ys, upd_same, Nat.le_refl _, .nil, by rw [List.drop_zero]; exact hys, rfl⟩, ?_⟩
    rintro k m H' ⟨rfl, hk, ex, acc, zs, rest, hDl, hal, hda, hrun, hcat⟩
    have relD : Rel K H0 O2 A (wipe σ (own.map (·.2))) H' ρ0 := by
      subst hMM
      exact relw.mask ex hD ⟨_, hDl, rfl⟩
    have stw : StW K H1 (Ow O A) Lst H' (Ow O2 A) := by
      refine ⟨relD.domO, ⟨fun b o hb tb => ?_, fun b o hb => ?_, fun b ⟨ps, hb, tt⟩ => ?_⟩, fun p hp => ex.rd rfl ((hkp p hp).rd (rel.ext.trans e1))⟩
      · obtain ⟨c, hb⟩ := frz_of hb
        refine frz_mk (fun z => ?_) (ex.keep b o hb tb)
        rcases (inD b).mp z with z | z
        · exact c z
        · subst z; rw [hD] at hb; cases hb
      · obtain ⟨c, hb⟩ := frz_of hb
        obtain ⟨o', hb'⟩ := ex.dom b o hb
        refine ⟨o', frz_mk (fun z => ?_) hb'⟩
        rcases (inD b).mp z with z | z
        · exact c z
        · subst z; rw [hD] at hb; cases hb
      · obtain ⟨c, hb⟩ := frz_of hb
        obtain ⟨ps', h', t'⟩ := ex.tb b ⟨ps, hb, tt⟩
        refine ⟨ps', frz_mk (fun z => ?_) h', t'⟩
        rcases (inD b).mp z with z | z
        · exact c z
        · subst z; rw [hD] at hb; cases hb
    by_cases hlt : k < xs.length
    · refine .inr ⟨wk.goes k H' _ hlt stw, fun H2 => ∃ acc zs rest, Ext H1 H2 ∧ H2 D = some (.lst acc) ∧ acc.length ≤ k + 1 ∧ DqAll K (frz H2 (Ow O2 A)) acc zs ∧
        lcRun t ρ0 (fun ρ => tvs G Φ ifs ρ) (fun ρ => ev G Φ e false ρ) (xs.drop (k + 1)) = some rest ∧ zs ++ rest = ys, ?_, ?_⟩
      · rintro H2 ⟨acc, zs, rest, h1, h2, h3, h4, h5, h6⟩
        exact ⟨xs.length - (k + 1), by omega, rfl, hlt, h1, acc, zs, rest, h2, h3, h4, h5, h6⟩
      · intro v H2 yl
        obtain ⟨e2, d, hd, hdq⟩ := wk.yields k H' _ v H2 hlt stw yl
        have hx : xs.drop k = d :: xs.drop (k + 1) := by
          obtain ⟨hl, hg⟩ := List.getElem?_eq_some_iff.mp hd
          rw [List.drop_eq_getElem_cons hl, hg]
        rw [hx] at hrun
        simp only [lcRun] at hrun
        obtain ⟨ρ1, hρ1, hrun⟩ := Option.bind_eq_some_iff.mp hrun
        obtain ⟨b, hb, hrun⟩ := Option.bind_eq_some_iff.mp hrun
        refine gGo (relD.mono e2) hρ1 hdq fun A' σ2 rel2 sub len2 same => ?_
        have hA : A' = A := by
          funext j
          by_cases hj : j ∈ t.slots
          · have s1 := relw.slot j
            have hj' := hsl j hj
            have s2 := rel2.slot j
            obtain ⟨w1, w2, w3, w4⟩ := wipeS_get hρ0
            have hAj : A j = none := by
              by_cases hl : j < ρ.length
              · rw [w2 j hj' hl] at s1
                exact s1
              · have : ρ0[j]? = none := List.getElem?_eq_none (by omega)
                rw [this] at s1
                exact s1
            rcases sub j with z | z
            · exact z
            · rw [z, hAj]
          · exact (same j hj).1
        subst hA
        have hw : wipe σ2 (own.map (·.2)) = wipe σ (own.map (·.2)) := by
          refine wipe_same ?_ fun j hj => (same j fun z => hj (hsl j z)).2
          rw [len2, wipe_length]
        refine ⟨hw, H0, O2, A', ρ1, b, rel2, hb, fun H3 e3 l3 => ?_⟩
        have hD3 : H3 D = some (.lst acc) := e3.keep _ _ (e2.keep _ _ hDl rfl) rfl
        have hda3 := dpMonoAll (e2.trans e3).frz _ _ hda
        cases b with
        | false =>
          dsimp only
          rw [if_neg Bool.false_ne_true]
          exact ⟨acc, zs, rest, (ex.trans e2).trans e3, hD3, by omega, hda3, hrun, hcat⟩
        | true =>
          dsimp only
          rw [if_pos rfl]
          obtain ⟨r1, hr1, hrun⟩ := Option.bind_eq_some_iff.mp hrun
          obtain ⟨y, hy, hrun⟩ := Option.bind_eq_some_iff.mp hrun
          obtain ⟨rest', hrest, rfl⟩ := Option.map_eq_some_iff.mp hrun
          refine tE.go (rel2.mono e3) hr1 fun u H4 e4 l4 rel4 rv => ?_
          have hD4 : H4 D = some (.lst acc) := e4.keep _ _ hD3 rfl
          refine ⟨acc, hD4, by omega, acc ++ [u], zs ++ [y], rest', ?_, upd_same, by rw [List.length_append]; simp; omega, ?_, hrest, by rw [← hcat]; simp⟩
          · refine ⟨fun b o hb tb => ?_, fun b o hb => ?_, fun b ⟨ps, hb, tt⟩ => ?_⟩
            · have ne : b ≠ D := fun z => by subst z; rw [hD] at hb; cases hb
              rw [upd_ne ne]
              exact (((ex.trans e2).trans e3).trans e4).keep b o hb tb
            · have ne : b ≠ D := fun z => by subst z; rw [hD] at hb; cases hb
              rw [upd_ne ne]
              exact (((ex.trans e2).trans e3).trans e4).dom b o hb
            · have ne : b ≠ D := fun z => by subst z; rw [hD] at hb; cases hb
              obtain ⟨ps', h', t'⟩ := (((ex.trans e2).trans e3).trans e4).tb b ⟨ps, hb, tt⟩
              exact ⟨ps', by rw [upd_ne ne]; exact h', t'⟩
          · have fe : Ext (frz H4 (Ow O2 A')) (frz (upd H4 D (.lst (acc ++ [u]))) (Ow O2 A')) := .of fun b o hb => by
              obtain ⟨c, hb⟩ := frz_of hb
              have ne : b ≠ D := fun z => c ((inD b).mpr (.inr z))
              exact frz_mk c (by rw [upd_ne ne]; exact hb)
            refine dpMonoAll fe _ _ (DqAll.snoc (dpMonoAll e4.frz _ _ hda3) ?_)
            exact rv.share (fun b z => let ⟨o, z1, _⟩ := (rel2.mono e3).lsts b z; ⟨o, z1⟩) hy
    · have ek : k = xs.length := by omega
      subst ek
      rw [List.drop_length] at hrun
      simp only [lcRun] at hrun
      cases hrun
      rw [List.append_nil] at hcat
      subst hcat
      refine .inl ⟨wk.stops H' _ stw, q _ H' (e1.trans ex) ⟨D, acc, rfl, e1.none hD, hDl, dpMonoAll (frz_sub fun b o _ z => (inD b).mpr z) _ _ hda⟩⟩
  · cases h
end
end WM

/-! ## part I: all expressions at once -/
namespace WM
open PySem PySem.Spec PyProof.Rows L2
variable [τ : Tabs]

section
variable {L : Lk} {Φ : Phi} {n j : Nat} {sc : Scope} {X : Cx}
theorem CxOk.blk (c : CxOk L Φ n j sc X) (s : Shared) (H : Hp) (scope : Scope) (C : Addr) (cl : List (Str × Addr)) (fp : List Addr) : CxOk L Φ n j (relS scope sc) (X.blk s H scope (compEnvC scope cl C X.env) fp) :=
  ⟨c.names, c.nd, by rw [← c.scope]; rfl, c.calm, rfl, c.room, c.blt, c.gl, c.gcd, c.fns, c.own⟩
theorem CxOk.locF (c : CxOk L Φ n j sc X) (hf : X.fn = fun _ => true) : ∀ x, locB sc x = true → L2.Loc X.env.scope x ∧ (X.fn x = true ∨ X.env.scope.names.lookup x = some .local) := fun x h => by
  rw [c.scope]
  exact ⟨locOk x h, .inl (by rw [hf])⟩
theorem CxOk.locK (c : CxOk L Φ n j sc X) (s : Shared) (H : Hp) (scope : Scope) (C : Addr) (cl : List (Str × Addr)) (fp : List Addr) : ∀ x, locB scope x = true → L2.Loc (X.blk s H scope (compEnvC scope cl C X.env) fp).env.scope x ∧ ((X.blk s H scope (compEnvC scope cl C X.env) fp).fn x = true ∨ (X.blk s H scope (compEnvC scope cl C X.env) fp).env.scope.names.lookup x = some .local) := fun x h => by
  have e : (X.blk s H scope (compEnvC scope cl C X.env) fp).env.scope = relS scope X.env.scope := rfl
  rw [e]
  rcases locOk x h with k | k
  · have z : (relS scope X.env.scope).names.lookup x = some .local := lookup_relS_keep (by decide) k
    exact ⟨.inl z, .inr z⟩
  · have z : (relS scope X.env.scope).names.lookup x = some .cell := lookup_relS_keep (by decide) k
    refine ⟨.inr z, .inl ?_⟩
    show (scope.names.lookup x == some .cell) = true
    rw [k]
    rfl
end
section
variable {K : Frag} {G : Gt} {Φ : Phi} {X : Cx} {L : Lk} {n j : Nat} {sc : Scope}
theorem seVar {i : Nat} {x : Str} {pos : Pos} (c : CxOk L Φ n j sc X) (h1 : L.N[i]? = some x) (h2 : visB sc x = true) (h3 : nameOk x = true) : SE X.K G Φ X (.Name x pos) (.var i) := by
  simp only [nameOk, Bool.and_eq_true, Bool.not_eq_true'] at h3
  have v : Vis X.env.scope x := by rw [c.scope]; exact visOk x h2
  refine .of rfl (peImp (pe_var (by rw [c.names]; exact h1) v h3.1 h3.2) fun σ H Q hl ⟨H0, O, A, ρ, r, rel, h, q⟩ => ?_) rfl fun ρ => by simp only [ev, fin]
  simp only [ev, fin] at h
  have s := rel.slot i
  split at h
  · rename_i d hd
    cases h
    rw [hd] at s
    obtain ⟨_, u, e1, e2⟩ := s
    exact ⟨u, e1, fun l => q u H (Ext.refl _) l e2⟩
  · rename_i d hd
    cases h
    rw [hd] at s
    obtain ⟨p, vs, e0, e1, e2, e3⟩ := s
    exact ⟨_, e1, fun l => q _ H (Ext.refl _) l ⟨p, vs, rfl, .inl e2, e3⟩⟩
  · rename_i d hd
    cases h
    rw [hd] at s
    obtain ⟨p, vs, e0, e1, e2, e3⟩ := s
    exact ⟨_, e1, fun l => q _ H (Ext.refl _) l ⟨p, vs, rfl, .inl e2, e3⟩⟩
  · rename_i d hd
    cases h
    rw [hd] at s
    obtain ⟨e0, p, vs, e1, ez, e2, e3⟩ := s
    exact ⟨_, e1, fun l => q _ H (Ext.refl _) l ⟨p, vs, rfl, e2, e3⟩⟩
  · rename_i d hd
    cases h
    rw [hd] at s
    obtain ⟨p, o, e0, e1, e2, e3⟩ := s
    exact ⟨_, e1, fun l => q _ H (Ext.refl _) l ⟨p, o, rfl, .inl e2, e3⟩⟩
  · rename_i d hd
    cases h
    rw [hd] at s
    obtain ⟨e0, p, o, e1, ez, e2, e3⟩ := s
    exact ⟨_, e1, fun l => q _ H (Ext.refl _) l ⟨p, o, rfl, e2, e3⟩⟩
  · cases h
theorem seCst {c0 : Const} {j : Nat} {pos : Pos} (h : (cstD c0).isSome = true) (hz : cstZ c0 = true) : SE X.K G Φ X (.Constant c0 j pos) (.cst c0) := by
  have go : ∀ (d : D) (v : V), cstD c0 = some d → (∀ H, Dq X.K H v d) → PE X (.Constant c0 j pos) (tC v) → SE X.K G Φ X (.Constant c0 j pos) (.cst c0) := fun d v hd hv hp => by
    refine .of rfl (peImp hp fun σ H Q hl ⟨H0, O, A, ρ, r, rel, h, q⟩ => ?_) rfl fun ρ => by simp only [ev, fin]
    simp only [ev, fin, hd, Option.map_some] at h
    cases h
    exact fun l => q v H (Ext.refl _) l (hv _)
  cases c0 with
  | none => exact go _ _ rfl (fun _ => .non) pe_non
  | bool b => exact go _ _ rfl (fun _ => .bl b) pe_bl
  | int i => exact go _ _ rfl (fun _ => .int i) pe_int
  | str x => exact go _ _ rfl (fun _ => .str x (of_decide_eq_true hz)) pe_str
  | _ => cases h
theorem seDdp {a b : E} {x y : Expr} {pos : Pos} (hK : X.K = K) (ha : SE K G Φ X x a) (hb : SE K G Φ X y b) : SE K G Φ X (.Dict [some x] [y] pos) (.ddp a b) := by
  subst hK
  refine .of rfl (peImp (pe_disp (pps_cons ha.v hb.v pps_nil) rfl rfl (fun z => by cases z) (show (1 : Nat) ≤ 15 by decide)) fun σ H Q hlen ⟨H0, O, A, ρ, r, rel, h, q⟩ => ?_) rfl fun ρ => by simp only [ev, fin]
  simp only [ev, fin] at h
  obtain ⟨k, hk, h⟩ := Option.bind_eq_some_iff.mp h
  obtain ⟨v, hv, h⟩ := Option.bind_eq_some_iff.mp h
  obtain ⟨w, hw, h⟩ := Option.bind_eq_some_iff.mp h
  split at h
  · rename_i hkey
    cases h
    intro p hp
    have rel1 := rel.mask (Ext.upd (o := .dK []) hp) hp ⟨_, upd_same, rfl⟩
    refine tE.go rel1 hk fun u H1 e1 l1 r1 v1 => tE.go r1 hv fun u2 H2 e2 l2 r2 v2 => ?_
    have hp2 : H2 p = some (.dK []) := (e1.trans e2).keep _ _ upd_same rfl
    have hx : Dq X.K (frz H2 (Ow (fun b => O b ∨ b = p) A)) u k.toD := by
      have c := v1.cv.mono e2
      revert c hkey
      cases k.toD <;> intro hkey c <;> first | (cases hkey; done) | exact c
    obtain ⟨kk, rfl⟩ := key_of_d hx hkey
    have hv2 : Dq X.K (frz H2 (Ow (fun b => O b ∨ b = p) A)) u2 w := v2.share r1.domO hw
    refine ⟨hp2, [(kk, u2)], rfl, (show (1 : Nat) ≤ 15 by decide), fun l => q _ _ ?_ l ⟨p, _, rfl, hp, upd_same, [(kk, u2)], rfl, ?_⟩⟩
    · refine ⟨fun c o hc ht => ?_, fun c o hc => ?_, fun c ⟨ps, hc, ht⟩ => ?_⟩
      · have ne : c ≠ p := ne_of_none hc hp
        rw [upd_ne ne]
        exact (e1.trans e2).keep _ _ (by rw [upd_ne ne]; exact hc) ht
      · have ne : c ≠ p := ne_of_none hc hp
        obtain ⟨o', h'⟩ := (e1.trans e2).dom c o (by rw [upd_ne ne]; exact hc)
        exact ⟨o', by rw [upd_ne ne]; exact h'⟩
      · have ne : c ≠ p := ne_of_none hc hp
        obtain ⟨ps', h', t'⟩ := (e1.trans e2).tb c ⟨ps, by rw [upd_ne ne]; exact hc, ht⟩
        exact ⟨ps', by rw [upd_ne ne]; exact h', t'⟩
    · have fe : Ext (frz H2 (Ow (fun b => O b ∨ b = p) A)) (frz (upd H2 p (.dK (mergeK [] [(kk, u2)]))) fun b => Ow O A b ∨ b = p) := .of fun c o hc => by
        obtain ⟨n, hc⟩ := frz_of hc
        have ne : c ≠ p := fun z => n (.inl (.inr z))
        refine frz_mk (fun z => ?_) (by rw [upd_ne ne]; exact hc)
        rcases z with (z | z) | z
        · exact n (.inl (.inl z))
        · exact n (.inr z)
        · exact ne z
      exact .cons (dpMono fe _ _ hx) (dpMono fe _ _ hv2) .nil
  · cases h
theorem seGlb {k : Nat} {x : Str} {pos : Pos} (c : CxOk L Φ n j sc X) (p : Str × D) (h1 : L.G.gl[k]? = some p) (h2 : p.1 = x) (h3 : gloB sc x = true) : SE X.K L.G Φ X (.Name x pos) (.glb k) := by
  obtain ⟨g1, g2⟩ := gloOk c h3
  obtain ⟨u, v, e1, e2, e3⟩ := c.gl k p h1
  rw [h2] at e1
  refine .of rfl (peImp (pe_glob g1 e1 e2 g2) fun σ H Q hl ⟨H0, O, A, ρ, r, rel, h, q⟩ => ?_) rfl fun ρ => by simp only [ev, fin]
  simp only [ev, fin, h1, Option.map_some] at h
  cases h
  exact fun l => q v H (Ext.refl _) l (e3 _)
theorem ofStr_ne {a b : String} (h : (Str.ofString a == Str.ofString b) = false) : Str.ofString a ≠ Str.ofString b := by simpa using h
/-! ### what is walked -/
theorem piVar {i : Nat} {x : Str} {pos : Pos} {tg : Expr} (c : CxOk L Φ n j sc X) (h1 : L.N[i]? = some x) (h2 : visB sc x = true) (h3 : nameOk x = true) : PI X tg (.Name x pos) (tI X.K G Φ (.e (.var i))) := by
  simp only [nameOk, Bool.and_eq_true, Bool.not_eq_true'] at h3
  have v : Vis X.env.scope x := by rw [c.scope]; exact visOk x h2
  have pe : PE X (.Name x pos) (tVar i) := pe_var (by rw [c.names]; exact h1) v h3.1 h3.2
  refine piImp (piOr (pi_list pe) (piOr (pi_tup pe) (pi_str pe))) fun σ H R hl ⟨H0, O, A, ρ, xs, rel, h, q⟩ => ?_
  simp only [evIt] at h
  obtain ⟨r, hr, h⟩ := Option.bind_eq_some_iff.mp h
  simp only [ev, fin] at hr
  have s := rel.slot i
  split at hr
  · rename_i d hd
    cases hr
    rw [hd] at s
    obtain ⟨_, u, e1, e2⟩ := s
    simp only [itB] at h
    cases d with
    | list ds =>
      cases h
      cases e2 with
      | lst s a => exact .inl ⟨_, e1, _, rfl, ⟨_, .inl (.inl (Ext.unfrz.keep _ _ s rfl))⟩, fun l => q _ H [(_, _)] (Ext.refl _) l (fun p hp => by
          rw [List.mem_singleton] at hp; subst hp; exact .inl s) (wkList (List.mem_singleton.mpr rfl) a)⟩
    | tuple ds =>
      cases h
      cases e2 with
      | tup s a => exact .inr (.inl ⟨_, e1, _, rfl, ⟨_, Ext.unfrz.sqT s⟩, fun l => q _ H [] (Ext.refl _) l (fun p hp => by cases hp) (wkTup s a)⟩)
    | str z =>
      cases h
      cases e2
      exact .inr (.inr ⟨_, e1, _, rfl, fun l => q _ H [] (Ext.refl _) l (fun p hp => by cases hp) wkStr⟩)
    | _ => cases h
  · rename_i d hd
    cases hr
    rw [hd] at s
    obtain ⟨p, vs, e0, e1, e2, e3⟩ := s
    simp only [itB] at h
    cases h
    exact .inl ⟨_, e1, _, rfl, ⟨_, .inl (.inl e2)⟩, fun l => q _ H [(p, vs)] (Ext.refl _) l (fun p hp => by
      rw [List.mem_singleton] at hp; subst hp; exact .inr (.inl ⟨i, List.mem_singleton.mpr rfl, e0, e2⟩)) (wkList (List.mem_singleton.mpr rfl) e3)⟩
  · rename_i d hd
    cases hr
    rw [hd] at s
    obtain ⟨p, vs, e0, e1, e2, e3⟩ := s
    simp only [itB] at h
    cases h
    exact .inl ⟨_, e1, _, rfl, ⟨_, .inl (.inl e2)⟩, fun l => q _ H [(p, vs)] (Ext.refl _) l (fun p hp => by
      rw [List.mem_singleton] at hp; subst hp; exact .inr (.inl ⟨i, List.mem_singleton.mpr rfl, e0, e2⟩)) (wkList (List.mem_singleton.mpr rfl) e3)⟩
  · rename_i d hd
    cases hr
    rw [hd] at s
    obtain ⟨e0, p, vs, e1, ez, e2, e3⟩ := s
    simp only [itB] at h
    cases h
    exact .inl ⟨_, e1, _, rfl, ⟨_, .inl e2⟩, fun l => q _ H [(p, vs)] (Ext.refl _) l (fun p hp => by
      rw [List.mem_singleton] at hp; subst hp; exact .inr (.inr ez)) (wkList (List.mem_singleton.mpr rfl) e3)⟩
  · cases hr; cases h
  · cases hr; cases h
  · cases hr
def isVar : E → Bool
  | .var _ => true
  | _ => false
theorem piE {a : E} {x tg : Expr} (ha : SE X.K G Φ X x a) (hv : isVar a = false) : PI X tg x (tI X.K G Φ (.e a)) := by
  refine piImp (piOr (pi_list ha.v) (piOr (pi_tup ha.v) (pi_str ha.v))) fun σ H R hl ⟨H0, O, A, ρ, xs, rel, h, q⟩ => ?_
  simp only [evIt] at h
  obtain ⟨r, hr, h⟩ := Option.bind_eq_some_iff.mp h
  cases r with
  | b ys =>
    exfalso
    simp only [itB] at h
    split at h
    · cases hv
    · cases h
  | f ys =>
    simp only [itB] at h
    cases h
    refine .inl (tE.go rel hr fun v H1 e1 l1 r1 rv => ?_)
    obtain ⟨p, vs, rfl, hp, h2, h3⟩ := rv
    refine ⟨p, rfl, ⟨vs, .inl (.inl h2)⟩, fun l => q _ H1 [(p, vs)] e1 l (fun z hz => ?_) (wkList (List.mem_singleton.mpr rfl) (dpMonoAll (frz_sub fun b o _ c => .inl c) _ _ h3))⟩
    rw [List.mem_singleton] at hz
    subst hz
    exact .inl (frz_mk (rel.free hp) h2)
  | d y =>
    simp only [itB] at h
    cases y with
    | list ds =>
      cases h
      refine .inl (tE.go rel hr fun v H1 e1 l1 r1 rv => ?_)
      have rv : Dq X.K (frz H1 (Ow O A)) v (.list xs) := rv
      cases rv with
      | lst s a => exact ⟨_, rfl, ⟨_, .inl (.inl (Ext.unfrz.keep _ _ s rfl))⟩, fun l => q _ H1 [(_, _)] e1 l (fun p hp => by
          rw [List.mem_singleton] at hp; subst hp; exact .inl s) (wkList (List.mem_singleton.mpr rfl) a)⟩
    | tuple ds =>
      cases h
      refine .inr (.inl (tE.go rel hr fun v H1 e1 l1 r1 rv => ?_))
      have rv : Dq X.K (frz H1 (Ow O A)) v (.tuple xs) := rv
      cases rv with
      | tup s a => exact ⟨_, rfl, ⟨_, Ext.unfrz.sqT s⟩, fun l => q _ H1 [] e1 l (fun p hp => by cases hp) (wkTup s a)⟩
    | str z =>
      cases h
      refine .inr (.inr (tE.go rel hr fun v H1 e1 l1 r1 rv => ?_))
      exact ⟨z, rv.cv.str, fun l => q _ H1 [] e1 l (fun p hp => by cases hp) wkStr⟩
    | _ => cases h
  | fd ys => simp only [itB] at h; cases h
  | bd ys => simp only [itB] at h; cases h
theorem piR1 {a : E} {y tg : Expr} {p pos : Pos} (ha : SE X.K G Φ X y a) (hp : plainE y = true) (hg : Gl X "range") (hm : X.mg "range" = none) : PI X tg (.Call (.Name "range" p) [y] [] pos) (tI X.K G Φ (.rg1 a)) := by
  refine piImp (pi_range1 hg hm (pa_cons ha.v pa_nil (plainStar hp)) (plainStar hp)) fun σ H R hl ⟨H0, O, A, ρ, xs, rel, h, q⟩ => ?_
  simp only [evIt] at h
  obtain ⟨r, hr, h⟩ := Option.bind_eq_some_iff.mp h
  split at h
  · rename_i j hj
    split at h
    · rename_i hb
      cases h
      refine tE.go rel hr fun v H1 e1 l1 r1 rv => ?_
      have c := rv.cv
      rw [hj] at c
      obtain ⟨b1, b2⟩ := bndOk_iff hb
      exact ⟨j, by rw [c.int], b1, b2, fun l => q _ H1 [] e1 l (fun p hp => by cases hp) wkRange⟩
    · cases h
  · cases h
theorem piR3 {a b d : E} {y z w tg : Expr} {p pos : Pos} (ha : SE X.K G Φ X y a) (hb : SE X.K G Φ X z b) (hd : SE X.K G Φ X w d) (hp : plainE y = true) (hp2 : plainE z = true) (hp3 : plainE w = true) (hg : Gl X "range") (hm : X.mg "range" = none) : PI X tg (.Call (.Name "range" p) [y, z, w] [] pos) (tI X.K G Φ (.rg3 a b d)) := by
  refine piImp (pi_range3 hg hm (pa_cons ha.v (pa_cons hb.v (pa_cons hd.v pa_nil (plainStar hp3)) (plainStar hp2)) (plainStar hp)) (plainStar hp) ?_) fun σ H R hl ⟨H0, O, A, ρ, xs, rel, h, q⟩ => ?_
  · rw [plainStar hp2, plainStar hp3]; rfl
  simp only [evIt] at h
  obtain ⟨r, hr, h⟩ := Option.bind_eq_some_iff.mp h
  obtain ⟨r2, hr2, h⟩ := Option.bind_eq_some_iff.mp h
  obtain ⟨r3, hr3, h⟩ := Option.bind_eq_some_iff.mp h
  split at h
  · rename_i i j k hi hj hk
    split at h
    · rename_i hb
      cases h
      simp only [Bool.and_eq_true, decide_eq_true_eq] at hb
      refine tE.go rel hr fun v H1 e1 l1 r1 rv => tE.go r1 hr2 fun u H2 e2 l2 rr rv2 => tE.go rr hr3 fun t H3 e3 l3 rr3 rv3 => ?_
      have c := rv.cv
      rw [hi] at c
      have c2 := rv2.cv
      rw [hj] at c2
      have c3 := rv3.cv
      rw [hk] at c3
      exact ⟨i, j, k, _, by rw [c.int, c2.int, c3.int], ⟨hb.1.1, hb.1.2, hb.2, PyProof.Rows.rangeSize_toNat i j k⟩, fun l => q _ H3 [] ((e1.trans e2).trans e3) l (fun p hp => by cases hp) wkRangeC⟩
    · cases h
  · cases h
theorem piR2 {a b : E} {y z tg : Expr} {p pos : Pos} (ha : SE X.K G Φ X y a) (hb : SE X.K G Φ X z b) (hp : plainE y = true) (hp2 : plainE z = true) (hg : Gl X "range") (hm : X.mg "range" = none) : PI X tg (.Call (.Name "range" p) [y, z] [] pos) (tI X.K G Φ (.rg2 a b)) := by
  refine piImp (pi_range2 hg hm (pa_cons ha.v (pa_cons hb.v pa_nil (plainStar hp2)) (plainStar hp)) ?_ (plainStar hp2)) fun σ H R hl ⟨H0, O, A, ρ, xs, rel, h, q⟩ => ?_
  · rw [plainStar hp, plainStar hp2]; rfl
  simp only [evIt] at h
  obtain ⟨r, hr, h⟩ := Option.bind_eq_some_iff.mp h
  obtain ⟨r2, hr2, h⟩ := Option.bind_eq_some_iff.mp h
  split at h
  · rename_i i j hi hj
    split at h
    · rename_i hb
      cases h
      simp only [Bool.and_eq_true] at hb
      refine tE.go rel hr fun v H1 e1 l1 r1 rv => tE.go r1 hr2 fun u H2 e2 l2 rr rv2 => ?_
      have c := rv.cv
      rw [hi] at c
      have c2 := rv2.cv
      rw [hj] at c2
      obtain ⟨b1, b2⟩ := bndOk_iff hb.1
      obtain ⟨b3, b4⟩ := bndOk_iff hb.2
      exact ⟨i, j, by rw [c.int, c2.int], ⟨b1, b2, b3, b4⟩, fun l => q _ H2 [] (e1.trans e2) l (fun p hp => by cases hp) wkRange⟩
    · cases h
  · cases h
end

/-! ### the whole -/
theorem bin_ok {X : Cx} : ∀ (op : Operator), (∀ x y, binR op x y = none) ∨ OpR X (binaryOp op) (rB X.K (binR op))
  | .Add => .inr opAdd
  | .Sub => .inr opSub
  | .Mult => .inr opMul
  | .FloorDiv => .inr opFdiv
  | .Mod => .inr opMod
  | .Pow => .inr opPow
  | .MatMult => .inl fun x y => by simp only [binR, binD]
  | .Div => .inl fun x y => by simp only [binR, binD]
  | .LShift => .inl fun x y => by simp only [binR, binD]
  | .RShift => .inl fun x y => by simp only [binR, binD]
  | .BitOr => .inl fun x y => by simp only [binR, binD]
  | .BitXor => .inl fun x y => by simp only [binR, binD]
  | .BitAnd => .inl fun x y => by simp only [binR, binD]
/-- an expression that the small language never answers -/
theorem SE.no {K : Frag} {G : Gt} {Φ : Phi} {X : Cx} {e : Expr} {ir : E} (h : ∀ m ρ, ev G Φ ir m ρ = none) : SE K G Φ X e ir :=
  ⟨⟨fun pins s σ H Q I ⟨H0, O, A, ρ, r, rel, he, q⟩ => by rw [h] at he; cases he⟩, ⟨fun pins s σ H Q I ⟨H0, O, A, ρ, r, rel, he, q⟩ => by rw [h] at he; cases he⟩⟩
theorem b1_ok {X : Cx} {n : Nat} (hc : X.calm = true) (hr : Room n X.A) (f : B1) (h : b1Has f = true) : (∃ id, bootBuiltins (Str.ofString (b1Name f)) = some (.builtin id) ∧ CallR X (.builtin id) (rL1 X.K fun a => b1D f a.toD)) ∨ (∃ T, bootBuiltins (Str.ofString (b1Name f)) = some (.type T) ∧ CallR X (.type T) (rL1 X.K fun a => b1D f a.toD)) := by
  cases f <;> simp only [b1Has, Bool.false_eq_true] at h
  · exact .inl ⟨_, by decide +kernel, bLen⟩
  · exact .inr ⟨_, by decide +kernel, bTuple⟩
  · exact .inr ⟨_, by decide +kernel, bList hc⟩
  · exact .inl ⟨_, PyProof.Rows.boot_sorted, bSorted hc hr⟩
  · exact .inl ⟨_, by decide +kernel, bAbs⟩
  · exact .inr ⟨_, by decide +kernel, bInt⟩
  · exact .inl ⟨_, by decide +kernel, bSum hc⟩
  · exact .inl ⟨_, by decide +kernel, bMax hc hr⟩
  · exact .inl ⟨_, by decide +kernel, bMin hc hr⟩
  · exact .inl ⟨_, by decide +kernel, bAll hc⟩
  · exact .inl ⟨_, by decide +kernel, bAny hc⟩
theorem b1_name (f : B1) : b1Has f = true → Str.ofString (b1Name f) ≠ Str.ofString "__name__" := by
  cases f <;> simp only [b1Has, Bool.false_eq_true, false_implies] <;> intro _ <;> decide +kernel
end WM

namespace WM
open PySem PySem.Spec PyProof.Rows L2
variable [τ : Tabs]
def srcLk : E → List Nat
  | .var i => [i]
  | _ => []
section
variable {L : Lk} {Φ : Phi} {n j : Nat} {X : Cx} {sc : Scope} {G : Gt}
/-- a list to be walked: where it lies and why it stays -/
def tSr (K : Frag) (G : Gt) (Φ : Phi) (a : E) : TE := fun σ H Q => ∃ H0 O A ρ r xs, Rel K H0 O A σ H ρ ∧ ev G Φ a false ρ = some r ∧ itL a r = some xs ∧
  ∀ p vs H1, Ext H H1 → HLen K H1 → Kp H0 H1 (Ow O A) A (srcLk a) (p, vs) → Rd H1 p (.lst vs) → DqAll K (frz H1 (Ow O A)) vs xs → Q (.ref p) H1
theorem srV {i : Nat} {x : Str} {pos : Pos} (c : CxOk L Φ n j sc X) (h1 : L.N[i]? = some x) (h2 : visB sc x = true) (h3 : nameOk x = true) : PE X (.Name x pos) (tSr X.K G Φ (.var i)) := by
  simp only [nameOk, Bool.and_eq_true, Bool.not_eq_true'] at h3
  have v : Vis X.env.scope x := by rw [c.scope]; exact visOk x h2
  refine peImp (pe_var (by rw [c.names]; exact h1) v h3.1 h3.2) fun σ H Q hl ⟨H0, O, A, ρ, r, xs, rel, hr, h, q⟩ => ?_
  simp only [ev, fin] at hr
  have s := rel.slot i
  split at hr
  · rename_i d hd
    cases hr
    rw [hd] at s
    obtain ⟨_, u, e1, e2⟩ := s
    cases d with
    | list ds =>
      cases h
      cases e2 with
      | lst s a => exact ⟨_, e1, fun l => q _ _ H (Ext.refl _) l (.inl s) (.inl (Ext.unfrz.keep _ _ s rfl)) a⟩
    | _ => cases h
  · rename_i d hd
    cases hr
    rw [hd] at s
    obtain ⟨p, vs, e0, e1, e2, e3⟩ := s
    cases h
    exact ⟨_, e1, fun l => q _ _ H (Ext.refl _) l (.inr (.inl ⟨i, List.mem_singleton.mpr rfl, e0, e2⟩)) (.inl e2) e3⟩
  · rename_i d hd
    cases hr
    rw [hd] at s
    obtain ⟨p, vs, e0, e1, e2, e3⟩ := s
    cases h
    exact ⟨_, e1, fun l => q _ _ H (Ext.refl _) l (.inr (.inl ⟨i, List.mem_singleton.mpr rfl, e0, e2⟩)) (.inl e2) e3⟩
  · rename_i d hd
    cases hr
    rw [hd] at s
    obtain ⟨e0, p, vs, e1, ez, e2, e3⟩ := s
    cases h
    exact ⟨_, e1, fun l => q _ _ H (Ext.refl _) l (.inr (.inr ez)) e2 e3⟩
  · cases hr; cases h
  · cases hr; cases h
  · cases hr
theorem srE {a : E} {x : Expr} (ha : SE X.K G Φ X x a) (hv : isVar a = false) : PE X x (tSr X.K G Φ a) := by
  refine peImp ha.v fun σ H Q hl ⟨H0, O, A, ρ, r, xs, rel, hr, h, q⟩ => ?_
  cases r with
  | b ys =>
    exfalso
    simp only [itL, itB] at h
    split at h
    · cases hv
    · cases h
  | f ys =>
    cases h
    refine tE.go rel hr fun v H1 e1 l1 r1 rv => ?_
    obtain ⟨p, vs, rfl, hp, h2, h3⟩ := rv
    exact fun l => q _ _ H1 e1 l (.inl (frz_mk (rel.free hp) h2)) (.inl h2) (dpMonoAll (frz_sub fun b o _ c => .inl c) _ _ h3)
  | d y =>
    cases y with
    | list ds =>
      cases h
      refine tE.go rel hr fun v H1 e1 l1 r1 rv => ?_
      have rv : Dq X.K (frz H1 (Ow O A)) v (.list xs) := rv
      cases rv with
      | lst s a => exact fun l => q _ _ H1 e1 l (.inl s) (.inl (Ext.unfrz.keep _ _ s rfl)) a
    | _ => cases h
  | fd ys => cases h
  | bd ys => cases h
theorem locks_en (a : E) : (It.en a).locks = srcLk a := by cases a <;> rfl
theorem piEn {a : E} {y : Expr} {elts : List Expr} {kk : Nat} {p pos tpos : Pos} (ha : PE X y (tSr X.K G Φ a)) (hp : plainE y = true) (hg : Gl X "enumerate") (hm : X.mg "enumerate" = none) : PI X (.Tuple elts kk tpos) (.Call (.Name "enumerate" p) [y] [] pos) (tI X.K G Φ (.en a)) := by
  refine piImp (pi_enum hg hm (pa_cons ha pa_nil (plainStar hp)) (plainStar hp)) fun σ H R hl ⟨H0, O, A, ρ, xs, rel, h, q⟩ => ?_
  simp only [evIt] at h
  obtain ⟨r, hr, h⟩ := Option.bind_eq_some_iff.mp h
  obtain ⟨ys, hy, rfl⟩ := Option.map_eq_some_iff.mp h
  refine ⟨H0, O, A, ρ, r, ys, rel, hr, hy, fun p vs H1 e1 l1 kp rd d => ?_⟩
  exact ⟨p, vs, rfl, .inl rd, fun l => q _ H1 [(p, vs)] e1 l (fun z hz => by
    rw [List.mem_singleton] at hz; subst hz; rw [locks_en]; exact kp) (wkEnum (List.mem_singleton.mpr rfl) d)⟩
theorem locks_zp (a b : E) : (It.zp a b).locks = srcLk a ++ srcLk b := by cases a <;> cases b <;> rfl
theorem Kp.mono {H0 H1 H2 : Hp} {M : Msk} {A : Nat → Option Addr} {ls ls' : List Nat} {p : Addr × List V} (h : Kp H0 H1 M A ls p) (e : Ext H1 H2) (sub : ∀ i ∈ ls, i ∈ ls') : Kp H0 H2 M A ls' p := by
  rcases h with h | ⟨i, h1, h2, h3⟩ | h
  · exact .inl (e.frz.keep _ _ h rfl)
  · exact .inr (.inl ⟨i, sub i h1, h2, e.keep _ _ h3 rfl⟩)
  · exact .inr (.inr h)
theorem piZp {a b : E} {y z : Expr} {elts : List Expr} {kk : Nat} {p pos tpos : Pos} (ha : PE X y (tSr X.K G Φ a)) (hb : PE X z (tSr X.K G Φ b)) (ha' : PE X y (tE X.K G Φ a)) (hb' : PE X z (tE X.K G Φ b)) (hp : plainE y = true) (hp2 : plainE z = true) (hg : Gl X "zip") (hm : X.mg "zip" = none) : PI X (.Tuple elts kk tpos) (.Call (.Name "zip" p) [y, z] [] pos) (tI X.K G Φ (.zp a b)) := by
  have hpl : (backTo pos (starEach [z] X.env)).any (·.1) = false := by rw [plainStar hp2]; rfl
  refine piImp (piOr (pi_zip hg hm (pa_cons ha (pa_cons hb pa_nil (plainStar hp2)) (plainStar hp)) (plainStar hp) hpl)
    (piOr (pi_zipS hg hm (pa_cons ha' (pa_cons hb' pa_nil (plainStar hp2)) (plainStar hp)) (plainStar hp) hpl)
      (RZ.pi_zipA hg hm (pa_cons ha' (pa_cons hb' pa_nil (plainStar hp2)) (plainStar hp)) (plainStar hp) hpl))) fun σ H R hl ⟨H0, O, A, ρ, xs, rel, h, q⟩ => ?_
  simp only [evIt] at h
  obtain ⟨r, hr, h⟩ := Option.bind_eq_some_iff.mp h
  obtain ⟨r2, hr2, h⟩ := Option.bind_eq_some_iff.mp h
  unfold zipB at h
  split at h
  · rename_i s t _
    cases h
    refine .inr (.inl ?_)
    refine tE.go rel hr fun v H1 e1 l1 r1 rv => ?_
    refine tE.go r1 hr2 fun v2 H2 e2 l2 r2 rv2 => ?_
    have rv : Dq X.K (frz H1 (Ow O A)) v (.str s) := rv
    have rv2 : Dq X.K (frz H2 (Ow O A)) v2 (.str t) := rv2
    cases rv
    cases rv2
    exact ⟨s, t, rfl, fun l => q _ H2 [] (e1.trans e2) l (fun z hz => by cases hz) (wkZipS s t)⟩
  · rename_i us ws _
    cases h
    refine .inr (.inr ?_)
    refine tE.go rel hr fun v H1 e1 l1 r1 rv => ?_
    refine tE.go r1 hr2 fun v2 H2 e2 l2 r2 rv2 => ?_
    have rv : Dq X.K (frz H1 (Ow O A)) v (.tuple us) := rv
    have rv2 : Dq X.K (frz H2 (Ow O A)) v2 (.tuple ws) := rv2
    cases rv with
    | tup s1 d1 =>
      cases rv2 with
      | tup s2 d2 =>
        have s1' := e2.frz.sqT s1
        exact ⟨_, _, _, _, rfl, .inr ⟨Ext.unfrz.sqT s1', Ext.unfrz.sqT s2, fun l => q _ H2 [] (e1.trans e2) l (fun z hz => by cases hz) (wkZipT s1' s2 (dpMonoAll e2.frz _ _ d1) d2)⟩⟩
  · obtain ⟨us, hu, h⟩ := Option.bind_eq_some_iff.mp h
    obtain ⟨ws, hw, rfl⟩ := Option.map_eq_some_iff.mp h
    refine .inl ⟨H0, O, A, ρ, r, us, rel, hr, hu, fun p vs H1 e1 l1 kp rd d => ?_⟩
    refine ⟨H0, O, A, ρ, r2, ws, rel.mono e1, hr2, hw, fun p2 vs2 H2 e2 l2 kp2 rd2 d2 => ?_⟩
    exact ⟨p, p2, vs, vs2, rfl, .inl (e2.rd rfl rd), .inl rd2, fun l => q _ H2 [(p, vs), (p2, vs2)] (e1.trans e2) l (fun z hz => by
      rw [locks_zp]
      rcases List.mem_cons.mp hz with hz | hz
      · subst hz; exact kp.mono e2 fun i hi => List.mem_append_left _ hi
      · rw [List.mem_singleton] at hz; subst hz; exact kp2.mono (Ext.refl _) fun i hi => List.mem_append_right _ hi)
      (wkZip List.mem_cons_self (List.mem_cons_of_mem _ List.mem_cons_self) (dpMonoAll e2.frz _ _ d) d2)⟩
theorem srA {a : E} {y : Expr} (c : CxOk L Φ n j sc X) (h : mtE L j a sc y = true) (se : SE X.K L.G Φ X y a) : PE X y (tSr X.K L.G Φ a) := by
  cases hv : isVar a with
  | false => exact srE se hv
  | true =>
    cases a <;> simp only [isVar, Bool.false_eq_true] at hv
    cases y <;> simp only [mtE, Bool.false_eq_true] at h
    simp only [Bool.and_eq_true, decide_eq_true_eq] at h
    exact srV c h.1.1 h.1.2 h.2
end
end WM

/-! ## part Y: comprehensions of two clauses -/
namespace WM
open PySem PySem.Spec PyProof.Rows L2
variable [τ : Tabs]
section
variable {K : Frag} {H0 H1 H H' : Hp} {O M M1 : Msk} {A : Nat → Option Addr} {σ : L2.St} {ρ : List Sl} {D : Addr} {acc ws : List V} {L : List (Addr × List V)}
theorem frz_upd (hM : M D) {o : HO} : frz (upd H D o) M = frz H M := by
  funext b
  by_cases c : M b
  · unfold frz; rw [if_pos c, if_pos c]
  · unfold frz
    rw [if_neg c, if_neg c, upd_ne]
    exact fun z => c (by rw [z]; exact hM)
/-- a masked list, no name's own, is changed -/
theorem Rel.updD (r : Rel K H0 O A σ H ρ) (hO : O D) (h0 : H0 D = none) (hA : ∀ i, A i ≠ some D) (hD : H D = some (.lst acc)) : Rel K H0 O A σ (upd H D (.lst ws)) ρ := by
  have fe : frz (upd H D (.lst ws)) (Ow O A) = frz H (Ow O A) := frz_upd (.inl hO)
  refine ⟨r.len, ⟨fun b o hb tb => ?_, fun b o hb => ?_, fun b hb => ?_⟩, fun b hb => ?_, r.new, r.inj, fun i => ?_, fun P hP => ?_⟩
  · rw [upd_ne (fun z => by subst z; rw [h0] at hb; cases hb)]; exact r.ext.keep b o hb tb
  · rw [upd_ne (fun z => by subst z; rw [h0] at hb; cases hb)]; exact r.ext.dom b o hb
  · obtain ⟨ps, h1, h2⟩ := r.ext.tb b hb
    exact ⟨ps, by rw [upd_ne (fun z => by subst z; rw [hD] at h1; cases h1)]; exact h1, h2⟩
  · by_cases z : b = D
    · subst z; exact ⟨_, upd_same, rfl⟩
    · obtain ⟨o, h1, h2⟩ := r.out b hb
      exact ⟨o, by rw [upd_ne z]; exact h1, h2⟩
  · have s := r.slot i
    revert s
    cases hs : ρ[i]? with
    | none => exact fun s => s
    | some y =>
      cases y with
      | no => exact fun s => s
      | va x => exact fun ⟨a, u, h1, h2⟩ => ⟨a, u, h1, by rw [fe]; exact h2⟩
      | rd x =>
        exact fun ⟨a, p, vs, h1, hz, h2, h3⟩ => by
          have ne : p ≠ D := fun z => by
            subst z
            rcases hz with hz | ⟨_, hz⟩ <;> (rw [h0] at hz; cases hz)
          refine ⟨a, p, vs, h1, hz, ?_, by rw [fe]; exact h3⟩
          rcases h2 with h2 | ⟨o, h2⟩
          · exact .inl (by rw [upd_ne ne]; exact h2)
          · exact .inr ⟨o, by rw [upd_ne ne]; exact h2⟩
      | ow x =>
        exact fun ⟨p, vs, h1, h2, h3, h4⟩ => ⟨p, vs, h1, h2, by rw [upd_ne (fun z => hA i (by rw [h1, z]))]; exact h3, by rw [fe]; exact h4⟩
      | lk x =>
        exact fun ⟨p, vs, h1, h2, h3, h4⟩ => ⟨p, vs, h1, h2, by rw [upd_ne (fun z => hA i (by rw [h1, z]))]; exact h3, by rw [fe]; exact h4⟩
      | od x =>
        exact fun ⟨p, vs, h1, h2, h3, h4⟩ => ⟨p, vs, h1, h2, by rw [upd_ne (fun z => hA i (by rw [h1, z]))]; exact h3, by rw [fe]; exact h4⟩
      | rdd x =>
        exact fun ⟨a, p, vs, h1, hz, h2, h3⟩ => by
          have ne : p ≠ D := fun z => by
            subst z
            rcases hz with hz | ⟨_, hz⟩ <;> (rw [h0] at hz; cases hz)
          refine ⟨a, p, vs, h1, hz, ?_, by rw [fe]; exact h3⟩
          rcases h2 with h2 | ⟨o, h2⟩
          · exact .inl (by rw [upd_ne ne]; exact h2)
          · exact .inr ⟨o, by rw [upd_ne ne]; exact h2⟩
  · obtain ⟨ps, h1, h2⟩ := r.tabs P hP
    exact ⟨ps, by rw [upd_ne (fun z => by subst z; rw [hD] at h1; cases h1)]; exact h1, h2⟩
theorem StW.mono (s : StW K H1 M1 L H M) (e : Ext H H') : StW K H1 M1 L H' M :=
  ⟨fun b hb => let ⟨o, h⟩ := s.dom b hb; e.dom b o h, s.ext.trans e.frz, fun p hp => e.rd rfl (s.keep p hp)⟩
theorem StW.updD (s : StW K H1 M1 L H M) (hM : M D) (hL : ∀ p ∈ L, p.1 ≠ D) : StW K H1 M1 L (upd H D (.lst ws)) M := by
  refine ⟨fun b hb => ?_, by rw [frz_upd hM]; exact s.ext, fun p hp => ?_⟩
  · by_cases z : b = D
    · subst z; exact ⟨_, upd_same⟩
    · obtain ⟨o, h⟩ := s.dom b hb
      exact ⟨o, by rw [upd_ne z]; exact h⟩
  · rcases s.keep p hp with h | ⟨o, h⟩
    · exact .inl (by rw [upd_ne (hL p hp)]; exact h)
    · exact .inr ⟨o, by rw [upd_ne (hL p hp)]; exact h⟩
theorem ext_updD {D : Addr} (e : Ext H1 H) (h1 : H1 D = Option.none) {o : HO} : Ext H1 (L2.upd H D o) := by
  refine ⟨fun b x hb tb => ?_, fun b x hb => ?_, fun b ⟨ps, hb, t⟩ => ?_⟩
  · rw [upd_ne (fun z => by subst z; rw [h1] at hb; cases hb)]; exact e.keep b x hb tb
  · rw [upd_ne (fun z => by subst z; rw [h1] at hb; cases hb)]; exact e.dom b x hb
  · obtain ⟨ps', h', t'⟩ := e.tb b ⟨ps, hb, t⟩
    exact ⟨ps', by rw [upd_ne (fun z => by subst z; rw [h1] at hb; cases hb)]; exact h', t'⟩
end
section
variable {K : Frag} {G : Gt} {Φ : Phi} {X : Cx}
theorem seLc2 {own : List (Str × Nat)} {t t2 : Tg} {it it2 : It} {ifs : Es} {e : E} (hsl : ∀ i ∈ t.slots, i ∈ own.map (·.2)) :
    ∀ σ H Q, (∃ H0 O A ρ r, Rel K H0 O A σ H ρ ∧ ev G Φ (.lc2 own t it t2 it2 ifs e) false ρ = some r ∧ ∀ v H', Ext H H' → Rv K (Ow O A) H H' v r → Q v H') → tLc2 (tI K G Φ it) (gOf K t) (tTs K G Φ .nil) (tI K G Φ it2) (gOf K t2) (tTs K G Φ ifs) (tE K G Φ e) (own.map (·.2)) t2.slots σ H Q := by
  intro σ H Q ⟨H0, O, A, ρ, r, rel, h, q⟩
  simp only [ev, fin] at h
  obtain ⟨xs, hxs, h⟩ := Option.bind_eq_some_iff.mp h
  obtain ⟨ρ0, hρ0, h⟩ := Option.bind_eq_some_iff.mp h
  obtain ⟨ys, hys, h⟩ := Option.bind_eq_some_iff.mp h
  split at h
  · rename_i hz
    cases h
    refine ⟨H0, O, A, ρ, xs, rel, hxs, fun J H1 Lst e1 l1 hkp wk D hD => ?_⟩
    have relw := (rel.mono e1).wiped hρ0
    have hn := szOk_le hz
    generalize hMM : (fun b => O b ∨ b = D) = O2
    have hO2 : O2 D := by subst hMM; exact .inr rfl
    have inD : ∀ b, Ow O2 A b ↔ (Ow O A b ∨ b = D) := by
      intro b
      subst hMM
      constructor
      · rintro ((z | z) | z)
        · exact .inl (.inl z)
        · exact .inr z
        · exact .inl (.inr z)
      · rintro ((z | z) | z)
        · exact .inl (.inl z)
        · exact .inr z
        · exact .inl (.inr z)
    have hMD : Ow O2 A D := .inl hO2
    have hA : ∀ i, A i ≠ some D := fun i z => by
      obtain ⟨o, h1, _⟩ := relw.lsts D (.inr ⟨i, z⟩)
      rw [hD] at h1; cases h1
    have h0D : H0 D = none := relw.ext.none hD
    refine ⟨fun k m H' => m = xs.length - k ∧ k ≤ xs.length ∧ Ext H1 H' ∧ ∃ acc zs rest, H' D = some (.lst acc) ∧ DqAll K (frz H' (Ow O2 A)) acc zs ∧
      lc2Run t ρ0 (fun ρ => evIt G Φ it2 ρ) t2.slots t2 (fun ρ => tvs G Φ ifs ρ) (fun ρ => ev G Φ e false ρ) (xs.drop k) = some rest ∧ zs ++ rest = ys,
      ⟨xs.length, by omega, Nat.zero_le _, Ext.upd hD, [], [], ys, upd_same, .nil, by rw [List.drop_zero]; exact hys, rfl⟩, ?_⟩
    rintro k m H' ⟨rfl, hk, ex, acc, zs, rest, hDl, hda, hrun, hcat⟩
    have relD : Rel K H0 O2 A (wipe σ (own.map (·.2))) H' ρ0 := by
      subst hMM
      exact relw.mask ex hD ⟨_, hDl, rfl⟩
    have stw : StW K H1 (Ow O A) Lst H' (Ow O2 A) := by
      refine ⟨relD.domO, ⟨fun b o hb tb => ?_, fun b o hb => ?_, fun b ⟨ps, hb, tt⟩ => ?_⟩, fun p hp => ex.rd rfl ((hkp p hp).rd (rel.ext.trans e1))⟩
      · obtain ⟨c, hb⟩ := frz_of hb
        refine frz_mk (fun z => ?_) (ex.keep b o hb tb)
        rcases (inD b).mp z with z | z
        · exact c z
        · subst z; rw [hD] at hb; cases hb
      · obtain ⟨c, hb⟩ := frz_of hb
        obtain ⟨o', hb'⟩ := ex.dom b o hb
        refine ⟨o', frz_mk (fun z => ?_) hb'⟩
        rcases (inD b).mp z with z | z
        · exact c z
        · subst z; rw [hD] at hb; cases hb
      · obtain ⟨c, hb⟩ := frz_of hb
        obtain ⟨ps', h', t'⟩ := ex.tb b ⟨ps, hb, tt⟩
        refine ⟨ps', frz_mk (fun z => ?_) h', t'⟩
        rcases (inD b).mp z with z | z
        · exact c z
        · subst z; rw [hD] at hb; cases hb
    by_cases hlt : k < xs.length
    · refine .inr ⟨wk.goes k H' _ hlt stw, fun H2 => ∃ acc zs rest, Ext H1 H2 ∧ H2 D = some (.lst acc) ∧ DqAll K (frz H2 (Ow O2 A)) acc zs ∧
        lc2Run t ρ0 (fun ρ => evIt G Φ it2 ρ) t2.slots t2 (fun ρ => tvs G Φ ifs ρ) (fun ρ => ev G Φ e false ρ) (xs.drop (k + 1)) = some rest ∧ zs ++ rest = ys, ?_, ?_⟩
      · rintro H2 ⟨acc, zs, rest, h1, h2, h4, h5, h6⟩
        exact ⟨xs.length - (k + 1), by omega, rfl, hlt, h1, acc, zs, rest, h2, h4, h5, h6⟩
      · intro v H2 yl
        obtain ⟨e2, d, hd, hdq⟩ := wk.yields k H' _ v H2 hlt stw yl
        have hx : xs.drop k = d :: xs.drop (k + 1) := by
          obtain ⟨hl, hg⟩ := List.getElem?_eq_some_iff.mp hd
          rw [List.drop_eq_getElem_cons hl, hg]
        rw [hx] at hrun
        simp only [lc2Run] at hrun
        obtain ⟨ρ1, hρ1, hrun⟩ := Option.bind_eq_some_iff.mp hrun
        obtain ⟨us, hus, hrun⟩ := Option.bind_eq_some_iff.mp hrun
        obtain ⟨ρ2, hρ2, hrun⟩ := Option.bind_eq_some_iff.mp hrun
        obtain ⟨z1, hz1, hrun⟩ := Option.bind_eq_some_iff.mp hrun
        obtain ⟨rest2, hrest2, rfl⟩ := Option.map_eq_some_iff.mp hrun
        have slotNo : ∀ {vs : List Nat} {τ0 τ1 : List Sl} {σa : L2.St} {Ha : Hp}, wipeS τ0 vs = some τ1 → Rel K H0 O2 A (wipe σa vs) Ha τ1 → ∀ j, j ∈ vs → A j = none := by
          intro vs τ0 τ1 σa Ha hw rl j hj
          obtain ⟨w1, w2, w3, w4⟩ := wipeS_get hw
          have s1 := rl.slot j
          by_cases hl : j < τ0.length
          · rw [w2 j hj hl] at s1
            exact s1
          · have : τ1[j]? = none := List.getElem?_eq_none (by omega)
            rw [this] at s1
            exact s1
        refine gGo (relD.mono e2) hρ1 hdq fun A' σ2 rel2 sub len2 same => ?_
        have hA' : A' = A := by
          funext j
          by_cases hj : j ∈ t.slots
          · have hAj := slotNo hρ0 relD j (hsl j hj)
            rcases sub j with z | z
            · exact z
            · rw [z, hAj]
          · exact (same j hj).1
        subst hA'
        have hw : wipe σ2 (own.map (·.2)) = wipe σ (own.map (·.2)) := by
          refine wipe_same ?_ fun j hj => (same j fun z => hj (hsl j z)).2
          rw [len2, wipe_length]
        refine ⟨hw, H0, O2, A', ρ1, true, rel2, rfl, fun H3 e3 l3 => ?_⟩
        dsimp only
        rw [if_pos rfl]
        refine ⟨H0, O2, A', ρ1, us, rel2.mono e3, hus, fun J1 H4 Lst1 e4 l4 hkp1 wk1 => ?_⟩
        have rel4 := ((rel2.mono e3).mono e4)
        have relI := rel4.wiped hρ2
        have ex4 : Ext H1 H4 := ((ex.trans e2).trans e3).trans e4
        have hD4 : H4 D = some (.lst acc) := e4.keep _ _ (e3.keep _ _ (e2.keep _ _ hDl rfl) rfl) rfl
        have hda4 := dpMonoAll ((e2.trans e3).trans e4).frz _ _ hda
        have hL1 : ∀ p ∈ Lst1, p.1 ≠ D := fun p hp z => by
          rcases hkp1 p hp with h | ⟨i, _, h, _⟩ | h
          · exact (frz_of h).1 (by rw [z]; exact hMD)
          · exact hA i (by rw [h, z])
          · rcases h with h | ⟨_, h⟩ <;> (rw [z, h0D] at h; cases h)
        have st4 : StW K H4 (Ow O2 A') Lst1 H4 (Ow O2 A') := ⟨rel4.domO, Ext.refl _, fun p hp => (hkp1 p hp).rd (rel4.ext)⟩
        refine ⟨fun j k' Ha => k' = us.length - j ∧ j ≤ us.length ∧ Ext H1 Ha ∧ Rel K H0 O2 A' (wipe σ2 t2.slots) Ha ρ2 ∧ StW K H4 (Ow O2 A') Lst1 Ha (Ow O2 A') ∧ ∃ acc zs rest1, Ha D = some (.lst acc) ∧ DqAll K (frz Ha (Ow O2 A')) acc zs ∧
          lcRun t2 ρ2 (fun ρ => tvs G Φ ifs ρ) (fun ρ => ev G Φ e false ρ) (us.drop j) = some rest1 ∧ zs ++ (rest1 ++ rest2) = ys,
          ⟨us.length, by omega, Nat.zero_le _, ex4, relI, st4, acc, zs, z1, hD4, hda4, by rw [List.drop_zero]; exact hz1, hcat⟩, ?_⟩
        rintro j k' Ha ⟨rfl, hj, exa, rela, sta, acca, zsa, resta, hDa, hdaa, hruna, hcata⟩
        by_cases hlt1 : j < us.length
        · refine .inr ⟨wk1.goes j Ha _ hlt1 sta, fun Hb => Ext H1 Hb ∧ Rel K H0 O2 A' (wipe σ2 t2.slots) Hb ρ2 ∧ StW K H4 (Ow O2 A') Lst1 Hb (Ow O2 A') ∧ ∃ acc zs rest1, Hb D = some (.lst acc) ∧ DqAll K (frz Hb (Ow O2 A')) acc zs ∧
            lcRun t2 ρ2 (fun ρ => tvs G Φ ifs ρ) (fun ρ => ev G Φ e false ρ) (us.drop (j + 1)) = some rest1 ∧ zs ++ (rest1 ++ rest2) = ys, ?_, ?_⟩
          · rintro Hb ⟨h1, h2, h3, acc, zs, rest1, h4, h5, h6, h7⟩
            exact ⟨us.length - (j + 1), by omega, rfl, hlt1, h1, h2, h3, acc, zs, rest1, h4, h5, h6, h7⟩
          · intro v1 Hb yl1
            obtain ⟨eb, d1, hd1, hdq1⟩ := wk1.yields j Ha _ v1 Hb hlt1 sta yl1
            have hx1 : us.drop j = d1 :: us.drop (j + 1) := by
              obtain ⟨hl, hg⟩ := List.getElem?_eq_some_iff.mp hd1
              rw [List.drop_eq_getElem_cons hl, hg]
            rw [hx1] at hruna
            simp only [lcRun] at hruna
            obtain ⟨ρ3, hρ3, hruna⟩ := Option.bind_eq_some_iff.mp hruna
            obtain ⟨b, hb, hruna⟩ := Option.bind_eq_some_iff.mp hruna
            refine gGo (rela.mono eb) hρ3 hdq1 fun A3 σ3 rel3 sub3 len3 same3 => ?_
            have hA3 : A3 = A' := by
              funext i
              by_cases hi : i ∈ t2.slots
              · have hAi := slotNo hρ2 rela i hi
                rcases sub3 i with z | z
                · exact z
                · rw [z, hAi]
              · exact (same3 i hi).1
            subst hA3
            have hw3 : wipe σ3 t2.slots = wipe σ2 t2.slots := by
              refine wipe_same ?_ fun i hi => (same3 i hi).2
              rw [len3, wipe_length]
            refine ⟨hw3, H0, O2, A3, ρ3, b, rel3, hb, fun H6 e6 l6 => ?_⟩
            have hD6 : H6 D = some (.lst acca) := e6.keep _ _ (eb.keep _ _ hDa rfl) rfl
            have hda6 := dpMonoAll (eb.trans e6).frz _ _ hdaa
            cases b with
            | false =>
              dsimp only
              rw [if_neg Bool.false_ne_true]
              exact ⟨(exa.trans eb).trans e6, (rela.mono eb).mono e6, (sta.mono eb).mono e6, acca, zsa, resta, hD6, hda6, hruna, hcata⟩
            | true =>
              dsimp only
              rw [if_pos rfl]
              obtain ⟨r1, hr1, hruna⟩ := Option.bind_eq_some_iff.mp hruna
              obtain ⟨y, hy, hruna⟩ := Option.bind_eq_some_iff.mp hruna
              obtain ⟨rest', hrest, rfl⟩ := Option.map_eq_some_iff.mp hruna
              refine tE.go (rel3.mono e6) hr1 fun u H7 e7 l7 rel7 rv => ?_
              have hD7 : H7 D = some (.lst acca) := e7.keep _ _ hD6 rfl
              have hlen : acca.length < sizeLine := by
                rw [DqAll.len hdaa]
                have := congrArg List.length hcata
                simp only [List.length_append, List.length_cons] at this
                omega
              have relB : Rel K H0 O2 A3 (wipe σ2 t2.slots) H7 ρ2 := ((rela.mono eb).mono e6).mono e7
              refine ⟨acca, hD7, hlen, ext_updD (((exa.trans eb).trans e6).trans e7) hD, relB.updD hO2 h0D hA hD7, (((sta.mono eb).mono e6).mono e7).updD hMD hL1, acca ++ [u], zsa ++ [y], rest', upd_same, ?_, hrest, by rw [← hcata]; simp⟩
              rw [frz_upd hMD]
              refine DqAll.snoc (dpMonoAll e7.frz _ _ hda6) ?_
              exact rv.share (fun b z => let ⟨o, z1, _⟩ := (rel3.mono e6).lsts b z; ⟨o, z1⟩) hy
        · have ej : j = us.length := by omega
          subst ej
          rw [List.drop_length] at hruna
          simp only [lcRun] at hruna
          cases hruna
          rw [List.nil_append] at hcata
          exact .inl ⟨wk1.stops Ha _ sta, acca, zsa, rest2, exa, hDa, hdaa, hrest2, hcata⟩
    · have ek : k = xs.length := by omega
      subst ek
      rw [List.drop_length] at hrun
      simp only [lc2Run] at hrun
      cases hrun
      rw [List.append_nil] at hcat
      subst hcat
      refine .inl ⟨wk.stops H' _ stw, q _ H' (e1.trans ex) ⟨D, acc, rfl, e1.none hD, hDl, dpMonoAll (frz_sub fun b o _ z => (inD b).mpr z) _ _ hda⟩⟩
  · cases h
end
end WM

/-! ## part X: all and any of a generator expression -/
namespace WM
open PySem PySem.Spec PyProof.Rows L2 GenW

abbrev gxEnv (X : Cx) (scope : Scope) (C : Addr) (code : Value) : Env := genEnv scope (cloFrom X.env.cells scope.names []) C code builtinsNs X.env
/-- the context of a generator expression's frame -/
abbrev gxCx (X : Cx) (s : Shared) (H : Hp) (A : Around) (cenv : Env) (fp : List Addr) (pn : List (Addr × Obj)) : Cx :=
  { X with A := A, s_0 := s, H_0 := H, env := cenv, outer := X.stack, stack := cenv :: X.stack, ex := fp, fn := fun _ => false, pn := pn, xe := fun _ _ => False }
section
variable {X : Cx} {pins : List (Addr × Obj)} {σ : L2.St} {H : Hp} {s : Shared}
theorem gx_start {scope : Scope} {own : List (Str × Nat)} {fp : List Addr} {A : Around} {code : Value} {s5 : Shared} {a : Addr} {go : Obj} (I : Inv X pins σ H s) (ok : BlkOk X.N X.env.scope scope own) (hN : X.N.Nodup) (hnc : ∀ y ∈ scope.names, y.2 ≠ .cell)
    (hfp : ∀ b ∈ fp, FpOk X pins H b ∧ b < s.heap.objs.size) (hA : A.frames = some (gxEnv X scope s.heap.objs.size code :: X.stack)) (hh : X.calm = true → A.handled = none)
    (kp : ∀ b o, s.heap.get? b = some o → s5.heap.get? b = some o) (hos : s5.os = s.os) (hb : AllBare s5.gens) (hns : ∃ m, s5.heap.Ns s.heap.objs.size m)
    (ha : s.heap.objs.size < a) (hgo : s5.heap.get? a = some go) (hgd : ∀ v, go.data ≠ .cell v) :
    Inv (gxCx X s H A (gxEnv X scope s.heap.objs.size code) fp [(a, go)]) [] (wipe σ (own.map (·.2))) H s5 := by
  have hfree : ∀ y ∈ scope.names, y.2 = .free → ∃ c, X.env.cells.lookup y.1 = some c := fun y hy e => by
    rcases ok.free y hy e with k | k
    · exact I.ok.has _ (.inl k)
    · exact I.ok.has _ (.inr k)
  generalize hcenv : gxEnv X scope s.heap.objs.size code = cenv at hA ⊢
  have hL : cenv.locals = s.heap.objs.size := by rw [← hcenv]; rfl
  have hcl : cenv.cells = cloFrom X.env.cells scope.names [] := by rw [← hcenv]; rfl
  have hsc : cenv.scope = scope := by rw [← hcenv]; rfl
  have cm : ∀ {y c}, (y, c) ∈ cloFrom X.env.cells scope.names [] → X.env.cells.lookup y = some c ∧ c < s.heap.objs.size := fun {y c} hm => by
    rcases cloFrom_mem hm with hm | ⟨h1, rfl⟩
    · cases hm
    · obtain ⟨c, hc⟩ := hfree _ h1 rfl
      rw [hc]
      obtain ⟨w, z⟩ := I.cell _ _ hc
      exact ⟨rfl, z.lt⟩
  have mem : ∀ {y c}, cenv.cells.lookup y = some c → X.env.cells.lookup y = some c ∧ c < s.heap.objs.size := fun {y c} e => by
    rw [hcl] at e
    exact cm (PySem.mem_of_lookup e)
  have look : ∀ {y}, scope.names.lookup y = some .free → ∃ c, cenv.cells.lookup y = some c ∧ X.env.cells.lookup y = some c := fun {y} hl => by
    have hy : (y, NameKind.free) ∈ scope.names := PySem.mem_of_lookup hl
    obtain ⟨c', e'⟩ := mem_lookup (cloFrom_has (cells := X.env.cells) (acc := []) hy)
    rw [← hcl] at e'
    exact ⟨c', e', (mem e').1⟩
  have kinds : ∀ {y k}, cenv.kindOf y = some k → scope.names.lookup y = some k := fun {y k} h => by
    unfold Env.kindOf at h
    rw [hsc] at h
    exact h
  have okB : (gxCx X s H A cenv fp [(a, go)]).Ok := by
    refine ⟨I.ok.mod, by show cenv.scope.kind = _; rw [hsc]; exact ok.kind, by show cenv.globals = _; rw [← hcenv]; exact I.ok.glob, by show cenv.builtins = _; rw [← hcenv]; rfl, by show s.heap.objs.size ≤ cenv.locals; rw [hL]; exact Nat.le_refl _,
      fun y z c e1 e2 => I.ok.inj y z c (mem e1).1 (mem e2).1, fun y hy => ?_, fun y c z e => ?_, hh, hA, .inr ⟨rfl, by show cenv.frame = some cenv.locals; rw [← hcenv]; rfl⟩, fun b hb => ⟨?_, fun y c e z => (hfp b hb).1.2.2.2.2.1 y c (mem e).1 z⟩, I.bs, Nat.le_trans I.ok.bsz I.sz, fun b o e hb => ?_, fun b hb z => ?_, I.stack, I.stkFree⟩
    · show ∃ c, cenv.cells.lookup y = some c
      rcases hy with hy | hy
      · exact absurd rfl (hnc _ (PySem.mem_of_lookup (kinds hy)))
      · obtain ⟨c, h1, _⟩ := look (kinds hy)
        exact ⟨c, h1⟩
    · exact absurd (show false = true from z) Bool.false_ne_true
    · show b ≠ cenv.locals
      rw [hL]; exact Nat.ne_of_lt (hfp b hb).2
    · rcases (hfp b hb).1.2.2.2.1 with z | z
      · exact I.ok.noex b o e z
      · exact absurd (Nat.lt_of_lt_of_le (Heap.lt_size e) (Nat.le_trans I.ok.bsz z)) (Nat.lt_irrefl _)
    · rcases List.mem_cons.mp (I.stkSub b z) with z | z
      · exact (hfp b hb).1.2.1 z
      · exact (hfp b hb).1.2.2.1 z
  obtain ⟨m5, hn5⟩ := hns
  refine ⟨okB, hos, hb, Un.kept kp, ⟨m5, by show Heap.Ns _ cenv.locals _; rw [hL]; exact hn5, fun i y av e1 e2 e3 => ?_⟩, fun y c e => ?_, ?_, fun y c e => I.freeC y c (mem e).1, fun p hp => ?_, I.hok.kept kp, by rw [wipe_length]; exact I.len⟩
  · obtain ⟨e2, hne⟩ := wipe_some e2
    have e3 : Vis cenv.scope y := e3
    rw [hsc] at e3
    have hfr : scope.names.lookup y = some .free := by
      have no : ∀ k, scope.names.lookup y = some k → ¬ (k = .local ∨ k = .cell) := fun k e hh => by
        rcases ok.own _ (PySem.mem_of_lookup e) hh with e' | e'
        · obtain ⟨p, hp, hpy⟩ := List.mem_map.mp e'
          have e3 := ok.ix p hp
          have : p.1 = y := hpy
          rw [this] at e3
          exact hne (List.mem_map.mpr ⟨p, hp, nodup_ix hN e3 e1⟩)
        · exact e' (List.mem_of_getElem? e1)
      rcases e3 with e3 | e3 | e3
      · exact absurd (.inl rfl) (no _ e3)
      · exact absurd (.inr rfl) (no _ e3)
      · exact e3
    obtain ⟨m, hn, hl⟩ := I.loc
    have hvis : Vis X.env.scope y := (ok.free _ (PySem.mem_of_lookup hfr) rfl).elim (fun k => .inr (.inl k)) (fun k => .inr (.inr k))
    obtain ⟨w, r, q⟩ := hl i y av e1 e2 hvis
    obtain ⟨c, h1, h2⟩ := look hfr
    refine ⟨w, r, .inr ⟨.inr (by unfold Env.kindOf; show cenv.scope.names.lookup y = _; rw [hsc]; exact hfr), ?_⟩⟩
    rcases q with ⟨k, _⟩ | ⟨_, c', e', z⟩
    · have k : X.env.scope.names.lookup y = some .local := k
      rcases ok.free _ (PySem.mem_of_lookup hfr) rfl with k' | k' <;> rw [show X.env.scope.names.lookup y = _ from k'] at k <;> cases k
    · rw [h2] at e'; cases e'
      exact ⟨c, h1, z.keeps kp⟩
  · obtain ⟨w, z⟩ := I.cell y c (mem e).1
    exact ⟨w, z.keeps kp⟩
  · show H cenv.locals = none
    rw [hL]; exact I.hok.fresh (Nat.le_refl _)
  · have hp : p ∈ [(a, go)] ++ ([] : List (Addr × Obj)) := hp
    rw [List.append_nil, List.mem_singleton] at hp
    subst hp
    refine ⟨hgo, I.hok.fresh (Nat.le_of_lt ha), ?_, fun z => ?_, hgd⟩
    · show a ≠ cenv.locals
      rw [hL]; exact Nat.ne_of_gt ha
    · rcases List.mem_cons.mp (I.stkSub a z) with z | z
      · have := I.lt
        rw [← z] at this
        exact absurd (Nat.lt_trans ha this) (Nat.lt_irrefl _)
      · exact absurd z (I.nofs (Nat.le_of_lt ha))
/-- what is wanted of the turns: W by the turn and a measure -/
def GxTurns (J : L2.It) (g : TG) (tt : TT) (te : TE) (σ : L2.St) (vs : List Nat) (stop : Bool) (Q : VK) (W : Nat → Nat → Hp → Prop) : Prop := ∀ i m H, W i m H →
  (J.stop i H ∧ Q (.bl (!stop)) H) ∨ (J.go i H ∧ ∃ Nx : Hp → Prop, (∀ H', Nx H' → ∃ m', m' < m ∧ W (i + 1) m' H') ∧ ∀ x H', J.yld i H x H' → g x (wipe σ vs) H' fun σ2 H2 => wipe σ2 vs = wipe σ vs ∧ tt σ2 H2 fun b H3 =>
    if b = true then te σ2 H3 fun y H4 => ∃ k, y = .bl k ∧ (if k = stop then Q (.bl stop) H4 else Nx H4) else Nx H3)
/-- an item goes out -/
def GxY (X : Cx) (pins : List (Addr × Obj)) (σ : L2.St) (stop : Bool) (Q : VK) (a : Addr) (g : Nat) : Protocol := fun n s₀ v s kap =>
  ∃ k H', v = .bool k ∧ Inv X pins σ H' s ∧ s.heap.IsGen a g ∧ (k = stop → Q (.bl stop) H') ∧ (k ≠ stop → ∀ s' : Shared, s'.os = s.os → AllBare s'.gens → (∀ b o, s.heap.get? b = some o → s'.heap.get? b = some o) → kap (.send .none) s')
def GxE (X : Cx) (pins : List (Addr × Obj)) (σ : L2.St) (stop : Bool) (Q : VK) : Nat → Shared → Shared → Prop := fun n s₀ s => ∃ H', Inv X pins σ H' s ∧ Q (.bl (!stop)) H'
theorem gx_loop {scope : Scope} {own : List (Str × Nat)} {fp : List Addr} {B : Around} {elt tg iter : Expr} {ifs : List Expr} {gpos : Pos} {it a : Addr} {gn : Nat} {go : Obj} {tn : Nat → Heap → Prop} {J : L2.It} {g : TG} {tt : TT} {te : TE} {stop : Bool} {Q : VK} {W : Nat → Nat → Hp → Prop} {cenv : Env} {AG : Around}
    (hc : X.calm = true) (I : Inv X pins σ H s) (hfp : ∀ b ∈ fp, FpOk X pins H b ∧ b < s.heap.objs.size) (T : Turn X.prog X.w X.K tg J fp it tn)
    (hco : cenv.scope.isCoroutine = false) (hAG : B.over (.compLoop (.GeneratorExp elt [⟨tg, iter, ifs, 0⟩] scope gpos) 0 (.ref it) .none cenv) [] = AG)
    (hgen : ∀ h : Heap, h.get? a = some go → h.IsGen a gn) (ha : s.heap.objs.size < a)
    (pg : PG (gxCx X s H AG cenv fp [(a, go)]) tg g) (pt : PTs (gxCx X s H AG cenv fp [(a, go)]) ifs tt) (pe : PE (gxCx X s H AG cenv fp [(a, go)]) elt te)
    (turn : GxTurns J g tt te σ (own.map (·.2)) stop Q W) :
    ∀ (m n i : Nat) (s₀ s' : Shared) (H' : Hp), m < n → W i m H' → Inv (gxCx X s H AG cenv fp [(a, go)]) [] (wipe σ (own.map (·.2))) H' s' → tn i s'.heap → (∀ b ∈ fp, H' b = none) →
      Seg (model X.prog X.w) B (fun n s₀ r s₁ => r = .ok .next ∧ GxE X pins σ stop Q n s₀ s₁) (GxY X pins σ stop Q a gn) n s₀ (.compLoop (.GeneratorExp elt [⟨tg, iter, ifs, 0⟩] scope gpos) 0 (.ref it) .none cenv)
        ((model X.prog X.w).den (.compLoop (.GeneratorExp elt [⟨tg, iter, ifs, 0⟩] scope gpos) 0 (.ref it) .none cenv)) [] s' := by
  have stat : ∀ {σ' : L2.St} {H' : Hp} {s' : Shared}, Inv (gxCx X s H AG cenv fp [(a, go)]) [] σ' H' s' → (∀ b ∈ fp, H' b = none) → ∀ b ∈ fp, FpOk (gxCx X s H AG cenv fp [(a, go)]) [] H' b := fun {σ' H' s'} I' hn b hb => by
    refine ⟨hn b hb, (I'.ok.exf b hb).1, I'.ok.exfs b hb, .inl hb, fun x c e => (I'.ok.exf b hb).2 x c e, fun p hp => ?_⟩
    have hp : p ∈ [(a, go)] ++ ([] : List (Addr × Obj)) := hp
    rw [List.append_nil, List.mem_singleton] at hp
    subst hp
    intro e
    have h1 := (hfp b hb).2
    have e : a = b := e
    rw [← e] at h1
    exact absurd (Nat.lt_trans ha h1) (Nat.lt_irrefl _)
  have back : ∀ {pl : List (Addr × Obj)} {σ' : L2.St} {H' : Hp} {s' : Shared}, Inv (gxCx X s H AG cenv fp [(a, go)]) pl σ' H' s' → Inv X pins σ H' s' ∧ s'.heap.IsGen a gn := fun {pl σ' H' s'} I' => by
    refine ⟨I.call' (ch := fp) I'.os I'.base I'.hok I'.bare fun b hb => ⟨(hfp b hb).1.2.2.2.1, (hfp b hb).1.2.1, (hfp b hb).1.2.2.2.2.1, (hfp b hb).1.2.2.2.2.2⟩, ?_⟩
    exact hgen _ (I'.pin (a, go) (List.mem_append_left _ (List.mem_singleton.mpr rfl))).1
  intro m
  induction m using Nat.strongRecOn with
  | ind m ih =>
    intro n i s₀ s5 H5 hmn w5 I5 st5 n5
    have hy : ∀ v, yieldOut cenv v = yieldValue v := fun v => by simp only [yieldOut, hco, Bool.false_eq_true, if_false]
    show Seg _ B _ _ n s₀ _ ((compTurn (.GeneratorExp elt [⟨tg, iter, ifs, 0⟩] scope gpos) 0 (.ref it) .none cenv).onRaise (leaving cenv)) [] s5
    rw [compTurn_gen, Sem.onRaise_eq_wrap]
    refine seg_bind_wrap (wpAny_standAt ?_)
    rcases turn i m H5 w5 with ⟨stp, qq⟩ | ⟨gg, Nx, hNx, step⟩
    · refine seg_bind_wrap ?_
      rw [hAG]
      have td := T.done (gxCx X s H AG cenv fp [(a, go)]) rfl rfl rfl hc i [] s5 _ H5 (fun _ _ => False) I5 (stat I5 n5) st5 stp
      refine thnF td fun r s6 ⟨hr, I6⟩ => ?_
      subst hr
      obtain ⟨J6, g6⟩ := back I6
      exact seg_end (.ok .next) ⟨rfl, H5, J6, qq⟩
    · refine seg_bind_wrap ?_
      rw [hAG]
      have ti := T.item (gxCx X s H AG cenv fp [(a, go)]) rfl rfl rfl hc i [] s5 _ H5 (fun _ _ => False) I5 (stat I5 n5) st5 gg
      refine thnF ti fun r s6 ⟨u, hr, h6⟩ => ?_
      subst hr
      refine seg_bind_wrap ?_
      rw [hAG]
      refine thnF h6 fun _ s7 ⟨x, H7, I7, r7, y7, st7, n7⟩ => ?_
      have I7' := I7.pinned (stat I7 n7) (T.obj _ _ st7)
      refine seg_bind_wrap ?_
      rw [hAG]
      refine thnF (pg.run _ s7 _ H7 x u _ I7' r7 (step x H7 y7)) fun _ s8 ⟨σ8, H8, I8, hw8, q8⟩ => ?_
      refine seg_bind_wrap ?_
      rw [hAG]
      refine thnF (pt.run _ s8 σ8 H8 _ I8 q8) fun b s9 ⟨H9, I9, q9⟩ => ?_
      have fin : ∀ {s' s'' : Shared} {H' : Hp}, Inv (gxCx X s H AG cenv fp [(a, go)]) ([] ++ pinsAt fp s7.heap) σ8 H' s' → Nx H' → s''.os = s'.os → AllBare s''.gens → (∀ b o, s'.heap.get? b = some o → s''.heap.get? b = some o) →
          ∃ m', m' < m ∧ Inv (gxCx X s H AG cenv fp [(a, go)]) [] (wipe σ (own.map (·.2))) H' s'' ∧ tn (i + 1) s''.heap ∧ (∀ b ∈ fp, H' b = none) ∧ W (i + 1) m' H' := fun {s' s'' H'} I' nx ho hb hk => by
        obtain ⟨m', hm, w'⟩ := hNx H' nx
        have pin' : ∀ b ∈ fp, ∀ o, s7.heap.get? b = some o → s'.heap.get? b = some o ∧ H' b = none := fun b hb o e =>
          let z := I'.pin (b, o) (List.mem_append_right _ (List.mem_append_right _ (mem_pinsAt hb e)))
          ⟨z.1, z.2.1⟩
        have hl : (wipe σ (own.map (·.2))).length = σ8.length := by rw [← hw8, wipe_length]
        have I2 : Inv (gxCx X s H AG cenv fp [(a, go)]) ([] ++ pinsAt fp s7.heap) σ8 H' s'' := I'.call' (ch := []) ho (Un.kept hk) (I'.hok.kept hk) hb fun b z => by simp at z
        refine ⟨m', hm, (I2.unpinned (pins := [])).weak hl (fun j v e => ?_), T.keep _ _ _ st7 fun b hb o e => hk b o (pin' b hb o e).1, fun b hb => ?_, w'⟩
        · rw [← hw8] at e
          exact (wipe_some e).1
        · obtain ⟨o, e, _⟩ := T.obj _ _ st7 b hb
          exact (pin' b hb o e).2
      cases b with
      | false =>
        simp only [Bool.false_eq_true, if_false] at q9 ⊢
        obtain ⟨m', hm, I', st', n', w'⟩ := fin I9 q9 rfl I9.bare (fun _ _ e => e)
        exact seg_again rfl (ih m' hm n (i + 1) s₀ _ H9 (by omega) w' I' st' n')
      | true =>
        simp only [if_true] at q9 ⊢
        simp only [hy]
        rw [Sem.bind_eq_wrap', Sem.bind_eq_wrap', Sem.wrap_wrap, Sem.wrap_wrap]
        refine seg_wrap ?_
        rw [hAG]
        refine thnF (pe.run _ s9 σ8 H9 _ I9 q9) fun z s10 ⟨yv, H10, I10, r10, k, hk, nx⟩ => ?_
        subst hk
        obtain rfl : z = Value.bool k := r10
        obtain ⟨J10, g10⟩ := back I10
        obtain ⟨n', rfl⟩ : ∃ n', n = n' + 1 := ⟨n - 1, by omega⟩
        refine seg_at (seg_yield rfl rfl rfl ⟨k, H10, rfl, J10, g10, fun e => ?_, fun e s11 ho hb hkp => ?_⟩)
        · rw [if_pos e] at nx; exact nx
        · rw [if_neg e] at nx
          obtain ⟨m', hm, I', st', n'', w'⟩ := fin I10 nx ho hb hkp
          exact seg_again rfl (ih m' hm n' (i + 1) s11 _ H10 (by omega) w' I' st' n'')
/-- the loop of all -/
theorem gx_all_loop {A1 : Around} {a : Addr} {gn : Nat} {Q : VK} {R : Result → Shared → Prop} (hh : A1.handled = none) (hroom : A1.depth < recursionLimit)
    (hR : ∀ k s' H', Inv X pins σ H' s' → Q (.bl k) H' → R (.ok (.ret (.bool k))) s') :
    ∀ (n : Nat) (s : Shared) (H' : Hp), Inv X pins σ H' s → s.heap.IsGen a gn → (∃ gs, s.gens[gn]? = some gs ∧ gs.Goes (model X.prog X.w) A1.in1.in1 (fun n s₀ r s₁ => r = .ok .next ∧ GxE X pins σ false Q n s₀ s₁) (GxY X pins σ false Q a gn) n (.send .none) (s.setGen gn .running)) →
      codeAny (model X.prog X.w) A1 (.builtin "all.loop" ⟨[.ref a], []⟩) R s := by
  have free : ∀ {s : Shared} {H' : Hp} {x : GenState}, Inv X pins σ H' s → x.bare = true → Inv X pins σ H' (s.setGen gn x) := fun {s H' x} I hx =>
    I.call' (ch := []) rfl (Un.kept fun _ _ e => e) I.hok (allBare_setGen I.bare hx) fun b z => by simp at z
  intro n
  induction n with
  | zero =>
    intro s H' I hg ⟨gs, hgs, hgo⟩
    refine codeAny_builtin F.entry_all_loop ?_
    rw [Around.under_plainId F.plain_all_loop _]
    show wpAny _ A1.in1 (pyNext (.ref a) >>= _) _ _ s
    refine wpAny_bind (wpAny_gsz (n := s.gens.size) (Nat.le_refl _) (wpAny_pyNext_genexpQ (A := A1.in1) hh I.nolimit hroom hg hgs hgo (fun v s₁ gs' hb hY hsz => ?_) fun s₁ hP h' hk hsz => ?_))
    · obtain ⟨k, H1, rfl, I1, g1, q1, z⟩ := hY
      refine wpAny_bind (wpAny_holding (wpAny_truthy_bool ?_))
      refine wpAny_bind (wpAny_letGo ?_)
      by_cases hks : k = false
      · subst hks
        simp only [Bool.false_eq_true, if_false, if_true]
        refine wpAny_bind (wpAny_rule (wpAny_pure ?_))
        exact hR _ _ H1 (free I1 hb) (q1 rfl)
      · exact (z hks s₁ rfl I1.bare (fun _ _ e => e)).elim
    · obtain ⟨H1, I1, q1⟩ := hP
      refine wpAny_bind (wpAny_rule (wpAny_pure ?_))
      have I2 := free (x := .finished) I1 rfl
      exact hR _ _ H1 (I2.kept (t' := s₁.toks) hk) q1
  | succ n ih =>
    intro s H' I hg ⟨gs, hgs, hgo⟩
    refine codeAny_builtin F.entry_all_loop ?_
    rw [Around.under_plainId F.plain_all_loop _]
    show wpAny _ A1.in1 (pyNext (.ref a) >>= _) _ _ s
    refine wpAny_bind (wpAny_gsz (n := s.gens.size) (Nat.le_refl _) (wpAny_pyNext_genexpQ (A := A1.in1) hh I.nolimit hroom hg hgs hgo (fun v s₁ gs' hb hY hsz => ?_) fun s₁ hP h' hk hsz => ?_))
    · obtain ⟨k, H1, rfl, I1, g1, q1, z⟩ := hY
      refine wpAny_bind (wpAny_holding (wpAny_truthy_bool ?_))
      refine wpAny_bind (wpAny_letGo ?_)
      by_cases hks : k = false
      · subst hks
        simp only [Bool.false_eq_true, if_false, if_true]
        refine wpAny_bind (wpAny_rule (wpAny_pure ?_))
        exact hR _ _ H1 (free I1 hb) (q1 rfl)
      · have hk2 : k = !false := by cases k <;> simp_all
        subst hk2
        simp only [Bool.not_false, Bool.not_true, Bool.false_eq_true, if_false, if_true]
        have I2 := free I1 hb
        refine wpAny_pure ⟨plainId_quiet F.plain_all_loop _, ih _ H1 I2 g1 ⟨gs', ?_, ?_⟩⟩
        · refine setGen_at ?_
          rw [setGen_size] at hsz
          exact Nat.lt_of_lt_of_le (Array.getElem?_eq_some_iff.mp hgs).1 hsz
        · exact z hks _ rfl (allBare_setGen I2.bare rfl) (fun _ _ e => e)
    · obtain ⟨H1, I1, q1⟩ := hP
      refine wpAny_bind (wpAny_rule (wpAny_pure ?_))
      have I2 := free (x := .finished) I1 rfl
      exact hR _ _ H1 (I2.kept (t' := s₁.toks) hk) q1
/-- the loop of any -/
theorem gx_any_loop {A1 : Around} {a : Addr} {gn : Nat} {Q : VK} {R : Result → Shared → Prop} (hh : A1.handled = none) (hroom : A1.depth < recursionLimit)
    (hR : ∀ k s' H', Inv X pins σ H' s' → Q (.bl k) H' → R (.ok (.ret (.bool k))) s') :
    ∀ (n : Nat) (s : Shared) (H' : Hp), Inv X pins σ H' s → s.heap.IsGen a gn → (∃ gs, s.gens[gn]? = some gs ∧ gs.Goes (model X.prog X.w) A1.in1.in1 (fun n s₀ r s₁ => r = .ok .next ∧ GxE X pins σ true Q n s₀ s₁) (GxY X pins σ true Q a gn) n (.send .none) (s.setGen gn .running)) →
      codeAny (model X.prog X.w) A1 (.builtin "any.loop" ⟨[.ref a], []⟩) R s := by
  have free : ∀ {s : Shared} {H' : Hp} {x : GenState}, Inv X pins σ H' s → x.bare = true → Inv X pins σ H' (s.setGen gn x) := fun {s H' x} I hx =>
    I.call' (ch := []) rfl (Un.kept fun _ _ e => e) I.hok (allBare_setGen I.bare hx) fun b z => by simp at z
  intro n
  induction n with
  | zero =>
    intro s H' I hg ⟨gs, hgs, hgo⟩
    refine codeAny_builtin F.entry_any_loop ?_
    rw [Around.under_plainId F.plain_any_loop _]
    show wpAny _ A1.in1 (pyNext (.ref a) >>= _) _ _ s
    refine wpAny_bind (wpAny_gsz (n := s.gens.size) (Nat.le_refl _) (wpAny_pyNext_genexpQ (A := A1.in1) hh I.nolimit hroom hg hgs hgo (fun v s₁ gs' hb hY hsz => ?_) fun s₁ hP h' hk hsz => ?_))
    · obtain ⟨k, H1, rfl, I1, g1, q1, z⟩ := hY
      refine wpAny_bind (wpAny_holding (wpAny_truthy_bool ?_))
      refine wpAny_bind (wpAny_letGo ?_)
      by_cases hks : k = true
      · subst hks
        simp only [Bool.false_eq_true, if_false, if_true]
        refine wpAny_bind (wpAny_rule (wpAny_pure ?_))
        exact hR _ _ H1 (free I1 hb) (q1 rfl)
      · exact (z hks s₁ rfl I1.bare (fun _ _ e => e)).elim
    · obtain ⟨H1, I1, q1⟩ := hP
      refine wpAny_bind (wpAny_rule (wpAny_pure ?_))
      have I2 := free (x := .finished) I1 rfl
      exact hR _ _ H1 (I2.kept (t' := s₁.toks) hk) q1
  | succ n ih =>
    intro s H' I hg ⟨gs, hgs, hgo⟩
    refine codeAny_builtin F.entry_any_loop ?_
    rw [Around.under_plainId F.plain_any_loop _]
    show wpAny _ A1.in1 (pyNext (.ref a) >>= _) _ _ s
    refine wpAny_bind (wpAny_gsz (n := s.gens.size) (Nat.le_refl _) (wpAny_pyNext_genexpQ (A := A1.in1) hh I.nolimit hroom hg hgs hgo (fun v s₁ gs' hb hY hsz => ?_) fun s₁ hP h' hk hsz => ?_))
    · obtain ⟨k, H1, rfl, I1, g1, q1, z⟩ := hY
      refine wpAny_bind (wpAny_holding (wpAny_truthy_bool ?_))
      refine wpAny_bind (wpAny_letGo ?_)
      by_cases hks : k = true
      · subst hks
        simp only [Bool.false_eq_true, if_false, if_true]
        refine wpAny_bind (wpAny_rule (wpAny_pure ?_))
        exact hR _ _ H1 (free I1 hb) (q1 rfl)
      · have hk2 : k = !true := by cases k <;> simp_all
        subst hk2
        simp only [Bool.not_false, Bool.not_true, Bool.false_eq_true, if_false, if_true]
        have I2 := free I1 hb
        refine wpAny_pure ⟨plainId_quiet F.plain_any_loop _, ih _ H1 I2 g1 ⟨gs', ?_, ?_⟩⟩
        · refine setGen_at ?_
          rw [setGen_size] at hsz
          exact Nat.lt_of_lt_of_le (Array.getElem?_eq_some_iff.mp hgs).1 hsz
        · exact z hks _ rfl (allBare_setGen I2.bare rfl) (fun _ _ e => e)
    · obtain ⟨H1, I1, q1⟩ := hP
      refine wpAny_bind (wpAny_rule (wpAny_pure ?_))
      have I2 := free (x := .finished) I1 rfl
      exact hR _ _ H1 (I2.kept (t' := s₁.toks) hk) q1
end
/-- all, any of a generator expression -/
def tGx (P : Addr) (wi : TI) (g : TG) (tt : TT) (te : TE) (vs : List Nat) (stop : Bool) : TE := fun σ H Q => wi σ H fun J H1 => GxR.TabG H1 P ∧ ∀ H2, GxR.Tabbed P H1 H2 → ∃ W : Nat → Nat → Hp → Prop, (∃ m, W 0 m H2) ∧ GxTurns J g tt te σ vs stop Q W
section
variable {X : Cx}
theorem pe_gx_all {c P : Addr} {elt tg iter : Expr} {ifs : List Expr} {scope : Scope} {own : List (Str × Nat)} {p pos gpos : Pos} {wi : TI} {g : TG} {tt : TT} {te : TE} {k : Nat}
    (hc : X.calm = true) (hN : X.N.Nodup) (hr : Room (k + 1) X.A) (hgl : Gl X "all") (hm : X.mg "all" = none) (TB : GxR.TabB X.base X.mg c P) (hcode : X.env.code = .ref c) (ok : BlkOk X.N X.env.scope scope own)
    (hco : scope.isCoroutine = false) (hnc : ∀ y ∈ scope.names, y.2 ≠ .cell) (hdot : scope.names.lookup (".0" : Str) = some NameKind.local) (hi : PI X tg iter wi)
    (hg : ∀ (s : Shared) (H : Hp) (A : Around) (C : Addr) (code : Value) (fp : List Addr) (pn : List (Addr × Obj)), PG (gxCx X s H A (gxEnv X scope C code) fp pn) tg g)
    (ht : ∀ (s : Shared) (H : Hp) (A : Around) (C : Addr) (code : Value) (fp : List Addr) (pn : List (Addr × Obj)), Room k A → PTs (gxCx X s H A (gxEnv X scope C code) fp pn) ifs tt)
    (he : ∀ (s : Shared) (H : Hp) (A : Around) (C : Addr) (code : Value) (fp : List Addr) (pn : List (Addr × Obj)), Room k A → PE (gxCx X s H A (gxEnv X scope C code) fp pn) elt te)
    (hs : ∀ v, genFold iter X.env v = pure v) :
    PE X (.Call (.Name "all" p) [.GeneratorExp elt [⟨tg, iter, ifs, 0⟩] scope gpos] [] pos) (tGx P wi g tt te (own.map (·.2)) false) := by
  have ne : starEach [.GeneratorExp elt [⟨tg, iter, ifs, 0⟩] scope gpos] X.env = (false, eval (.GeneratorExp elt [⟨tg, iter, ifs, 0⟩] scope gpos) X.env) :: starEach [] X.env := rfl
  refine ⟨fun pins s σ H Q I h => ?_⟩
  have hfree : ∀ y ∈ scope.names, y.2 = .free → ∃ c, X.env.cells.lookup y.1 = some c := fun y hy e => by
    rcases ok.free y hy e with k | k
    · exact I.ok.has _ (.inl k)
    · exact I.ok.has _ (.inr k)
  refine wpAny_Call_Name_kw (ld_blt I hgl hm PyProof.Rows.boot_all ?_)
  refine PyProof.Rows.callWith_builtin1 ?_ ne (by rfl)
  rw [ne]
  show wpAny _ _ (spliced ((false, eval (.GeneratorExp elt [⟨tg, iter, ifs, 0⟩] scope gpos) X.env) :: backTo pos (starEach [] X.env))) _ _ s
  refine Calls.spliced_cons ?_
  refine wpAny_GeneratorExp_make hco (closure_ok hfree) hnc hdot ok.kind (by have := hr.dp; omega) ?_ hs
  refine thn (hi.run pins s σ H _ I h) fun xv s1 hx => thn hx fun itv s2 h2 => ?_
  obtain ⟨it, fp, tn, J, H2, e, I2, T, st2, f2, ⟨ps, hP, htr⟩, q⟩ := h2
  subst e
  refine ⟨I2.nolimit, ?_⟩
  have hPs : s2.heap.get? P = some { cls := .none, data := .fields ps } := I2.hok P _ hP
  have cd : PySem.W.CodeHd s2.heap c P := TB.code.keeps fun b u e => I2.bk b u e
  have cont : ∀ (code : Value) (h3 : Heap) (tk : Nat) (ps' : Array Value), Heap.ExtBut P s2.heap h3 → s2.heap.objs.size ≤ h3.objs.size → h3.get? P = some { cls := .none, data := .fields ps' } → (∃ more, ps' = ps ++ more) → TriplesOk ps'.toList →
      wpAny (model X.prog X.w) X.A (builtinsFor X.env.globals X.env.builtins) (fun bi s₄ => ∀ h', h'.Ns s₄.heap.objs.size (fun y => if y = ".0" then some (.ref it) else none) → Heap.SameBut s₄.heap.objs.size (s₄.heap.push { cls := .type "frame", data := .dict #[] }) h' →
          wpAny (model X.prog X.w) X.A (spliced (backTo pos (starEach [] X.env))) (fun vs s₂ => wpAny (model X.prog X.w) X.A (PySem.call (.builtin "all") (.ref h'.objs.size :: vs)) (EP X pins σ Q) X.xe s₂) X.xe { s₄ with
            gens := s₄.gens.push (.fresh (.compStart (.GeneratorExp elt [⟨tg, iter, ifs, 0⟩] scope gpos) 0 (.ref it) .none (genEnv scope (cloFrom X.env.cells scope.names []) s₄.heap.objs.size code bi X.env))),
            toks := s₄.toks + 1 + 1 + 1,
            heap := h'.push { cls := .type "generator", data := .fields #[.int s₄.gens.size 0, .str "<genexpr>" (s₄.toks + 1), .str (X.env.qual ++ "<genexpr>") (s₄.toks + 1 + 1)] } }) X.xe { s2 with heap := h3, toks := tk } := by
    intro code h3 tk ps' hx hsz hP3 ⟨more, hmore⟩ ht3
    obtain ⟨bm, ob, e1, e2, e3, e4, e5, e6, e7, e8⟩ := TB.bm
    have keep3 : ∀ b u, b ≠ P → s2.heap.get? b = some u → h3.get? b = some u := fun b u hb e => hx b u hb e
    refine wpAny_builtinsFor (m := X.mg) (by rw [I2.ok.glob]; exact (I2.mod.glob.keeps I2.bk).extBut hx TB.gP) e1 e2 (keep3 _ _ e4 (I2.bk _ _ e5)) e6 e7 e8 ?_
    intro h' hn' hs'
    -- the state ahead of the frame
    have I4 : Inv X pins σ (upd H2 P (.tbl ps')) { s2 with heap := h3, toks := tk } := by
      subst hmore
      exact GxR.inv_tab (g' := s2.gens) (d' := s2.drawn) I2 hP (fun b u hb e => keep3 b u hb e) hP3 I2.bare
    generalize hs4 : ({ s2 with heap := h3, toks := tk } : Shared) = s4 at I4 hn' hs' ⊢
    have h4 : s4.heap = h3 := by rw [← hs4]
    have os4 : s4.os = s2.os := by rw [← hs4]
    have kp24 : ∀ b u, b ≠ P → s2.heap.get? b = some u → s4.heap.get? b = some u := fun b u hb e => by rw [h4]; exact keep3 b u hb e
    have sz24 : s2.heap.objs.size ≤ s4.heap.objs.size := by rw [h4]; exact hsz
    generalize hgo : ({ cls := .type "generator", data := .fields #[.int s4.gens.size 0, .str "<genexpr>" (s4.toks + 1), .str (X.env.qual ++ "<genexpr>") (s4.toks + 1 + 1)] } : Obj) = go
    have hgen : ∀ h : Heap, h.get? h'.objs.size = some go → h.IsGen h'.objs.size s4.gens.size := fun h e => ⟨go, _, _, e, by rw [← hgo], by rw [← hgo], by rw [← hgo]⟩
    have hszh : h'.objs.size = s4.heap.objs.size + 1 := by rw [hs'.1, Heap.size_push]
    have keep' : ∀ b o, s4.heap.get? b = some o → h'.get? b = some o := fun b o e => hs'.extBut b o (Nat.ne_of_lt (Heap.lt_size e)) (Heap.get?_push_of_some _ e)
    generalize hce : genEnv scope (cloFrom X.env.cells scope.names []) s4.heap.objs.size code builtinsNs X.env = cenv
    have hce' : gxEnv X scope s4.heap.objs.size code = cenv := hce
    generalize hge : (Expr.GeneratorExp elt [⟨tg, iter, ifs, 0⟩] scope gpos) = ge
    generalize hs5 : ({ s4 with gens := s4.gens.push (.fresh (.compStart ge 0 (.ref it) .none cenv)), toks := s4.toks + 1 + 1 + 1, heap := h'.push go } : Shared) = s5
    have h5 : s5.heap = h'.push go := by rw [← hs5]
    have os5 : s5.os = s4.os := by rw [← hs5]
    have g5 : s5.gens = s4.gens.push (.fresh (.compStart ge 0 (.ref it) .none cenv)) := by rw [← hs5]
    have kp45 : ∀ b o, s4.heap.get? b = some o → s5.heap.get? b = some o := fun b o e => by rw [h5]; exact Heap.get?_push_of_some _ (keep' b o e)
    have b5 : AllBare s5.gens := by rw [g5]; exact AllBare.push I4.bare rfl
    have I5 : Inv X pins σ (upd H2 P (.tbl ps')) s5 := I4.call' (ch := []) os5 (Un.kept kp45) (I4.hok.kept kp45) b5 fun b z => by simp at z
    have ago : s5.heap.get? h'.objs.size = some go := by rw [h5]; exact Heap.get?_push_size _ (by rw [← hgo]; rfl)
    have alt : s4.heap.objs.size < h'.objs.size := by omega
    -- the walked thing's objects
    have fne : ∀ b ∈ fp, b ≠ P := fun b hb z => by
      have := (f2 b hb).1
      rw [z, hP] at this
      cases this
    have st4 : tn 0 s4.heap := T.keep _ _ _ st2 fun b hb o e => kp24 b o (fne b hb) e
    have f4 : ∀ b ∈ fp, FpOk X pins (upd H2 P (.tbl ps')) b ∧ b < s4.heap.objs.size := fun b hb => by
      obtain ⟨o, e, _⟩ := T.obj _ _ st4 b hb
      exact ⟨⟨by rw [upd_ne (fne b hb)]; exact (f2 b hb).1, (f2 b hb).2⟩, Heap.lt_size e⟩
    have hTab : GxR.Tabbed P H2 (upd H2 P (.tbl ps')) := ⟨⟨ps', upd_same, ht3⟩, fun b hb => upd_ne hb⟩
    obtain ⟨W, ⟨m0, w0⟩, turn⟩ := q _ hTab
    -- the arounds
    have hAG : X.A.in1.in1.over (.compLoop ge 0 (.ref it) .none cenv) [] = X.A.in1.in1.deeper cenv := by subst hge; rfl
    have rA : Room k (X.A.in1.in1.deeper cenv) := ⟨hr.hd, by have := hr.dp; show X.A.depth + 1 + 3 * k + 5 < _; omega, by have := hr.un; show X.A.units + 1 + 1 + 3 + 16 * k + 200 < _; omega⟩
    have fA : (X.A.in1.in1.deeper cenv).frames = some (cenv :: X.stack) := Around.frames_deeper I.ok.frames
    refine Calls.spliced_nil ?_
    refine call_function_tree F.kind_all F.plain_all F.entry_all (F.args_all1 _) ?_
    unfold Builtin.«all»
    refine wpAny_bind (m := oneArg "all" _) (wpAny_pure ?_)
    refine wpAny_bind (wpAny_pyIter_gen (hgen _ ago) ?_)
    refine wpAny_pure ⟨plainId_quiet F.plain_all_loop _, ?_⟩
    refine gx_all_loop (X := X) (pins := pins) (σ := σ) (Q := Q) hr.hd (by have := hr.dp; omega) (fun kb s' H' I' q' => ⟨.bl kb, H', I', rfl, q'⟩) (m0 + 1) s5 _ I5 (hgen _ ago) ⟨.fresh (.compStart ge 0 (.ref it) .none cenv), by rw [g5]; exact Array.getElem?_push_size .., ?_⟩
    refine ⟨rfl, ?_⟩
    -- the generator's code
    generalize hs6 : s5.setGen s4.gens.size .running = s6
    have h6 : s6.heap = s5.heap := by rw [← hs6]; rfl
    have os6 : s6.os = s5.os := by rw [← hs6]; rfl
    have b6 : AllBare s6.gens := by rw [← hs6]; exact allBare_setGen b5 rfl
    have I6 := gx_start (own := own) (fp := fp) (A := X.A.in1.in1.deeper cenv) (code := code) (s5 := s6) (a := h'.objs.size) (go := go) I4 ok hN hnc f4 (by rw [hce']; exact fA) (fun _ => hr.hd) (fun b o e => by rw [h6]; exact kp45 b o e) (os6.trans os5) b6
      ⟨_, by rw [h6, h5]; exact hn'.push _⟩ alt (by rw [h6]; exact ago) (fun v z => by rw [← hgo] at z; cases z)
    rw [hce'] at I6
    have st6 : tn 0 s6.heap := T.keep _ _ _ st4 fun b hb o e => by rw [h6]; exact kp45 b o e
    have hco' : cenv.scope.isCoroutine = false := by rw [← hce]; exact hco
    have pg := hg s4 (upd H2 P (.tbl ps')) (X.A.in1.in1.deeper cenv) s4.heap.objs.size code fp [(h'.objs.size, go)]
    have pt := ht s4 (upd H2 P (.tbl ps')) (X.A.in1.in1.deeper cenv) s4.heap.objs.size code fp [(h'.objs.size, go)] rA
    have pe := he s4 (upd H2 P (.tbl ps')) (X.A.in1.in1.deeper cenv) s4.heap.objs.size code fp [(h'.objs.size, go)] rA
    rw [hce'] at pg pt pe
    subst hge
    have loop := gx_loop (pins := pins) (σ := σ) (Q := Q) (stop := false) hc I4 f4 T hco' hAG hgen alt pg pt pe turn m0 (m0 + 1) 0 s6 s6 _ (Nat.lt_succ_self _) w0 I6 st6 (fun b hb => (f4 b hb).1.1)
    show Seg _ _ _ _ _ s6 _ ((compStart (.GeneratorExp elt [⟨tg, iter, ifs, 0⟩] scope gpos) 0 (.ref it) .none cenv).onRaise (leaving cenv)) [] s6
    unfold compStart
    rw [Sem.onRaise_eq_wrap]
    show Seg _ _ _ _ _ s6 _ ((ask >>= _).wrap _ _ _ _) [] s6
    refine seg_bind_wrap (wpAny_askSetting ?_)
    split
    · exact seg_again rfl loop
    · refine seg_bind_wrap (wpAny_rule ?_)
      show Seg _ _ _ _ _ s6 _ ((standAt iter.pos >>= _).wrap _ _ _ _) [] s6
      exact seg_bind_wrap (wpAny_standAt (seg_bind_wrap (T.self _ 0 s6 _ _ st6 (seg_again rfl loop))))
  cases hf : codeAmong gpos ps.toList with
  | none =>
    refine wpAny_genexprCodeX hcode (cd.code hPs htr) (cd.tab hPs) hf fun c' h' tk hx hge hlt hco' _ htab' _ => ?_
    obtain ⟨o1, vs, f1, tf, fl, tg, inF, tx, tt, op, _, _, _, _, _, _, _, _, _, htr', _⟩ := hco'
    exact cont _ h' tk _ hx (Nat.le_trans hge (Nat.le_of_lt hlt)) htab'.2 ⟨_, rfl⟩ htr'
  | some cv =>
    refine wpAny_genexprCode_hit hcode (cd.code hPs htr) hf ?_
    exact cont cv s2.heap s2.toks ps (Heap.ExtBut.refl _ _) (Nat.le_refl _) hPs ⟨#[], by simp⟩ htr
theorem pe_gx_any {c P : Addr} {elt tg iter : Expr} {ifs : List Expr} {scope : Scope} {own : List (Str × Nat)} {p pos gpos : Pos} {wi : TI} {g : TG} {tt : TT} {te : TE} {k : Nat}
    (hc : X.calm = true) (hN : X.N.Nodup) (hr : Room (k + 1) X.A) (hgl : Gl X "any") (hm : X.mg "any" = none) (TB : GxR.TabB X.base X.mg c P) (hcode : X.env.code = .ref c) (ok : BlkOk X.N X.env.scope scope own)
    (hco : scope.isCoroutine = false) (hnc : ∀ y ∈ scope.names, y.2 ≠ .cell) (hdot : scope.names.lookup (".0" : Str) = some NameKind.local) (hi : PI X tg iter wi)
    (hg : ∀ (s : Shared) (H : Hp) (A : Around) (C : Addr) (code : Value) (fp : List Addr) (pn : List (Addr × Obj)), PG (gxCx X s H A (gxEnv X scope C code) fp pn) tg g)
    (ht : ∀ (s : Shared) (H : Hp) (A : Around) (C : Addr) (code : Value) (fp : List Addr) (pn : List (Addr × Obj)), Room k A → PTs (gxCx X s H A (gxEnv X scope C code) fp pn) ifs tt)
    (he : ∀ (s : Shared) (H : Hp) (A : Around) (C : Addr) (code : Value) (fp : List Addr) (pn : List (Addr × Obj)), Room k A → PE (gxCx X s H A (gxEnv X scope C code) fp pn) elt te)
    (hs : ∀ v, genFold iter X.env v = pure v) :
    PE X (.Call (.Name "any" p) [.GeneratorExp elt [⟨tg, iter, ifs, 0⟩] scope gpos] [] pos) (tGx P wi g tt te (own.map (·.2)) true) := by
  have ne : starEach [.GeneratorExp elt [⟨tg, iter, ifs, 0⟩] scope gpos] X.env = (false, eval (.GeneratorExp elt [⟨tg, iter, ifs, 0⟩] scope gpos) X.env) :: starEach [] X.env := rfl
  refine ⟨fun pins s σ H Q I h => ?_⟩
  have hfree : ∀ y ∈ scope.names, y.2 = .free → ∃ c, X.env.cells.lookup y.1 = some c := fun y hy e => by
    rcases ok.free y hy e with k | k
    · exact I.ok.has _ (.inl k)
    · exact I.ok.has _ (.inr k)
  refine wpAny_Call_Name_kw (ld_blt I hgl hm PyProof.Rows.boot_any ?_)
  refine PyProof.Rows.callWith_builtin1 ?_ ne (by rfl)
  rw [ne]
  show wpAny _ _ (spliced ((false, eval (.GeneratorExp elt [⟨tg, iter, ifs, 0⟩] scope gpos) X.env) :: backTo pos (starEach [] X.env))) _ _ s
  refine Calls.spliced_cons ?_
  refine wpAny_GeneratorExp_make hco (closure_ok hfree) hnc hdot ok.kind (by have := hr.dp; omega) ?_ hs
  refine thn (hi.run pins s σ H _ I h) fun xv s1 hx => thn hx fun itv s2 h2 => ?_
  obtain ⟨it, fp, tn, J, H2, e, I2, T, st2, f2, ⟨ps, hP, htr⟩, q⟩ := h2
  subst e
  refine ⟨I2.nolimit, ?_⟩
  have hPs : s2.heap.get? P = some { cls := .none, data := .fields ps } := I2.hok P _ hP
  have cd : PySem.W.CodeHd s2.heap c P := TB.code.keeps fun b u e => I2.bk b u e
  have cont : ∀ (code : Value) (h3 : Heap) (tk : Nat) (ps' : Array Value), Heap.ExtBut P s2.heap h3 → s2.heap.objs.size ≤ h3.objs.size → h3.get? P = some { cls := .none, data := .fields ps' } → (∃ more, ps' = ps ++ more) → TriplesOk ps'.toList →
      wpAny (model X.prog X.w) X.A (builtinsFor X.env.globals X.env.builtins) (fun bi s₄ => ∀ h', h'.Ns s₄.heap.objs.size (fun y => if y = ".0" then some (.ref it) else none) → Heap.SameBut s₄.heap.objs.size (s₄.heap.push { cls := .type "frame", data := .dict #[] }) h' →
          wpAny (model X.prog X.w) X.A (spliced (backTo pos (starEach [] X.env))) (fun vs s₂ => wpAny (model X.prog X.w) X.A (PySem.call (.builtin "any") (.ref h'.objs.size :: vs)) (EP X pins σ Q) X.xe s₂) X.xe { s₄ with
            gens := s₄.gens.push (.fresh (.compStart (.GeneratorExp elt [⟨tg, iter, ifs, 0⟩] scope gpos) 0 (.ref it) .none (genEnv scope (cloFrom X.env.cells scope.names []) s₄.heap.objs.size code bi X.env))),
            toks := s₄.toks + 1 + 1 + 1,
            heap := h'.push { cls := .type "generator", data := .fields #[.int s₄.gens.size 0, .str "<genexpr>" (s₄.toks + 1), .str (X.env.qual ++ "<genexpr>") (s₄.toks + 1 + 1)] } }) X.xe { s2 with heap := h3, toks := tk } := by
    intro code h3 tk ps' hx hsz hP3 ⟨more, hmore⟩ ht3
    obtain ⟨bm, ob, e1, e2, e3, e4, e5, e6, e7, e8⟩ := TB.bm
    have keep3 : ∀ b u, b ≠ P → s2.heap.get? b = some u → h3.get? b = some u := fun b u hb e => hx b u hb e
    refine wpAny_builtinsFor (m := X.mg) (by rw [I2.ok.glob]; exact (I2.mod.glob.keeps I2.bk).extBut hx TB.gP) e1 e2 (keep3 _ _ e4 (I2.bk _ _ e5)) e6 e7 e8 ?_
    intro h' hn' hs'
    -- the state ahead of the frame
    have I4 : Inv X pins σ (upd H2 P (.tbl ps')) { s2 with heap := h3, toks := tk } := by
      subst hmore
      exact GxR.inv_tab (g' := s2.gens) (d' := s2.drawn) I2 hP (fun b u hb e => keep3 b u hb e) hP3 I2.bare
    generalize hs4 : ({ s2 with heap := h3, toks := tk } : Shared) = s4 at I4 hn' hs' ⊢
    have h4 : s4.heap = h3 := by rw [← hs4]
    have os4 : s4.os = s2.os := by rw [← hs4]
    have kp24 : ∀ b u, b ≠ P → s2.heap.get? b = some u → s4.heap.get? b = some u := fun b u hb e => by rw [h4]; exact keep3 b u hb e
    have sz24 : s2.heap.objs.size ≤ s4.heap.objs.size := by rw [h4]; exact hsz
    generalize hgo : ({ cls := .type "generator", data := .fields #[.int s4.gens.size 0, .str "<genexpr>" (s4.toks + 1), .str (X.env.qual ++ "<genexpr>") (s4.toks + 1 + 1)] } : Obj) = go
    have hgen : ∀ h : Heap, h.get? h'.objs.size = some go → h.IsGen h'.objs.size s4.gens.size := fun h e => ⟨go, _, _, e, by rw [← hgo], by rw [← hgo], by rw [← hgo]⟩
    have hszh : h'.objs.size = s4.heap.objs.size + 1 := by rw [hs'.1, Heap.size_push]
    have keep' : ∀ b o, s4.heap.get? b = some o → h'.get? b = some o := fun b o e => hs'.extBut b o (Nat.ne_of_lt (Heap.lt_size e)) (Heap.get?_push_of_some _ e)
    generalize hce : genEnv scope (cloFrom X.env.cells scope.names []) s4.heap.objs.size code builtinsNs X.env = cenv
    have hce' : gxEnv X scope s4.heap.objs.size code = cenv := hce
    generalize hge : (Expr.GeneratorExp elt [⟨tg, iter, ifs, 0⟩] scope gpos) = ge
    generalize hs5 : ({ s4 with gens := s4.gens.push (.fresh (.compStart ge 0 (.ref it) .none cenv)), toks := s4.toks + 1 + 1 + 1, heap := h'.push go } : Shared) = s5
    have h5 : s5.heap = h'.push go := by rw [← hs5]
    have os5 : s5.os = s4.os := by rw [← hs5]
    have g5 : s5.gens = s4.gens.push (.fresh (.compStart ge 0 (.ref it) .none cenv)) := by rw [← hs5]
    have kp45 : ∀ b o, s4.heap.get? b = some o → s5.heap.get? b = some o := fun b o e => by rw [h5]; exact Heap.get?_push_of_some _ (keep' b o e)
    have b5 : AllBare s5.gens := by rw [g5]; exact AllBare.push I4.bare rfl
    have I5 : Inv X pins σ (upd H2 P (.tbl ps')) s5 := I4.call' (ch := []) os5 (Un.kept kp45) (I4.hok.kept kp45) b5 fun b z => by simp at z
    have ago : s5.heap.get? h'.objs.size = some go := by rw [h5]; exact Heap.get?_push_size _ (by rw [← hgo]; rfl)
    have alt : s4.heap.objs.size < h'.objs.size := by omega
    -- the walked thing's objects
    have fne : ∀ b ∈ fp, b ≠ P := fun b hb z => by
      have := (f2 b hb).1
      rw [z, hP] at this
      cases this
    have st4 : tn 0 s4.heap := T.keep _ _ _ st2 fun b hb o e => kp24 b o (fne b hb) e
    have f4 : ∀ b ∈ fp, FpOk X pins (upd H2 P (.tbl ps')) b ∧ b < s4.heap.objs.size := fun b hb => by
      obtain ⟨o, e, _⟩ := T.obj _ _ st4 b hb
      exact ⟨⟨by rw [upd_ne (fne b hb)]; exact (f2 b hb).1, (f2 b hb).2⟩, Heap.lt_size e⟩
    have hTab : GxR.Tabbed P H2 (upd H2 P (.tbl ps')) := ⟨⟨ps', upd_same, ht3⟩, fun b hb => upd_ne hb⟩
    obtain ⟨W, ⟨m0, w0⟩, turn⟩ := q _ hTab
    -- the arounds
    have hAG : X.A.in1.in1.over (.compLoop ge 0 (.ref it) .none cenv) [] = X.A.in1.in1.deeper cenv := by subst hge; rfl
    have rA : Room k (X.A.in1.in1.deeper cenv) := ⟨hr.hd, by have := hr.dp; show X.A.depth + 1 + 3 * k + 5 < _; omega, by have := hr.un; show X.A.units + 1 + 1 + 3 + 16 * k + 200 < _; omega⟩
    have fA : (X.A.in1.in1.deeper cenv).frames = some (cenv :: X.stack) := Around.frames_deeper I.ok.frames
    refine Calls.spliced_nil ?_
    refine call_function_tree F.kind_any F.plain_any F.entry_any (F.args_any1 _) ?_
    unfold Builtin.«any»
    refine wpAny_bind (m := oneArg "any" _) (wpAny_pure ?_)
    refine wpAny_bind (wpAny_pyIter_gen (hgen _ ago) ?_)
    refine wpAny_pure ⟨plainId_quiet F.plain_any_loop _, ?_⟩
    refine gx_any_loop (X := X) (pins := pins) (σ := σ) (Q := Q) hr.hd (by have := hr.dp; omega) (fun kb s' H' I' q' => ⟨.bl kb, H', I', rfl, q'⟩) (m0 + 1) s5 _ I5 (hgen _ ago) ⟨.fresh (.compStart ge 0 (.ref it) .none cenv), by rw [g5]; exact Array.getElem?_push_size .., ?_⟩
    refine ⟨rfl, ?_⟩
    -- the generator's code
    generalize hs6 : s5.setGen s4.gens.size .running = s6
    have h6 : s6.heap = s5.heap := by rw [← hs6]; rfl
    have os6 : s6.os = s5.os := by rw [← hs6]; rfl
    have b6 : AllBare s6.gens := by rw [← hs6]; exact allBare_setGen b5 rfl
    have I6 := gx_start (own := own) (fp := fp) (A := X.A.in1.in1.deeper cenv) (code := code) (s5 := s6) (a := h'.objs.size) (go := go) I4 ok hN hnc f4 (by rw [hce']; exact fA) (fun _ => hr.hd) (fun b o e => by rw [h6]; exact kp45 b o e) (os6.trans os5) b6
      ⟨_, by rw [h6, h5]; exact hn'.push _⟩ alt (by rw [h6]; exact ago) (fun v z => by rw [← hgo] at z; cases z)
    rw [hce'] at I6
    have st6 : tn 0 s6.heap := T.keep _ _ _ st4 fun b hb o e => by rw [h6]; exact kp45 b o e
    have hco' : cenv.scope.isCoroutine = false := by rw [← hce]; exact hco
    have pg := hg s4 (upd H2 P (.tbl ps')) (X.A.in1.in1.deeper cenv) s4.heap.objs.size code fp [(h'.objs.size, go)]
    have pt := ht s4 (upd H2 P (.tbl ps')) (X.A.in1.in1.deeper cenv) s4.heap.objs.size code fp [(h'.objs.size, go)] rA
    have pe := he s4 (upd H2 P (.tbl ps')) (X.A.in1.in1.deeper cenv) s4.heap.objs.size code fp [(h'.objs.size, go)] rA
    rw [hce'] at pg pt pe
    subst hge
    have loop := gx_loop (pins := pins) (σ := σ) (Q := Q) (stop := true) hc I4 f4 T hco' hAG hgen alt pg pt pe turn m0 (m0 + 1) 0 s6 s6 _ (Nat.lt_succ_self _) w0 I6 st6 (fun b hb => (f4 b hb).1.1)
    show Seg _ _ _ _ _ s6 _ ((compStart (.GeneratorExp elt [⟨tg, iter, ifs, 0⟩] scope gpos) 0 (.ref it) .none cenv).onRaise (leaving cenv)) [] s6
    unfold compStart
    rw [Sem.onRaise_eq_wrap]
    show Seg _ _ _ _ _ s6 _ ((ask >>= _).wrap _ _ _ _) [] s6
    refine seg_bind_wrap (wpAny_askSetting ?_)
    split
    · exact seg_again rfl loop
    · refine seg_bind_wrap (wpAny_rule ?_)
      show Seg _ _ _ _ _ s6 _ ((standAt iter.pos >>= _).wrap _ _ _ _) [] s6
      exact seg_bind_wrap (wpAny_standAt (seg_bind_wrap (T.self _ 0 s6 _ _ st6 (seg_again rfl loop))))
  cases hf : codeAmong gpos ps.toList with
  | none =>
    refine wpAny_genexprCodeX hcode (cd.code hPs htr) (cd.tab hPs) hf fun c' h' tk hx hge hlt hco' _ htab' _ => ?_
    obtain ⟨o1, vs, f1, tf, fl, tg, inF, tx, tt, op, _, _, _, _, _, _, _, _, _, htr', _⟩ := hco'
    exact cont _ h' tk _ hx (Nat.le_trans hge (Nat.le_of_lt hlt)) htab'.2 ⟨_, rfl⟩ htr'
  | some cv =>
    refine wpAny_genexprCode_hit hcode (cd.code hPs htr) hf ?_
    exact cont cv s2.heap s2.toks ps (Heap.ExtBut.refl _ _) (Nat.le_refl _) hPs ⟨#[], by simp⟩ htr
end
end WM

namespace WM
open PySem PySem.Spec PyProof.Rows L2
variable [τ : Tabs]
def gcStop : Gc → Option Bool
  | .all => some false
  | .any => some true
  | _ => none
section
variable {K : Frag} {G : Gt} {Φ : Phi} {X : Cx} {L : Lk} {n j : Nat} {sc : Scope}
theorem gxRd {P : Addr} {c : Gc} {stop : Bool} {own : List (Str × Nat)} {t : Tg} {it : It} {ifs : Es} {e : E} (hP : Tabs.T P) (hst : gcStop c = some stop) (hsl : ∀ i ∈ t.slots, i ∈ own.map (·.2)) :
    ∀ σ H Q, (∃ H0 O A ρ r, Rel K H0 O A σ H ρ ∧ ev G Φ (.gx c own t it ifs e) false ρ = some r ∧ ∀ v H', Ext H H' → Rv K (Ow O A) H H' v r → Q v H') → tGx P (tI K G Φ it) (gOf K t) (tTs K G Φ ifs) (tE K G Φ e) (own.map (·.2)) stop σ H Q := by
  intro σ H Q ⟨H0, O, A, ρ, r, rel, h, q⟩
  simp only [ev, fin] at h
  obtain ⟨xs, hxs, h⟩ := Option.bind_eq_some_iff.mp h
  obtain ⟨ρ0, hρ0, h⟩ := Option.bind_eq_some_iff.mp h
  have h : ∃ b, gxRun stop t ρ0 (fun ρ => tvs G Φ ifs ρ) (fun ρ => ev G Φ e false ρ) xs = some b ∧ r = .d (.bool b) := by
    cases c <;> simp only [gcStop] at hst
    · cases hst
      obtain ⟨b, h1, h2⟩ := Option.map_eq_some_iff.mp h
      exact ⟨b, h1, h2.symm⟩
    · cases hst
      obtain ⟨b, h1, h2⟩ := Option.map_eq_some_iff.mp h
      exact ⟨b, h1, h2.symm⟩
    all_goals cases hst
  obtain ⟨bb, hrun0, rfl⟩ := h
  refine ⟨H0, O, A, ρ, xs, rel, hxs, fun J H1 Lst e1 l1 hkp wk => ⟨(rel.mono e1).tabs P hP, fun H2 hT => ?_⟩⟩
  have eT : Ext H1 H2 := by
    obtain ⟨⟨ps', t1, t2⟩, same⟩ := hT
    obtain ⟨ps, z1, z2⟩ := (rel.mono e1).tabs P hP
    refine ⟨fun b o hb tb => ?_, fun b o hb => ?_, fun b ⟨qs, hb, tt⟩ => ?_⟩
    · have ne : b ≠ P := fun z => by rw [z, z1] at hb; cases hb; cases tb
      rw [same b ne]; exact hb
    · by_cases z : b = P
      · rw [z]; exact ⟨_, t1⟩
      · exact ⟨o, by rw [same b z]; exact hb⟩
    · by_cases z : b = P
      · rw [z]; exact ⟨ps', t1, t2⟩
      · exact ⟨qs, by rw [same b z]; exact hb, tt⟩
  have relw := (rel.mono e1).wiped hρ0
  refine ⟨fun k m H' => m = xs.length - k ∧ k ≤ xs.length ∧ Ext H1 H' ∧ gxRun stop t ρ0 (fun ρ => tvs G Φ ifs ρ) (fun ρ => ev G Φ e false ρ) (xs.drop k) = some bb,
    ⟨xs.length, by omega, Nat.zero_le _, eT, by rw [List.drop_zero]; exact hrun0⟩, ?_⟩
  rintro k m H' ⟨rfl, hk, ex, hrun⟩
  have relD : Rel K H0 O A (wipe σ (own.map (·.2))) H' ρ0 := relw.mono ex
  have stw : StW K H1 (Ow O A) Lst H' (Ow O A) := ⟨relD.domO, ex.frz, fun p hp => ex.rd rfl ((hkp p hp).rd (rel.ext.trans e1))⟩
  by_cases hlt : k < xs.length
  · refine .inr ⟨wk.goes k H' _ hlt stw, fun H2 => Ext H1 H2 ∧ gxRun stop t ρ0 (fun ρ => tvs G Φ ifs ρ) (fun ρ => ev G Φ e false ρ) (xs.drop (k + 1)) = some bb, fun H2 ⟨h1, h2⟩ => ⟨xs.length - (k + 1), by omega, rfl, hlt, h1, h2⟩, ?_⟩
    intro v H3 yl
    obtain ⟨e2, d, hd, hdq⟩ := wk.yields k H' _ v H3 hlt stw yl
    have hx : xs.drop k = d :: xs.drop (k + 1) := by
      obtain ⟨hl, hg⟩ := List.getElem?_eq_some_iff.mp hd
      rw [List.drop_eq_getElem_cons hl, hg]
    rw [hx] at hrun
    simp only [gxRun] at hrun
    obtain ⟨ρ1, hρ1, hrun⟩ := Option.bind_eq_some_iff.mp hrun
    obtain ⟨b, hb, hrun⟩ := Option.bind_eq_some_iff.mp hrun
    refine gGo (relD.mono e2) hρ1 hdq fun A' σ2 rel2 sub len2 same => ?_
    have hA : A' = A := by
      funext j
      by_cases hj : j ∈ t.slots
      · have s1 := relw.slot j
        have hj' := hsl j hj
        have s2 := rel2.slot j
        obtain ⟨w1, w2, w3, w4⟩ := wipeS_get hρ0
        have hAj : A j = none := by
          by_cases hl : j < ρ.length
          · rw [w2 j hj' hl] at s1
            exact s1
          · have : ρ0[j]? = none := List.getElem?_eq_none (by omega)
            rw [this] at s1
            exact s1
        rcases sub j with z | z
        · exact z
        · rw [z, hAj]
      · exact (same j hj).1
    subst hA
    refine ⟨?_, ?_⟩
    · exact wipe_same (by rw [len2, wipe_length]) fun i hi => (same i fun z => hi (hsl i z)).2
    · refine ⟨_, _, _, _, b, rel2, hb, fun H4 e3 l3 => ?_⟩
      cases b with
      | false =>
        rw [if_neg Bool.false_ne_true]
        exact ⟨(ex.trans e2).trans e3, hrun⟩
      | true =>
        rw [if_pos rfl]
        obtain ⟨kb, hkb, hrun⟩ := Option.bind_eq_some_iff.mp hrun
        refine tE.go (rel2.mono e3) (asB_some hkb) fun u H5 e4 l4 rel4 rv => ?_
        refine ⟨kb, rv.cv.bool, ?_⟩
        by_cases hks : kb = stop
        · subst hks
          rw [if_pos rfl]
          rw [if_pos (by simp)] at hrun
          cases hrun
          exact q _ H5 ((((e1.trans ex).trans e2).trans e3).trans e4) (Dq.bl _)
        · rw [if_neg hks]
          rw [if_neg (by simpa using hks)] at hrun
          exact ⟨((ex.trans e2).trans e3).trans e4, hrun⟩
  · have ek : k = xs.length := by omega
    subst ek
    rw [List.drop_length] at hrun
    simp only [gxRun] at hrun
    cases hrun
    exact .inl ⟨wk.stops H' _ stw, q _ H' (e1.trans ex) (Dq.bl _)⟩
end
section
variable {L : Lk} {Φ : Phi} {n j : Nat}
theorem CxOk.gx {X : Cx} {sc : Scope} (c : CxOk L Φ n j sc X) (s : Shared) (H : Hp) (A : Around) (C : Addr) (code : Value) (scope : Scope) (fp : List Addr) (pn : List (Addr × Obj)) (hr : Room n A) : CxOk L Φ n 0 scope (gxCx X s H A (gxEnv X scope C code) fp pn) :=
  ⟨c.names, c.nd, rfl, c.calm, rfl, hr, c.blt, c.gl, c.gcd, c.fns, fun h => by cases h⟩
theorem gxGo {X : Cx} {sc scope : Scope} {c0 : Gc} {own : List (Str × Nat)} {t : Tg} {it : It} {ifs : Es} {e1 : E} {x tg i : Expr} {fs : List Expr} {z : Str} {p pos gpos : Pos} (c : CxOk L Φ n j sc X)
    (h : ((match c0 with | .all => bltB L sc z "all" | .any => bltB L sc z "any" | _ => false) && decide (j = 1) && gxC scope && notListE i && blkC L.N sc scope own && mtIt L j it sc tg i && mtTg L (locB scope) (some (own.map (·.2))) t tg && mtEs L 0 ifs scope fs && decide (ifs.len ≤ 1) && mtE L 0 e1 scope x) = true)
    (hit : PI X tg i (tI X.K L.G Φ it) ∧ ∀ v, foldedSetIterable i X.env v = pure v)
    (hts : ∀ (X : Cx) (sc : Scope) (l : List Expr), CxOk L Φ n 0 sc X → mtEs L 0 ifs sc l = true → ifs.len ≤ 1 → PTs X l (tTs X.K L.G Φ ifs))
    (hse : ∀ (X : Cx) (sc : Scope) (e : Expr), CxOk L Φ n 0 sc X → mtE L 0 e1 sc e = true → SE X.K L.G Φ X e e1) : SE X.K L.G Φ X (.Call (.Name z p) [.GeneratorExp x [⟨tg, i, fs, 0⟩] scope gpos] [] pos) (.gx c0 own t it ifs e1) := by
  simp only [Bool.and_eq_true, decide_eq_true_eq] at h
  obtain ⟨⟨⟨⟨⟨⟨⟨⟨⟨h0, hj⟩, hgc⟩, hnl⟩, h1⟩, h2⟩, h3⟩, h4⟩, h5⟩, h6⟩ := h
  obtain ⟨pi, pf⟩ := hit
  obtain ⟨cd, P, k1, k2, k3⟩ := c.own hj
  have ok : BlkOk X.N X.env.scope scope own := by rw [c.names, c.scope]; exact blkOk_by h1
  unfold gxC at hgc
  simp only [Bool.and_eq_true, Bool.not_eq_true', List.all_eq_true, decide_eq_true_eq, decide_eq_false_iff_not] at hgc
  obtain ⟨⟨g1, g2⟩, g3⟩ := hgc
  have hnc : ∀ y ∈ scope.names, y.2 ≠ .cell := g2
  have loc : ∀ x, locB scope x = true → scope.names.lookup x = some .local := fun x hx => by
    rcases locOk x hx with k | k
    · exact k
    · exact absurd rfl (hnc _ (PySem.mem_of_lookup k))
  have hgf : ∀ v, genFold i X.env v = pure v := fun v => by
    unfold genFold
    cases i <;> first | exact pf v | cases hnl
  have hg := fun (s : Shared) (H : Hp) (A : Around) (C : Addr) (code : Value) (fp : List Addr) (pn : List (Addr × Obj)) => pgOf (X := gxCx X s H A (gxEnv X scope C code) fp pn) (L := L) (loc := locB scope) c.names c.nd c.calm (fun x hx => ⟨.inl (loc x hx), .inr (loc x hx)⟩) t _ h3
  have ht := fun (s : Shared) (H : Hp) (A : Around) (C : Addr) (code : Value) (fp : List Addr) (pn : List (Addr × Obj)) (hr : Room n A) => hts _ scope fs (c.gx s H A C code scope fp pn hr) h4 h5
  have he := fun (s : Shared) (H : Hp) (A : Around) (C : Addr) (code : Value) (fp : List Addr) (pn : List (Addr × Obj)) (hr : Room n A) => (hse _ scope x (c.gx s H A C code scope fp pn hr) h6).v
  have room : Room (n + 1) X.A := by have := c.room; rw [hj] at this; exact this
  cases c0 with
  | all =>
    obtain ⟨b1, b2, b3, b4⟩ := bltOk c h0
    subst b1
    have rd := gxRd (K := X.K) (G := L.G) (Φ := Φ) (c := .all) (e := e1) (ifs := ifs) (it := it) k3 rfl (tgSlots t _ h3)
    exact .of rfl (peImp (pe_gx_all c.calm c.nd room b2 b4 k2 k1 ok g1 hnc g3 pi hg ht he hgf) fun σ H Q hl ⟨H0, O, A, ρ, r, rel, he, q⟩ => rd σ H _ ⟨H0, O, A, ρ, r, rel, he, fun v H' e1 rv l => q v H' e1 l rv⟩) rfl fun ρ => by simp only [ev, fin]
  | any =>
    obtain ⟨b1, b2, b3, b4⟩ := bltOk c h0
    subst b1
    have rd := gxRd (K := X.K) (G := L.G) (Φ := Φ) (c := .any) (e := e1) (ifs := ifs) (it := it) k3 rfl (tgSlots t _ h3)
    exact .of rfl (peImp (pe_gx_any c.calm c.nd room b2 b4 k2 k1 ok g1 hnc g3 pi hg ht he hgf) fun σ H Q hl ⟨H0, O, A, ρ, r, rel, he, q⟩ => rd σ H _ ⟨H0, O, A, ρ, r, rel, he, fun v H' e1 rv l => q v H' e1 l rv⟩) rfl fun ρ => by simp only [ev, fin]
  | _ => cases h0
end
end WM

/-! ## part J: the induction over expressions -/
namespace WM
open PySem PySem.Spec PyProof.Rows L2
variable [τ : Tabs]
theorem plainFew {x : Expr} {env : Env} {pos : Pos} (h : plainE x = true) : (backTo pos (starEach [x] env)).any (·.1) = false := by
  rw [plainStar h]; rfl
theorem starsNone {X : Cx} {pos : Pos} : ∀ {xs : List Expr} , (∀ x ∈ xs, plainE x = true) → (backTo pos (starEach xs X.env)).any (·.1) = false
  | [], _ => rfl
  | x :: xs, h => by
    rw [plainStar (h x List.mem_cons_self)]
    have := starsNone (X := X) (pos := pos) (xs := xs) fun y hy => h y (List.mem_cons_of_mem _ hy)
    show (false || (backTo pos (starEach xs X.env)).any (·.1)) = false
    rw [this]
    rfl
theorem mtEs_plain {L : Lk} {j : Nat} {sc : Scope} : ∀ (es : Es) (xs : List Expr), mtEs L j es sc xs = true → ∀ x ∈ xs, plainE x = true
  | .nil, xs, h => by
    cases xs with
    | nil => intro x hx; cases hx
    | cons => cases h
  | .cons e es, xs, h => by
    cases xs with
    | nil => cases h
    | cons x xs =>
      simp only [mtEs, Bool.and_eq_true] at h
      intro y hy
      rcases List.mem_cons.mp hy with z | z
      · subst z; exact mtE_plain L j e sc _ h.1
      · exact mtEs_plain es xs h.2 y z
theorem lm2 {op op' : CmpOp} {y z : Expr} (h : plainE z = true) : lastMarks [op, op'] [y, z] = false := by
  show behindInMarks op' z = false
  exact plainMark h
theorem blkMt {L : Lk} {sc scope : Scope} {own : List (Str × Nat)} {N : List Str} (h : blkC N sc scope own = true) : BlkOk N sc scope own := blkOk_by h
variable {L : Lk} {Φ : Phi} {n j : Nat}
theorem seSet1 {K : Frag} {G : Gt} {X : Cx} {f : B1} {a : E} {e : Expr} (hK : X.K = K) (h : PE X e (tSet1 X.K f (tE K G Φ a))) (ht : testE e = true := by rfl) : SE K G Φ X e (.b1 f a) := by
  subst hK
  refine .of rfl (peImp h fun σ H Q hl ⟨H0, O, A, ρ, r, rel, h, q⟩ => ?_) ht fun ρ => by simp only [ev, fin]
  simp only [ev, fin] at h
  obtain ⟨x, hx, h⟩ := Option.bind_eq_some_iff.mp h
  refine tE.go rel hx fun v H1 e1 l1 r1 v1 => ?_
  exact ⟨Ow O A, x, r, v1.uv, r1.domO, h, fun w H' e2 rv l2 => q w H' (e1.trans e2) l2 (rv.back e1)⟩
theorem callGo {X : Cx} {sc : Scope} {es : Es} {xs : List Expr} {x : Str} {f : Nat} {fa : Addr} {fd : FuncData} {ps : List Str} {p pos : Pos} (c : CxOk L Φ n j sc X) (hl : 0 < es.len) (m4 : FnOk X.prog X.w X.K X.mg X.base CX0 n fa fd ps (spF X.K (Φ f))) (g1 : Gl X x) (m1 : X.mg x = some (.ref fa))
    (m2 : PySem.W.keepIn X.K (.ref fa) = true) (m3 : Binds X.K fd ps []) (pa : PA X xs (tA X.K L.G Φ es)) (g2 : (x == ("__debug__" : Str)) = false) (h3 : mtEs L j es sc xs = true) : SE X.K L.G Φ X (.Call (.Name x p) xs [] pos) (.call f es) := by
  have pl := mtEs_plain es _ h3
  cases xs with
  | nil =>
    cases es with
    | nil => simp [Es.len] at hl
    | cons => simp [mtEs] at h3
  | cons y ys => exact seCall rfl (pe_call m4 (c.room.mono (Nat.le_add_right _ _)) g1 m1 m2 m3 .nil pass0 pa g2 (plainStar (pl y List.mem_cons_self)) (starsNone fun z hz => pl z (List.mem_cons_of_mem _ hz)))
theorem lcGo {X : Cx} {sc scope : Scope} {own : List (Str × Nat)} {t : Tg} {it : It} {ifs : Es} {e1 : E} {x tg i : Expr} {fs : List Expr} {pos : Pos} (c : CxOk L Φ n j sc X)
    (h : (blkC L.N sc scope own && mtIt L j it sc tg i && mtTg L (locB scope) (some (own.map (·.2))) t tg && mtEs L j ifs (relS scope sc) fs && decide (ifs.len ≤ 1) && mtE L j e1 (relS scope sc) x) = true)
    (hit : ∀ (X : Cx) (sc : Scope) (tg e : Expr), CxOk L Φ n j sc X → mtIt L j it sc tg e = true → PI X tg e (tI X.K L.G Φ it) ∧ ∀ v, foldedSetIterable e X.env v = pure v)
    (hts : ∀ (X : Cx) (sc : Scope) (l : List Expr), CxOk L Φ n j sc X → mtEs L j ifs sc l = true → ifs.len ≤ 1 → PTs X l (tTs X.K L.G Φ ifs))
    (hse : ∀ (X : Cx) (sc : Scope) (e : Expr), CxOk L Φ n j sc X → mtE L j e1 sc e = true → SE X.K L.G Φ X e e1) : SE X.K L.G Φ X (.ListComp x [⟨tg, i, fs, 0⟩] scope pos) (.lc own t it ifs e1) := by
  simp only [Bool.and_eq_true, decide_eq_true_eq] at h
  obtain ⟨⟨⟨⟨⟨h1, h2⟩, h3⟩, h4⟩, h5⟩, h6⟩ := h
  obtain ⟨pi, pf⟩ := hit X sc _ _ c h2
  have ok : BlkOk X.N X.env.scope scope own := by rw [c.names, c.scope]; exact blkOk_by h1
  have hg := fun (s : Shared) (H : Hp) (C : Addr) (cl : List (Str × Addr)) (fp : List Addr) => pgOf (X := X.blk s H scope (compEnvC scope cl C X.env) fp) (L := L) c.names c.nd c.calm (c.locK s H scope C cl fp) t _ h3
  have ht := fun (s : Shared) (H : Hp) (C : Addr) (cl : List (Str × Addr)) (fp : List Addr) => hts _ (relS scope sc) fs (c.blk s H scope C cl fp) h4 h5
  have he := fun (s : Shared) (H : Hp) (C : Addr) (cl : List (Str × Addr)) (fp : List Addr) => (hse _ (relS scope sc) x (c.blk s H scope C cl fp) h6).v
  have rd := seLc (K := X.K) (pos := pos) rfl c.calm c.nd ok (tgSlots t _ h3) pi pf hg ht he
  exact .of rfl (peImp (pe_lc c.calm c.nd pi ok hg ht he pf) fun σ H Q hl ⟨H0, O, A, ρ, r, rel, he, q⟩ => rd σ H _ ⟨H0, O, A, ρ, r, rel, he, fun v H' e1 rv l => q v H' e1 l rv⟩) rfl fun ρ => by simp only [ev, fin]
theorem ptsNil {X : Cx} {G : Gt} : PTs X [] (tTs X.K G Φ .nil) := by
  refine ⟨fun pins s σ H Q I ⟨H0, O, A, ρ, b, rel, he, q⟩ => ?_⟩
  simp only [tvs] at he
  cases he
  exact pts_nil.run pins s σ H Q I (q H (Ext.refl _) (hlen_of I))
theorem mtIt_fold {L : Lk} {j : Nat} {sc : Scope} : ∀ (it : It) (tg e : Expr), mtIt L j it sc tg e = true → ∀ env v, foldedSetIterable e env v = pure v
  | .e a, tg, e, h => fun env v => plainFold (mtE_plain L j a sc e (by simpa only [mtIt] using h))
  | .rg1 a, tg, e, h => by
    cases e <;> simp only [mtIt, Bool.false_eq_true] at h
    exact fun env v => rfl
  | .rg2 a b, tg, e, h => by
    cases e <;> simp only [mtIt, Bool.false_eq_true] at h
    exact fun env v => rfl
  | .rg3 a b d, tg, e, h => by
    cases e <;> simp only [mtIt, Bool.false_eq_true] at h
    exact fun env v => rfl
  | .zp a b, tg, e, h => by
    cases e <;> simp only [mtIt, Bool.false_eq_true] at h
    all_goals first | (exact fun env v => rfl) | (split at h <;> first | (rename_i heq; cases heq; done) | cases h)
  | .en a, tg, e, h => by
    cases e <;> simp only [mtIt, Bool.false_eq_true] at h
    all_goals first | (exact fun env v => rfl) | (split at h <;> first | (rename_i heq; cases heq; done) | cases h)
theorem lc2Go {X : Cx} {sc scope : Scope} {own : List (Str × Nat)} {t t2 : Tg} {it it2 : It} {ifs : Es} {e1 : E} {x tg i tg2 i2 : Expr} {fs : List Expr} {pos : Pos} (c : CxOk L Φ n j sc X)
    (h : (blkC L.N sc scope own && mtIt L j it sc tg i && mtTg L (locB scope) (some (own.map (·.2))) t tg && mtIt L j it2 (relS scope sc) tg2 i2 && mtTg L (locB scope) (some (own.map (·.2))) t2 tg2 && mtEs L j ifs (relS scope sc) fs && decide (ifs.len ≤ 1) && mtE L j e1 (relS scope sc) x) = true)
    (hit : ∀ (X : Cx) (sc : Scope) (tg e : Expr), CxOk L Φ n j sc X → mtIt L j it sc tg e = true → PI X tg e (tI X.K L.G Φ it))
    (hit2 : ∀ (X : Cx) (sc : Scope) (tg e : Expr), CxOk L Φ n j sc X → mtIt L j it2 sc tg e = true → PI X tg e (tI X.K L.G Φ it2))
    (hts : ∀ (X : Cx) (sc : Scope) (l : List Expr), CxOk L Φ n j sc X → mtEs L j ifs sc l = true → ifs.len ≤ 1 → PTs X l (tTs X.K L.G Φ ifs))
    (hse : ∀ (X : Cx) (sc : Scope) (e : Expr), CxOk L Φ n j sc X → mtE L j e1 sc e = true → SE X.K L.G Φ X e e1) : SE X.K L.G Φ X (.ListComp x [⟨tg, i, [], 0⟩, ⟨tg2, i2, fs, 0⟩] scope pos) (.lc2 own t it t2 it2 ifs e1) := by
  simp only [Bool.and_eq_true, decide_eq_true_eq] at h
  obtain ⟨⟨⟨⟨⟨⟨⟨h1, h2⟩, h3⟩, k2⟩, k3⟩, h4⟩, h5⟩, h6⟩ := h
  have ok : BlkOk X.N X.env.scope scope own := by rw [c.names, c.scope]; exact blkOk_by h1
  have hg := fun (s : Shared) (H : Hp) (C : Addr) (cl : List (Str × Addr)) (fp : List Addr) => pgOf (X := X.blk s H scope (compEnvC scope cl C X.env) fp) (L := L) c.names c.nd c.calm (c.locK s H scope C cl fp) t _ h3
  have hg2 := fun (s : Shared) (H : Hp) (C : Addr) (cl : List (Str × Addr)) (fp : List Addr) => pgOf (X := X.blk s H scope (compEnvC scope cl C X.env) fp) (L := L) c.names c.nd c.calm (c.locK s H scope C cl fp) t2 _ k3
  have hi2 := fun (s : Shared) (H : Hp) (C : Addr) (cl : List (Str × Addr)) (fp : List Addr) => hit2 _ (relS scope sc) _ _ (c.blk s H scope C cl fp) k2
  have ht := fun (s : Shared) (H : Hp) (C : Addr) (cl : List (Str × Addr)) (fp : List Addr) => hts _ (relS scope sc) fs (c.blk s H scope C cl fp) h4 h5
  have he := fun (s : Shared) (H : Hp) (C : Addr) (cl : List (Str × Addr)) (fp : List Addr) => (hse _ (relS scope sc) x (c.blk s H scope C cl fp) h6).v
  have rd := seLc2 (K := X.K) (G := L.G) (Φ := Φ) (own := own) (t := t) (t2 := t2) (it := it) (it2 := it2) (ifs := ifs) (e := e1) (tgSlots t _ h3)
  exact .of rfl (peImp (pe_lc2 c.calm c.nd (hit X sc _ _ c h2) ok (tgSlots t2 _ k3) hg (fun _ _ _ _ _ => ptsNil) hi2 hg2 ht he (mtIt_fold it _ _ h2 X.env) (mtIt_fold it2 _ _ k2)) fun σ H Q hl ⟨H0, O, A, ρ, r, rel, he, q⟩ => rd σ H _ ⟨H0, O, A, ρ, r, rel, he, fun v H' e1 rv l => q v H' e1 l rv⟩) rfl fun ρ => by simp only [ev, fin]
mutual
theorem sE : ∀ (ir : E) (j : Nat) (sc : Scope) (X : Cx) (e : Expr), CxOk L Φ n j sc X → mtE L j ir sc e = true → SE X.K L.G Φ X e ir
  | .var i, j, sc, X, e, c, h => by
    cases e <;> simp only [mtE, Bool.false_eq_true] at h
    simp only [Bool.and_eq_true, decide_eq_true_eq] at h
    exact seVar c h.1.1 h.1.2 h.2
  | .cst c0, j, sc, X, e, c, h => by
    cases e <;> simp only [mtE, Bool.false_eq_true] at h
    simp only [Bool.and_eq_true, decide_eq_true_eq] at h
    rw [← h.1.1]
    exact seCst h.1.2 h.2
  | .glb k, j, sc, X, e, c, h => by
    cases e <;> simp only [mtE, Bool.false_eq_true] at h
    split at h
    · rename_i p hp
      simp only [Bool.and_eq_true, decide_eq_true_eq] at h
      exact seGlb c p hp h.1 h.2
    · cases h
  | .tup es, j, sc, X, e, c, h => by
    cases e <;> simp only [mtE, Bool.false_eq_true] at h
    simp only [Bool.and_eq_true, decide_eq_true_eq] at h
    exact seTup rfl (sEs es j sc X _ c h.1) h.2
  | .lst es, j, sc, X, e, c, h => by
    cases e <;> simp only [mtE, Bool.false_eq_true] at h
    simp only [Bool.and_eq_true, decide_eq_true_eq] at h
    exact seLst rfl (sEs es j sc X _ c h.1) h.2
  | .bin op a b, j, sc, X, e, c, h => by
    cases e <;> simp only [mtE, Bool.false_eq_true] at h
    simp only [Bool.and_eq_true, decide_eq_true_eq] at h
    rw [← h.1.1]
    rcases bin_ok (X := X) op with z | z
    · refine .no fun m ρ => ?_
      simp only [ev, z]
      cases ev L.G Φ a false ρ <;> cases ev L.G Φ b false ρ <;> cases m <;> rfl
    · exact seBin rfl (sE a j sc X _ c h.1.2) (sE b j sc X _ c h.2) z
  | .neg a, j, sc, X, e, c, h => by
    cases e <;> simp only [mtE, Bool.false_eq_true] at h
    rename_i op x pos
    cases op <;> simp only [Bool.false_eq_true] at h
    exact seNeg rfl (sE a j sc X _ c h)
  | .inv a, j, sc, X, e, c, h => by
    cases e <;> simp only [mtE, Bool.false_eq_true] at h
    rename_i op x pos
    cases op <;> simp only [Bool.false_eq_true] at h
    exact seInv rfl (sE a j sc X _ c h)
  | .cmp op a b, j, sc, X, e, c, h => by
    cases e <;> simp only [mtE, Bool.false_eq_true] at h
    split at h
    · rename_i e1
      cases e1
      simp only [Bool.and_eq_true, decide_eq_true_eq] at h
      rw [← h.1.1]
      exact seCmp rfl (sE a j sc X _ c h.1.2) (sE b j sc X _ c h.2) (opCmp c.room _) (plainMark (mtE_plain L j b sc _ h.2))
    · cases h
  | .chn op op' a b c0, j, sc, X, e, c, h => by
    cases e <;> simp only [mtE, Bool.false_eq_true] at h
    split at h
    · rename_i e1
      cases e1
      simp only [Bool.and_eq_true, decide_eq_true_eq] at h
      rw [← h.1.1.1.1, ← h.1.1.1.2]
      exact seChn rfl (sE a j sc X _ c h.1.1.2) (sE b j sc X _ c h.1.2) (sE c0 j sc X _ c h.2) (opCmp c.room _) (opCmp c.room _) (lm2 (mtE_plain L j c0 sc _ h.2))
    · cases h
  | .and es, j, sc, X, e, c, h => by
    cases e <;> simp only [mtE, Bool.false_eq_true] at h
    rename_i op xs pos
    cases op <;> simp only [Bool.false_eq_true] at h
    exact seAnd (sAnd es j sc X xs pos c h)
  | .or es, j, sc, X, e, c, h => by
    cases e <;> simp only [mtE, Bool.false_eq_true] at h
    rename_i op xs pos
    cases op <;> simp only [Bool.false_eq_true] at h
    exact seOr (sOr es j sc X xs pos c h)
  | .ife c0 a b, j, sc, X, e, c, h => by
    cases e <;> simp only [mtE, Bool.false_eq_true] at h
    simp only [Bool.and_eq_true] at h
    exact seIfe rfl (sE c0 j sc X _ c h.1.1) (sE a j sc X _ c h.1.2) (sE b j sc X _ c h.2) ptNo
  | .ix a b, j, sc, X, e, c, h => by
    cases e <;> simp only [mtE, Bool.false_eq_true] at h
    simp only [Bool.and_eq_true] at h
    exact seIx rfl (sE a j sc X _ c h.1) (sE b j sc X _ c h.2) (plainIx (mtE_plain L j b sc _ h.2)) c.room
  | .sl a lo hi, j, sc, X, e, c, h => by
    cases e <;> simp only [mtE, Bool.false_eq_true] at h
    split at h
    · rename_i e1
      cases e1
      simp only [Bool.and_eq_true] at h
      exact seSl rfl (sE a j sc X _ c h.1.1) (sO lo j sc X _ c h.1.2) (sO hi j sc X _ c h.2)
    · cases h
  | .rev a, j, sc, X, e, c, h => by
    cases e <;> simp only [mtE, Bool.false_eq_true] at h
    split at h
    · rename_i e1
      cases e1
      exact seRev rfl (sE a j sc X _ c h)
    · cases h
  | .call f es, j, sc, X, e, c, h => by
    cases e <;> simp only [mtE, Bool.false_eq_true] at h
    split at h
    · rename_i e1
      cases e1
      simp only [Bool.and_eq_true, decide_eq_true_eq] at h
      obtain ⟨⟨⟨h1, h2⟩, h3⟩, h4⟩ := h
      obtain ⟨g1, g2⟩ := gloOk c h2
      obtain ⟨fa, fd, ps, m1, m2, m3, m4⟩ := c.fns f _ h1
      exact callGo c (by omega) m4 g1 m1 m2 m3 (sEs es j sc X _ c h3) g2 h3
    · cases h
  | .b1 f a, j, sc, X, e, c, h => by
    cases e <;> simp only [mtE, Bool.false_eq_true] at h
    split at h
    · rename_i e1
      cases e1
      split at h
      · split at h
        · rename_i e2
          simp only [Bool.and_eq_true] at h
          obtain ⟨⟨h1, h2⟩, h3⟩ := h
          obtain ⟨b1, b2, b3, b4⟩ := bltOk c h1
          obtain ⟨d1, d2, d3, d4⟩ := bltOk c h2
          subst b1 d1
          exact seSet1 rfl (pe_sset c.calm c.room b2 b4 d2 d4 (sE a j sc X _ c h3).v (plainStar (mtE_plain L j a sc _ h3)))
        · cases h
      · split at h
        · rename_i e2
          simp only [Bool.and_eq_true] at h
          obtain ⟨⟨h1, h2⟩, h3⟩ := h
          obtain ⟨b1, b2, b3, b4⟩ := bltOk c h1
          obtain ⟨d1, d2, d3, d4⟩ := bltOk c h2
          subst b1 d1
          exact seSet1 rfl (pe_lset c.calm (by have := c.room.units; omega) b2 b4 d2 d4 (sE a j sc X _ c h3).v (plainStar (mtE_plain L j a sc _ h3)))
        · cases h
      · simp only [Bool.and_eq_true] at h
        obtain ⟨⟨h1, h2⟩, h3⟩ := h
        obtain ⟨b1, b2, b3, b4⟩ := bltOk c h1
        have ne := b1_name f h3
        have pl := plainStar (es := []) (env := X.env) (mtE_plain L j a sc _ h2)
        rcases b1_ok (X := X) c.calm c.room f h3 with ⟨id, k1, k2⟩ | ⟨T, k1, k2⟩
        · exact seB1 rfl (pe_callB k2 b2 b4 (by rw [b1]; exact k1) (pa_cons (sE a j sc X _ c h2).v pa_nil pl) (by rw [b1]; exact ne) b3 pl rfl)
        · exact seB1 rfl (pe_callTy k2 b2 b4 (by rw [b1]; exact k1) (pa_cons (sE a j sc X _ c h2).v pa_nil pl) (by rw [b1]; exact ne) b3 pl rfl)
    · cases h
  | .b2 f a b, j, sc, X, e, c, h => by
    cases e <;> simp only [mtE, Bool.false_eq_true] at h
    split at h
    · rename_i e1
      cases e1
      simp only [Bool.and_eq_true] at h
      obtain ⟨⟨h1, h2⟩, h3⟩ := h
      have p1 := mtE_plain L j a sc _ h2
      have p2 := mtE_plain L j b sc _ h3
      have ha := (sE a j sc X _ c h2).v
      have hb := (sE b j sc X _ c h3).v
      cases f with
      | max2 =>
        obtain ⟨b1, b2, b3, b4⟩ := bltOk c h1
        exact seB2 rfl (pe_callB (bMax2 c.calm) b2 b4 (by rw [b1]; decide +kernel) (pa_cons ha (pa_cons hb pa_nil (plainStar p2)) (plainStar p1)) (by rw [b1]; decide +kernel) b3 (plainStar p1) (plainFew p2))
      | min2 =>
        obtain ⟨b1, b2, b3, b4⟩ := bltOk c h1
        exact seB2 rfl (pe_callB (bMin2 c.calm) b2 b4 (by rw [b1]; decide +kernel) (pa_cons ha (pa_cons hb pa_nil (plainStar p2)) (plainStar p1)) (by rw [b1]; decide +kernel) b3 (plainStar p1) (plainFew p2))
      | gcd =>
        simp only [Bool.and_eq_true, decide_eq_true_eq] at h1
        obtain ⟨g1, g2⟩ := gloOk c h1.1.2
        exact seB2 rfl (pe_callBfun bGcd g1 (by rw [h1.1.1]; exact c.gcd h1.2) (pa_cons ha (pa_cons hb pa_nil (plainStar p2)) (plainStar p1)) g2 (plainStar p1) (plainFew p2))
    · cases h
  | .isi a t, j, sc, X, e, c, h => by
    cases e <;> simp only [mtE, Bool.false_eq_true] at h
    split at h
    · rename_i e1
      cases e1
      simp only [Bool.and_eq_true] at h
      obtain ⟨⟨h1, h2⟩, h3⟩ := h
      obtain ⟨b1, b2, b3, b4⟩ := bltOk c h1
      obtain ⟨c1, c2, c3, c4⟩ := bltOk c h2
      have p1 := mtE_plain L j a sc _ h3
      have ty : bootBuiltins (Str.ofString (tyName t)) = some (.type (tyName t)) ∧ Str.ofString (tyName t) ≠ Str.ofString "__name__" := by
        cases t <;> exact ⟨by decide +kernel, by decide +kernel⟩
      exact seIsi rfl (pe_callB call_isi b2 b4 (by rw [b1]; decide +kernel) (pa_cons (sE a j sc X _ c h3).v (pa_cons (pe_bltn c2 c4 (by rw [c1]; exact ty.1) rfl (by rw [c1]; exact ty.2) c3) pa_nil rfl) (plainStar p1)) (by rw [b1]; decide +kernel) b3 (plainStar p1) rfl)
    · cases h
  | .m1 f o a, j, sc, X, e, c, h => by
    cases e <;> simp only [mtE, Bool.false_eq_true] at h
    split at h
    · rename_i e1
      cases e1
      simp only [Bool.and_eq_true, decide_eq_true_eq] at h
      obtain ⟨⟨⟨⟨h1, h2⟩, h3⟩, h4⟩, h5⟩ := h
      rw [h1]
      exact seM1 rfl c.room (sE o j sc X _ c h4) (sE a j sc X _ c h5) (mtE_plain L j a sc _ h5) h3 h2
    · cases h
  | .dnew, j, sc, X, e, c, h => by
    cases e <;> simp only [mtE, Bool.false_eq_true] at h
    split at h
    · rename_i e1
      cases e1
      exact seDnew rfl
    · cases h
  | .ddp k v, j, sc, X, e, c, h => by
    cases e <;> simp only [mtE, Bool.false_eq_true] at h
    split at h
    · rename_i e1
      cases e1
      simp only [Bool.and_eq_true] at h
      exact seDdp rfl (sE k j sc X _ c h.1) (sE v j sc X _ c h.2)
    · cases h
  | .dg1 a k, j, sc, X, e, c, h => by
    cases e <;> simp only [mtE, Bool.false_eq_true] at h
    split at h
    · rename_i e1
      cases e1
      simp only [Bool.and_eq_true, decide_eq_true_eq] at h
      obtain ⟨⟨⟨⟨h1, h2⟩, h3⟩, h4⟩, h5⟩ := h
      rw [h1]
      exact seDg1 rfl c.room (sE a j sc X _ c h4) (sE k j sc X _ c h5) (mtE_plain L j k sc _ h5) h3 h2
    · cases h
  | .dg2 a k d, j, sc, X, e, c, h => by
    cases e <;> simp only [mtE, Bool.false_eq_true] at h
    split at h
    · rename_i e1
      cases e1
      simp only [Bool.and_eq_true, decide_eq_true_eq] at h
      obtain ⟨⟨⟨⟨⟨h1, h2⟩, h3⟩, h4⟩, h5⟩, h6⟩ := h
      rw [h1]
      exact seDg2 rfl c.room (sE a j sc X _ c h4) (sE k j sc X _ c h5) (sE d j sc X _ c h6) (mtE_plain L j k sc _ h5) (mtE_plain L j d sc _ h6) h3 h2
    · cases h
  | .lc own t it ifs e1, j, sc, X, e, c, h => by
    cases e <;> simp only [mtE, Bool.false_eq_true] at h
    split at h
    · rename_i heq
      cases heq
      exact lcGo c h (fun X' sc' tg' e' c' h' => sIt it j sc' X' tg' e' c' h') (fun X' sc' l' c' h' h2' => sTs ifs j sc' X' l' c' h' h2') (fun X' sc' e' c' h' => sE e1 j sc' X' e' c' h')
    · cases h
  | .lc2 own t it t2 it2 ifs e1, j, sc, X, e, c, h => by
    cases e <;> simp only [mtE, Bool.false_eq_true] at h
    split at h
    · rename_i heq
      cases heq
      exact lc2Go c h (fun X' sc' tg' e' c' h' => (sIt it j sc' X' tg' e' c' h').1) (fun X' sc' tg' e' c' h' => (sIt it2 j sc' X' tg' e' c' h').1) (fun X' sc' l' c' h' h2' => sTs ifs j sc' X' l' c' h' h2') (fun X' sc' e' c' h' => sE e1 j sc' X' e' c' h')
    · cases h
  | .gx c0 own t it ifs e1, j, sc, X, e, c, h => by
    cases e <;> simp only [mtE, Bool.false_eq_true] at h
    split at h
    · rename_i heq
      cases heq
      have h' := h
      simp only [Bool.and_eq_true] at h'
      exact gxGo c h (sIt it j sc X _ _ c h'.1.1.1.1.2) (fun X' sc' l' c' h' h2' => sTs ifs 0 sc' X' l' c' h' h2') (fun X' sc' e' c' h' => sE e1 0 sc' X' e' c' h')
    · cases h
theorem sEs : ∀ (es : Es) (j : Nat) (sc : Scope) (X : Cx) (l : List Expr), CxOk L Φ n j sc X → mtEs L j es sc l = true → PA X l (tA X.K L.G Φ es)
  | .nil, j, sc, X, l, c, h => by
    cases l with
    | nil => exact paNil rfl
    | cons => simp [mtEs] at h
  | .cons e es, j, sc, X, l, c, h => by
    cases l with
    | nil => simp [mtEs] at h
    | cons x xs =>
      simp only [mtEs, Bool.and_eq_true] at h
      exact paCons rfl (sE e j sc X x c h.1) (mtE_plain L j e sc _ h.1) (sEs es j sc X xs c h.2)
theorem sTs : ∀ (es : Es) (j : Nat) (sc : Scope) (X : Cx) (l : List Expr), CxOk L Φ n j sc X → mtEs L j es sc l = true → es.len ≤ 1 → PTs X l (tTs X.K L.G Φ es)
  | .nil, j, sc, X, l, c, h, hl => by
    cases l with
    | nil =>
      refine ⟨fun pins s σ H Q I ⟨H0, O, A, ρ, b, rel, he, q⟩ => ?_⟩
      simp only [tvs] at he
      cases he
      exact pts_nil.run pins s σ H Q I (q H (Ext.refl _) (hlen_of I))
    | cons => simp [mtEs] at h
  | .cons e es, j, sc, X, l, c, h, hl => by
    cases l with
    | nil => simp [mtEs] at h
    | cons x xs =>
      simp only [mtEs, Bool.and_eq_true] at h
      cases es with
      | cons => simp [Es.len] at hl
      | nil =>
        cases xs with
        | cons => simp [mtEs] at h
        | nil =>
          refine ⟨fun pins s σ H Q I ⟨H0, O, A, ρ, b, rel, he, q⟩ => ?_⟩
          simp only [tvs] at he
          exact (pts_one (sE e j sc X x c h.1).t).run pins s σ H Q I ⟨H0, O, A, ρ, b, rel, he, q⟩
theorem sAnd : ∀ (es : Es) (j : Nat) (sc : Scope) (X : Cx) (l : List Expr) (pos : Pos), CxOk L Φ n j sc X → mtEs L j es sc l = true → PE X (.BoolOp .And l pos) (tAndB X.K L.G Φ es) ∧ PW X (.BoolOp .And l pos) (tAndT X.K L.G Φ es)
  | .nil, j, sc, X, l, pos, c, h => by
    refine ⟨⟨fun pins s σ H Q I ⟨H0, O, A, ρ, r, rel, he, q⟩ => ?_⟩, ⟨fun wh pins s σ H Q I ⟨H0, O, A, ρ, r, rel, he, q⟩ => ?_⟩⟩
    · simp only [andV] at he
      cases he
    · simp only [andV] at he
      cases he
  | .cons e es, j, sc, X, l, pos, c, h => by
    cases l with
    | nil => simp [mtEs] at h
    | cons x xs =>
      simp only [mtEs, Bool.and_eq_true] at h
      have se := sE e j sc X x c h.1
      cases xs with
      | nil =>
        cases es with
        | nil => exact and1 rfl se
        | cons => simp [mtEs] at h
      | cons y ys =>
        have r := sAnd es j sc X (y :: ys) pos c h.2
        cases es with
        | nil => simp [mtEs] at h
        | cons b bs => exact andC rfl se r
theorem sOr : ∀ (es : Es) (j : Nat) (sc : Scope) (X : Cx) (l : List Expr) (pos : Pos), CxOk L Φ n j sc X → mtEs L j es sc l = true → PE X (.BoolOp .Or l pos) (tOrB X.K L.G Φ es) ∧ PW X (.BoolOp .Or l pos) (tOrT X.K L.G Φ es)
  | .nil, j, sc, X, l, pos, c, h => by
    refine ⟨⟨fun pins s σ H Q I ⟨H0, O, A, ρ, r, rel, he, q⟩ => ?_⟩, ⟨fun wh pins s σ H Q I ⟨H0, O, A, ρ, r, rel, he, q⟩ => ?_⟩⟩
    · simp only [orV] at he
      cases he
    · simp only [orV] at he
      cases he
  | .cons e es, j, sc, X, l, pos, c, h => by
    cases l with
    | nil => simp [mtEs] at h
    | cons x xs =>
      simp only [mtEs, Bool.and_eq_true] at h
      have se := sE e j sc X x c h.1
      cases xs with
      | nil =>
        cases es with
        | nil => exact or1 rfl se
        | cons => simp [mtEs] at h
      | cons y ys =>
        have r := sOr es j sc X (y :: ys) pos c h.2
        cases es with
        | nil => simp [mtEs] at h
        | cons b bs => exact orC rfl se r
theorem sO : ∀ (o : Oe) (j : Nat) (sc : Scope) (X : Cx) (l : Option Expr), CxOk L Φ n j sc X → mtO L j o sc l = true → PO X l (tO X.K L.G Φ o)
  | .no, j, sc, X, l, c, h => by
    cases l with
    | none => exact poNo rfl
    | some => simp [mtO] at h
  | .so e, j, sc, X, l, c, h => by
    cases l with
    | none => simp [mtO] at h
    | some x =>
      simp only [mtO] at h
      exact poSo rfl (sE e j sc X x c h)
theorem sIt : ∀ (it : It) (j : Nat) (sc : Scope) (X : Cx) (tg e : Expr), CxOk L Φ n j sc X → mtIt L j it sc tg e = true → PI X tg e (tI X.K L.G Φ it) ∧ ∀ v, foldedSetIterable e X.env v = pure v
  | .e a, j, sc, X, tg, e, c, h => by
    simp only [mtIt] at h
    refine ⟨?_, fun v => plainFold (mtE_plain L j a sc e h)⟩
    have se := sE a j sc X e c h
    cases hv : isVar a with
    | false => exact piE se hv
    | true =>
      cases a <;> simp only [isVar, Bool.false_eq_true] at hv
      cases e <;> simp only [mtE, Bool.false_eq_true] at h
      simp only [Bool.and_eq_true, decide_eq_true_eq] at h
      exact piVar c h.1.1 h.1.2 h.2
  | .rg1 a, j, sc, X, tg, e, c, h => by
    cases e <;> simp only [mtIt, Bool.false_eq_true] at h
    split at h
    · rename_i e1
      cases e1
      simp only [Bool.and_eq_true] at h
      obtain ⟨b1, b2, b3, b4⟩ := bltOk c h.1
      subst b1
      exact ⟨piR1 (sE a j sc X _ c h.2) (mtE_plain L j a sc _ h.2) b2 b4, fun v => rfl⟩
    · cases h
  | .rg2 a b, j, sc, X, tg, e, c, h => by
    cases e <;> simp only [mtIt, Bool.false_eq_true] at h
    split at h
    · rename_i e1
      cases e1
      simp only [Bool.and_eq_true] at h
      obtain ⟨b1, b2, b3, b4⟩ := bltOk c h.1.1
      subst b1
      exact ⟨piR2 (sE a j sc X _ c h.1.2) (sE b j sc X _ c h.2) (mtE_plain L j a sc _ h.1.2) (mtE_plain L j b sc _ h.2) b2 b4, fun v => rfl⟩
    · cases h
  | .rg3 a b d, j, sc, X, tg, e, c, h => by
    cases e <;> simp only [mtIt, Bool.false_eq_true] at h
    split at h
    · rename_i e1
      cases e1
      simp only [Bool.and_eq_true] at h
      obtain ⟨b1, b2, b3, b4⟩ := bltOk c h.1.1.1
      subst b1
      exact ⟨piR3 (sE a j sc X _ c h.1.1.2) (sE b j sc X _ c h.1.2) (sE d j sc X _ c h.2) (mtE_plain L j a sc _ h.1.1.2) (mtE_plain L j b sc _ h.1.2) (mtE_plain L j d sc _ h.2) b2 b4, fun v => rfl⟩
    · cases h
  | .zp a b, j, sc, X, tg, e, c, h => by
    simp only [mtIt] at h
    split at h
    · simp only [Bool.and_eq_true] at h
      obtain ⟨b1, b2, b3, b4⟩ := bltOk c h.1.1
      subst b1
      exact ⟨piZp (srA c h.1.2 (sE a j sc X _ c h.1.2)) (srA c h.2 (sE b j sc X _ c h.2)) (sE a j sc X _ c h.1.2).v (sE b j sc X _ c h.2).v (mtE_plain L j a sc _ h.1.2) (mtE_plain L j b sc _ h.2) b2 b4, fun v => rfl⟩
    · cases h
  | .en a, j, sc, X, tg, e, c, h => by
    simp only [mtIt] at h
    split at h
    · simp only [Bool.and_eq_true] at h
      obtain ⟨b1, b2, b3, b4⟩ := bltOk c h.1
      subst b1
      exact ⟨piEn (srA c h.2 (sE a j sc X _ c h.2)) (mtE_plain L j a sc _ h.2) b2 b4, fun v => rfl⟩
    · cases h
end
end WM

/-! ## part K: statements -/
namespace WM
open PySem PySem.Spec PyProof.Rows L2
variable [τ : Tabs]

/-! ### the look -/
def isCompE : Expr → Bool
  | .ListComp _ _ _ _ => true
  | .SetComp _ _ _ _ => true
  | .DictComp _ _ _ _ _ => true
  | _ => false
def isTupE : Expr → Bool
  | .Tuple _ _ _ => true
  | _ => false
/-- whether a list comprehension's value goes to the name while the comprehension's own frame stands -/
def swB (sc : Scope) (y : Str) (py : Pos) : Expr → Bool
  | .ListComp _ _ scope pos => (match sc.names.lookup y with | some .local => true | _ => false) && (py.line == pos.line) && !(scope.names.any fun (n, k) => n == y && (k == .local || k == .cell))
  | _ => false
mutual
def mtS (L : Lk) (j : Nat) : S → Scope → Stmt → Bool
  | .skip, sc, s => match s with
    | .Pass _ => true
    | .Expr (.Constant (.str _) _ _) _ => true
    | _ => false
  | .asg t e, sc, s => match s with
    | .Assign [tg] x _ => mtTg L (locB sc) none t tg && mtE L j e sc x && (match t with | .nm _ => true | .tp _ => !isTupE x)
    | _ => false
  | .seti i k e, sc, s => match s with
    | .Assign [.Subscript (.Name y _) z _] x _ => decide (L.N[i]? = some y) && visB sc y && nameOk y && mtE L j k sc z && mtE L j e sc x
    | _ => false
  | .aug i op e, sc, s => match s with
    | .AugAssign (.Name y _) o x _ => decide (op = o) && decide (L.N[i]? = some y) && locB sc y && mtE L j e sc x
    | _ => false
  | .app i e, sc, s => match s with
    | .Expr (.Call (.Attribute (.Name y _) m ap) [x] [] cp) _ => decide (m = Str.ofString "append") && (ap.endLine == cp.line) && decide (L.N[i]? = some y) && visB sc y && nameOk y && mtE L j e sc x
    | _ => false
  | .ext i e, sc, s => match s with
    | .Expr (.Call (.Attribute (.Name y _) m ap) [x] [] cp) _ => decide (m = Str.ofString "extend") && (ap.endLine == cp.line) && decide (L.N[i]? = some y) && visB sc y && nameOk y && mtE L j e sc x
    | _ => false
  | .rem i e, sc, s => match s with
    | .Expr (.Call (.Attribute (.Name y _) m ap) [x] [] cp) _ => decide (m = Str.ofString "remove") && (ap.endLine == cp.line) && decide (L.N[i]? = some y) && visB sc y && nameOk y && mtE L j e sc x
    | _ => false
  | .ite c a b, sc, s => match s with
    | .If x y z _ => mtE L j c sc x && mtSs L j a sc y && mtSs L j b sc z
    | _ => false
  | .loop t it b, sc, s => match s with
    | .For tg i y [] _ => mtTg L (locB sc) none t tg && mtIt L j it sc tg i && mtSs L j b sc y
    | _ => false
  | .whl c b, sc, s => match s with
    | .While x y [] _ => mtE L j c sc x && mtSs L j b sc y
    | _ => false
  | .ret e, sc, s => match s with
    | .Return (some x) _ => mtE L j e sc x
    | _ => false
  | .retN, sc, s => match s with
    | .Return none _ => true
    | _ => false
  | .brk, sc, s => match s with
    | .Break _ => true
    | _ => false
  | .cnt, sc, s => match s with
    | .Continue _ => true
    | _ => false
def mtSs (L : Lk) (j : Nat) : Ss → Scope → List Stmt → Bool
  | .nil, sc, l => match l with
    | [] => true
    | _ => false
  | .cons s ss, sc, l => match l with
    | x :: xs => mtS L j s sc x && mtSs L j ss sc xs
    | [] => false
end

/-! ### what a statement leaves alone -/
structure Fr (O : Msk) (A A' : Nat → Option Addr) (H H' : Hp) (ρ ρ' : List Sl) : Prop where
  ext : Ext (frz H (Ow O A)) (frz H' (Ow O A'))
  lks : ∀ i xs, ρ[i]? = some (.lk xs) → ρ'[i]? = some (.lk xs) ∧ A' i = A i ∧ ∀ p vs, A i = some p → H p = some (.lst vs) → H' p = some (.lst vs)
section
variable {K : Frag} {O : Msk} {A A' A'' : Nat → Option Addr} {H H' H'' H0 : Hp} {ρ ρ' ρ'' : List Sl} {σ : L2.St}
theorem Fr.refl : Fr O A A H H ρ ρ := ⟨Ext.refl _, fun i xs h => ⟨h, rfl, fun p vs _ h => h⟩⟩
theorem Fr.trans (a : Fr O A A' H H' ρ ρ') (b : Fr O A' A'' H' H'' ρ' ρ'') : Fr O A A'' H H'' ρ ρ'' := by
  refine ⟨a.ext.trans b.ext, fun i xs h => ?_⟩
  obtain ⟨h1, h2, h3⟩ := a.lks i xs h
  obtain ⟨h4, h5, h6⟩ := b.lks i xs h1
  exact ⟨h4, h5.trans h2, fun p vs hp hh => h6 p vs (h2.trans hp) (h3 p vs hp hh)⟩
theorem Fr.of (e : Ext H H') : Fr O A A H H' ρ ρ := ⟨e.frz, fun i xs h => ⟨h, rfl, fun p vs _ h => e.keep _ _ h rfl⟩⟩
/-- a new list becomes a name's own -/
def setA (A : Nat → Option Addr) (i : Nat) (p : Addr) : Nat → Option Addr := fun j => if j = i then some p else A j
theorem setA_ow {i : Nat} {p b : Addr} (h : Ow O (setA A i p) b) : Ow O A b ∨ b = p := by
  rcases h with h | ⟨j, h⟩
  · exact .inl (.inl h)
  · unfold setA at h
    by_cases e : j = i
    · rw [if_pos e] at h; cases h; exact .inr rfl
    · rw [if_neg e] at h; exact .inl (.inr ⟨j, h⟩)
theorem Rel.setGen (r : Rel K H0 O A σ H ρ) {i : Nat} {sl : Sl} {p : Addr} (h : setS ρ i sl = some ρ') (e : Ext H H') (hn : H p = none) (hok : SlOk K H0 (Ow O (setA A i p)) H' (some p) (some (some (.ref p))) (some sl)) :
    Rel K H0 O (setA A i p) (σ.set i (some (.ref p))) H' ρ' ∧ Fr O A (setA A i p) H H' ρ ρ' := by
  obtain ⟨rfl, hi, nlk⟩ := setS_eq h
  have hs : i < σ.length := by rw [← r.len]; exact hi
  have fe : Ext (frz H (Ow O A)) (frz H' (Ow O (setA A i p))) := by
    refine ⟨fun b o hb tb => ?_, fun b o hb => ?_, fun b ⟨ps, hb, tt⟩ => ?_⟩
    · obtain ⟨c, hb⟩ := frz_of hb
      refine frz_mk (fun z => ?_) (e.keep b o hb tb)
      rcases setA_ow z with z | z
      · exact c z
      · subst z; rw [hn] at hb; cases hb
    · obtain ⟨c, hb⟩ := frz_of hb
      obtain ⟨o', h'⟩ := e.dom b o hb
      refine ⟨o', frz_mk (fun z => ?_) h'⟩
      rcases setA_ow z with z | z
      · exact c z
      · subst z; rw [hn] at hb; cases hb
    · obtain ⟨c, hb⟩ := frz_of hb
      obtain ⟨ps', h', t'⟩ := e.tb b ⟨ps, hb, tt⟩
      refine ⟨ps', frz_mk (fun z => ?_) h', t'⟩
      rcases setA_ow z with z | z
      · exact c z
      · subst z; rw [hn] at hb; cases hb
  refine ⟨⟨by rw [List.length_set, List.length_set]; exact r.len, r.ext.trans e, fun b h => lst_keep e (r.out b h), fun j a ea => ?_, fun j k a e1 e2 => ?_, fun j => ?_, fun P h => e.tb P (r.tabs P h)⟩, ⟨fe, fun j ys hj => ?_⟩⟩
  · unfold setA at ea
    by_cases z : j = i
    · rw [if_pos z] at ea; cases ea; exact r.ext.none hn
    · rw [if_neg z] at ea; exact r.new j a ea
  · have nj : ∀ k, A k = some p → False := fun k hk => by
      obtain ⟨o, q, _⟩ := r.lsts p (.inr ⟨k, hk⟩)
      rw [hn] at q; cases q
    unfold setA at e1 e2
    by_cases z : j = i
    · by_cases z2 : k = i
      · rw [z, z2]
      · rw [if_pos z] at e1; rw [if_neg z2] at e2
        cases e1
        exact (nj k e2).elim
    · by_cases z2 : k = i
      · rw [if_neg z] at e1; rw [if_pos z2] at e2
        cases e2
        exact (nj j e1).elim
      · rw [if_neg z] at e1; rw [if_neg z2] at e2
        exact r.inj j k a e1 e2
  · by_cases z : j = i
    · subst z
      rw [List.getElem?_set_self hs, List.getElem?_set_self hi]
      rw [show setA A j p j = some p by unfold setA; rw [if_pos rfl]] <;> exact hok
    · rw [List.getElem?_set_ne (Ne.symm z), List.getElem?_set_ne (Ne.symm z)]
      have eA : setA A i p j = A j := by unfold setA; rw [if_neg z]
      rw [eA]
      have s := r.slot j
      revert s
      cases ρ[j]? with
      | none => exact fun s => s
      | some y =>
        cases y with
        | no => exact fun s => s
        | va x => exact fun ⟨h0, u, h1, h2⟩ => ⟨h0, u, h1, dpMono fe _ _ h2⟩
        | rd x => exact fun ⟨h0, p, vs, h1, hz, h2, h3⟩ => ⟨h0, p, vs, h1, hz, e.rd rfl h2, dpMonoAll fe _ _ h3⟩
        | ow x => exact fun ⟨p, vs, h1, h2, h3, h4⟩ => ⟨p, vs, h1, h2, e.keep _ _ h3 rfl, dpMonoAll fe _ _ h4⟩
        | lk x => exact fun ⟨p, vs, h1, h2, h3, h4⟩ => ⟨p, vs, h1, h2, e.keep _ _ h3 rfl, dpMonoAll fe _ _ h4⟩
        | od x => exact fun ⟨p, o, h1, h2, h3, h4⟩ => ⟨p, o, h1, h2, e.keep _ _ h3 h4.tb, h4.mono fe⟩
        | rdd x => exact fun ⟨h0, p, o, h1, hz, h2, h3⟩ => ⟨h0, p, o, h1, hz, e.rd h3.tb h2, h3.mono fe⟩
  · have z : j ≠ i := fun z => by subst z; exact nlk ys hj
    refine ⟨by rw [List.getElem?_set_ne (Ne.symm z)]; exact hj, by unfold setA; rw [if_neg z], fun q ws _ hq => e.keep _ _ hq rfl⟩
theorem Rel.setOw (r : Rel K H0 O A σ H ρ) {i : Nat} {xs : List D} {p : Addr} {vs : List V} (h : setS ρ i (.ow xs) = some ρ') (e : Ext H H') (hn : H p = none) (hp : H' p = some (.lst vs)) (hd : DqAll K (frz H' fun b => Ow O A b ∨ b = p) vs xs) :
    Rel K H0 O (setA A i p) (σ.set i (some (.ref p))) H' ρ' ∧ Fr O A (setA A i p) H H' ρ ρ' :=
  r.setGen h e hn ⟨p, vs, rfl, rfl, hp, dpMonoAll (frz_sub fun b o _ z => setA_ow z) _ _ hd⟩
theorem Rel.setOd (r : Rel K H0 O A σ H ρ) {i : Nat} {kvs : List (D × D)} {p : Addr} {o : HO} (h : setS ρ i (.od kvs) = some ρ') (e : Ext H H') (hn : H p = none) (hp : H' p = some o) (hd : Dk K (frz H' fun b => Ow O A b ∨ b = p) o kvs) :
    Rel K H0 O (setA A i p) (σ.set i (some (.ref p))) H' ρ' ∧ Fr O A (setA A i p) H H' ρ ρ' :=
  r.setGen h e hn ⟨p, o, rfl, rfl, hp, hd.mono (frz_sub fun b o _ z => setA_ow z)⟩
/-- a name's own list goes over to another name -/
def movA (A : Nat → Option Addr) (i j : Nat) : Nat → Option Addr := fun k => if k = i then A j else if k = j then none else A k
theorem movA_ow {i j : Nat} {b : Addr} (h : Ow O (movA A i j) b) : Ow O A b := by
  rcases h with h | ⟨k, h⟩
  · exact .inl h
  · unfold movA at h
    by_cases e : k = i
    · rw [if_pos e] at h; exact .inr ⟨j, h⟩
    · rw [if_neg e] at h
      by_cases e2 : k = j
      · rw [if_pos e2] at h; cases h
      · rw [if_neg e2] at h; exact .inr ⟨k, h⟩
theorem Rel.moveGen (r : Rel K H0 O A σ H ρ) {i j : Nat} {sl : Sl} {p : Addr} (hj : ρ[j]? = some sl) (nl : ∀ xs, sl ≠ .lk xs) (ha : A j = some p) (hok : SlOk K H0 (Ow O (movA A i j)) H (some p) (some (some (.ref p))) (some sl)) (ne : i ≠ j) (h : setS ρ i sl = some ρ') :
    Rel K H0 O (movA A i j) (σ.set i (some (.ref p))) H (ρ'.set j .no) ∧ Fr O A (movA A i j) H H ρ (ρ'.set j .no) := by
  obtain ⟨rfl, hi, nlk⟩ := setS_eq h
  have hs : i < σ.length := by rw [← r.len]; exact hi
  have hjl : j < ρ.length := (List.getElem?_eq_some_iff.mp hj).1
  have fe : Ext (frz H (Ow O A)) (frz H (Ow O (movA A i j))) := frz_sub fun b o _ z => movA_ow z
  have old : ∀ k a, movA A i j k = some a → ∃ k', A k' = some a ∧ (k = i → k' = j) ∧ (k ≠ i → k' = k ∧ k ≠ j) := fun k a e => by
    unfold movA at e
    by_cases z : k = i
    · rw [if_pos z] at e; exact ⟨j, e, fun _ => rfl, fun c => (c z).elim⟩
    · rw [if_neg z] at e
      by_cases z2 : k = j
      · rw [if_pos z2] at e; cases e
      · rw [if_neg z2] at e; exact ⟨k, e, fun c => (z c).elim, fun _ => ⟨rfl, z2⟩⟩
  refine ⟨⟨by rw [List.length_set, List.length_set, List.length_set]; exact r.len, r.ext, r.out, fun k a e => ?_, fun k l a e1 e2 => ?_, fun k => ?_, r.tabs⟩, ⟨fe, fun k ys hk => ?_⟩⟩
  · obtain ⟨k', e', _⟩ := old k a e
    exact r.new k' a e'
  · obtain ⟨k', e1', f1, g1⟩ := old k a e1
    obtain ⟨l', e2', f2, g2⟩ := old l a e2
    have q := r.inj k' l' a e1' e2'
    by_cases z : k = i
    · by_cases z2 : l = i
      · rw [z, z2]
      · exact ((g2 z2).2 (by rw [← (g2 z2).1, ← q, f1 z])).elim
    · by_cases z2 : l = i
      · exact ((g1 z).2 (by rw [← (g1 z).1, q, f2 z2])).elim
      · rw [← (g1 z).1, ← (g2 z2).1]; exact q
  · by_cases z : k = i
    · subst z
      rw [List.getElem?_set_self hs, List.getElem?_set_ne (Ne.symm ne), List.getElem?_set_self hi]
      rw [show movA A k j k = some p by unfold movA; rw [if_pos rfl]; exact ha]
      exact hok
    · rw [List.getElem?_set_ne (Ne.symm z)]
      by_cases z2 : k = j
      · subst z2
        rw [List.getElem?_set_self (by rw [List.length_set]; exact hjl)]
        show movA A i k k = none
        unfold movA
        rw [if_neg z, if_pos rfl]
      · rw [List.getElem?_set_ne (Ne.symm z2), List.getElem?_set_ne (Ne.symm z)]
        have eA : movA A i j k = A k := by unfold movA; rw [if_neg z, if_neg z2]
        rw [eA]
        exact Rel.weakSlot (fun b h => movA_ow h) _ _ _ (r.slot k)
  · have z : k ≠ i := fun z => by subst z; exact nlk ys hk
    have z2 : k ≠ j := fun z => by subst z; rw [hj] at hk; exact nl ys (Option.some.inj hk)
    exact ⟨by rw [List.getElem?_set_ne (Ne.symm z2), List.getElem?_set_ne (Ne.symm z)]; exact hk, by unfold movA; rw [if_neg z, if_neg z2], fun q ws _ hq => hq⟩
theorem Rel.move (r : Rel K H0 O A σ H ρ) {i j : Nat} {xs : List D} {p : Addr} {vs : List V} (hj : ρ[j]? = some (.ow xs)) (ha : A j = some p) (hp : H p = some (.lst vs)) (hd : DqAll K (frz H (Ow O A)) vs xs) (ne : i ≠ j) (h : setS ρ i (.ow xs) = some ρ') :
    Rel K H0 O (movA A i j) (σ.set i (some (.ref p))) H (ρ'.set j .no) ∧ Fr O A (movA A i j) H H ρ (ρ'.set j .no) :=
  r.moveGen hj (fun ys z => by cases z) ha ⟨p, vs, rfl, rfl, hp, dpMonoAll (frz_sub fun b o _ z => movA_ow z) _ _ hd⟩ ne h
theorem Rel.moveD (r : Rel K H0 O A σ H ρ) {i j : Nat} {kvs : List (D × D)} {p : Addr} {o : HO} (hj : ρ[j]? = some (.od kvs)) (ha : A j = some p) (hp : H p = some o) (hd : Dk K (frz H (Ow O A)) o kvs) (ne : i ≠ j) (h : setS ρ i (.od kvs) = some ρ') :
    Rel K H0 O (movA A i j) (σ.set i (some (.ref p))) H (ρ'.set j .no) ∧ Fr O A (movA A i j) H H ρ (ρ'.set j .no) :=
  r.moveGen hj (fun ys z => by cases z) ha ⟨p, o, rfl, rfl, hp, hd.mono (frz_sub fun b o _ z => movA_ow z)⟩ ne h
/-- a list that is only read goes to another name, too -/
theorem Rel.setRd (r : Rel K H0 O A σ H ρ) {i : Nat} {xs : List D} {p : Addr} {vs : List V} (h1 : Rd H0 p (.lst vs)) (h2 : Rd H p (.lst vs)) (hd : DqAll K (frz H (Ow O A)) vs xs) (h : setS ρ i (.rd xs) = some ρ') :
    Rel K H0 O (dropA A i) (σ.set i (some (.ref p))) H ρ' ∧ Fr O A (dropA A i) H H ρ ρ' := by
  obtain ⟨rfl, hi, nlk⟩ := setS_eq h
  have hs : i < σ.length := by rw [← r.len]; exact hi
  have fe : Ext (frz H (Ow O A)) (frz H (Ow O (dropA A i))) := frz_sub fun b o _ z => dropA_ow z
  have old : ∀ k a, dropA A i k = some a → A k = some a ∧ k ≠ i := fun k a e => by
    unfold dropA at e
    by_cases z : k = i
    · rw [if_pos z] at e; cases e
    · rw [if_neg z] at e; exact ⟨e, z⟩
  refine ⟨⟨by rw [List.length_set, List.length_set]; exact r.len, r.ext, r.out, fun k a e => r.new k a (old k a e).1, fun k l a e1 e2 => r.inj k l a (old k a e1).1 (old l a e2).1, fun k => ?_, r.tabs⟩, ⟨fe, fun k ys hk => ?_⟩⟩
  · by_cases z : k = i
    · subst z
      rw [List.getElem?_set_self hs, List.getElem?_set_self hi]
      exact ⟨by unfold dropA; rw [if_pos rfl], p, vs, rfl, h1, h2, dpMonoAll fe _ _ hd⟩
    · rw [List.getElem?_set_ne (Ne.symm z), List.getElem?_set_ne (Ne.symm z)]
      have eA : dropA A i k = A k := by unfold dropA; rw [if_neg z]
      rw [eA]
      exact Rel.weakSlot (fun b h => dropA_ow h) _ _ _ (r.slot k)
  · have z : k ≠ i := fun z => by subst z; exact nlk ys hk
    exact ⟨by rw [List.getElem?_set_ne (Ne.symm z)]; exact hk, by unfold dropA; rw [if_neg z], fun q ws _ hq => hq⟩
/-- a name's own list is changed -/
theorem Rel.updGen (r : Rel K H0 O A σ H ρ) {i : Nat} {sl sn : Sl} {p : Addr} {ob on : HO} (h : ρ[i]? = some sl) (nl : ∀ xs, sl ≠ .lk xs) (ha : A i = some p) (hp : H p = some ob) (tb : isTbl ob = false) (lo : lstO on = true) (hok : Ext (frz H (Ow O A)) (frz (upd H p on) (Ow O A)) → SlOk K H0 (Ow O A) (upd H p on) (some p) σ[i]? (some sn)) :
    Rel K H0 O A σ (upd H p on) (ρ.set i sn) ∧ Fr O A A H (upd H p on) ρ (ρ.set i sn) := by
  have hi : i < ρ.length := (List.getElem?_eq_some_iff.mp h).1
  have hw : Ow O A p := .inr ⟨i, ha⟩
  have fe : Ext (frz H (Ow O A)) (frz (upd H p on) (Ow O A)) := .of fun b o hb => by
    obtain ⟨c, hb⟩ := frz_of hb
    have ne : b ≠ p := fun z => c (by rw [z]; exact hw)
    exact frz_mk c (by rw [upd_ne ne]; exact hb)
  have n0 := r.new i p ha
  refine ⟨⟨by rw [List.length_set]; exact r.len, ⟨fun b o hb tb => ?_, fun b o hb => ?_, fun b ⟨ps, hb, tt⟩ => ?_⟩, fun b hb => ?_, r.new, r.inj, fun j => ?_, fun P h => let ⟨ps, e, t⟩ := r.tabs P h; ⟨ps, by rw [upd_ne (fun z => by rw [z, hp] at e; cases e; cases tb)]; exact e, t⟩⟩, ⟨fe, fun j zs hj => ?_⟩⟩
  · have ne : b ≠ p := fun z => by rw [z, n0] at hb; cases hb
    rw [upd_ne ne]
    exact r.ext.keep b o hb tb
  · have ne : b ≠ p := fun z => by rw [z, n0] at hb; cases hb
    rw [upd_ne ne]
    exact r.ext.dom b o hb
  · have ne : b ≠ p := fun z => by rw [z, n0] at hb; cases hb
    obtain ⟨ps', h', t'⟩ := r.ext.tb b ⟨ps, hb, tt⟩
    exact ⟨ps', by rw [upd_ne ne]; exact h', t'⟩
  · by_cases e : b = p
    · subst e; exact ⟨_, upd_same, lo⟩
    · rw [upd_ne e]; exact r.out b hb
  · by_cases z : j = i
    · subst z
      rw [List.getElem?_set_self hi]
      rw [ha]
      exact hok fe
    · rw [List.getElem?_set_ne (Ne.symm z)]
      have nep : ∀ q, A j = some q → q ≠ p := fun q hq e => z (r.inj j i q hq (by rw [e]; exact ha))
      have s := r.slot j
      revert s
      cases ρ[j]? with
      | none => exact fun s => s
      | some y =>
        cases y with
        | no => exact fun s => s
        | va x => exact fun ⟨h0, u, h1, h2⟩ => ⟨h0, u, h1, dpMono fe _ _ h2⟩
        | rd x =>
          refine fun ⟨h0, q, us, h1, hz, h2, h3⟩ => ⟨h0, q, us, h1, hz, ?_, dpMonoAll fe _ _ h3⟩
          have ne : q ≠ p := fun e => by
            rcases hz with hz | ⟨o, hz⟩
            · rw [e, n0] at hz; cases hz
            · rw [e, n0] at hz; cases hz
          rcases h2 with h2 | ⟨o, h2⟩
          · exact .inl (by rw [upd_ne ne]; exact h2)
          · exact .inr ⟨o, by rw [upd_ne ne]; exact h2⟩
        | ow x => exact fun ⟨q, us, h1, h2, h3, h4⟩ => ⟨q, us, h1, h2, by rw [upd_ne (nep q h1)]; exact h3, dpMonoAll fe _ _ h4⟩
        | lk x => exact fun ⟨q, us, h1, h2, h3, h4⟩ => ⟨q, us, h1, h2, by rw [upd_ne (nep q h1)]; exact h3, dpMonoAll fe _ _ h4⟩
        | od x => exact fun ⟨q, us, h1, h2, h3, h4⟩ => ⟨q, us, h1, h2, by rw [upd_ne (nep q h1)]; exact h3, h4.mono fe⟩
        | rdd x =>
          refine fun ⟨h0, q, us, h1, hz, h2, h3⟩ => ⟨h0, q, us, h1, hz, ?_, h3.mono fe⟩
          have ne : q ≠ p := fun e => by
            rcases hz with hz | ⟨o, hz⟩
            · rw [e, n0] at hz; cases hz
            · rw [e, n0] at hz; cases hz
          rcases h2 with h2 | ⟨o, h2⟩
          · exact .inl (by rw [upd_ne ne]; exact h2)
          · exact .inr ⟨o, by rw [upd_ne ne]; exact h2⟩
  · have z : j ≠ i := fun z => by subst z; rw [h] at hj; exact nl zs (Option.some.inj hj)
    refine ⟨by rw [List.getElem?_set_ne (Ne.symm z)]; exact hj, rfl, fun q us hq hh => ?_⟩
    have ne : q ≠ p := fun e => z (r.inj j i q hq (by rw [e]; exact ha))
    rw [upd_ne ne]
    exact hh
theorem Rel.updOw (r : Rel K H0 O A σ H ρ) {i : Nat} {xs ys : List D} {p : Addr} {vs ws : List V} (h : ρ[i]? = some (.ow xs)) (ha : A i = some p) (hp : H p = some (.lst vs)) (hd : DqAll K (frz H (Ow O A)) ws ys) :
    Rel K H0 O A σ (upd H p (.lst ws)) (ρ.set i (.ow ys)) ∧ Fr O A A H (upd H p (.lst ws)) ρ (ρ.set i (.ow ys)) := by
  have si := r.slot i
  rw [h] at si
  obtain ⟨p', vs', a1, a2, a3, a4⟩ := si
  rw [ha] at a1
  cases a1
  exact r.updGen h (fun ys z => by cases z) ha hp rfl rfl fun fe => ⟨p, ws, rfl, a2, upd_same, dpMonoAll fe _ _ hd⟩
/-- a name's own dict is changed -/
theorem Rel.updOd (r : Rel K H0 O A σ H ρ) {i : Nat} {xs ys : List (D × D)} {p : Addr} {vs ws : List (L2.Key × V)} (h : ρ[i]? = some (.od xs)) (ha : A i = some p) (hp : H p = some (.dK vs)) (hd : DkAll K (frz H (Ow O A)) ws ys) :
    Rel K H0 O A σ (upd H p (.dK ws)) (ρ.set i (.od ys)) ∧ Fr O A A H (upd H p (.dK ws)) ρ (ρ.set i (.od ys)) := by
  have si := r.slot i
  rw [h] at si
  obtain ⟨p', vs', a1, a2, a3, a4⟩ := si
  rw [ha] at a1
  cases a1
  exact r.updGen h (fun ys z => by cases z) ha hp rfl rfl fun fe => ⟨p, _, rfl, a2, upd_same, ws, rfl, dkMono fe hd⟩
theorem setsS_lk : ∀ {is : List Nat} {xs : List D} {ρ ρ' : List Sl}, setsS ρ is xs = some ρ' → ∀ i ys, ρ[i]? = some (.lk ys) → ρ'[i]? = some (.lk ys) ∧ i ∉ is
  | [], xs, ρ, ρ', h, i, ys, hi => by
    cases xs with
    | nil => cases h; exact ⟨hi, by simp⟩
    | cons => cases h
  | j :: is, xs, ρ, ρ', h, i, ys, hi => by
    cases xs with
    | nil => cases h
    | cons x xs =>
      simp only [setsS] at h
      obtain ⟨ρ1, h1, h⟩ := Option.bind_eq_some_iff.mp h
      obtain ⟨rfl, hj, nlk⟩ := setS_eq h1
      have ne : i ≠ j := fun z => by subst z; exact nlk ys hi
      obtain ⟨a, b⟩ := setsS_lk h i ys (by rw [List.getElem?_set_ne (Ne.symm ne)]; exact hi)
      exact ⟨a, by simp [ne, b]⟩
theorem asgD_lk {t : Tg} {x : D} (h : asgD t x ρ = some ρ') : ∀ i ys, ρ[i]? = some (.lk ys) → ρ'[i]? = some (.lk ys) ∧ i ∉ t.slots := by
  intro i ys hi
  cases t with
  | nm j =>
    obtain ⟨rfl, hj, nlk⟩ := setS_eq h
    have ne : i ≠ j := fun z => by subst z; exact nlk ys hi
    exact ⟨by rw [List.getElem?_set_ne (Ne.symm ne)]; exact hi, by simp [Tg.slots, ne]⟩
  | tp is =>
    cases x <;> simp only [asgD] at h <;> try cases h
    exact setsS_lk h i ys hi
/-- a target stored: with its frame -/
theorem gGoF {Q : L2.St → Hp → Prop} {t : Tg} {x : D} {v : V} (r : Rel K H0 O A σ H ρ) (h : asgD t x ρ = some ρ') (d : Dq K (frz H (Ow O A)) v x)
    (q : ∀ A' σ', Rel K H0 O A' σ' H ρ' → Fr O A A' H H ρ ρ' → Q σ' H) : gOf K t v σ H Q :=
  gGo r h d fun A' σ' r' sub len same => by
    refine q A' σ' r' ⟨frz_sub fun b o _ z => ?_, fun i xs hi => ?_⟩
    · rcases z with z | ⟨j, z⟩
      · exact .inl z
      · rcases sub j with e | e
        · exact .inr ⟨j, by rw [← e]; exact z⟩
        · rw [e] at z; cases z
    · obtain ⟨a, b⟩ := asgD_lk h i xs hi
      exact ⟨a, (same i b).1, fun p vs _ hh => hh⟩
theorem lockS_get : ∀ (is : List Nat) (ρ : List Sl) (i : Nat), (lockS is ρ)[i]? = match ρ[i]? with | some (.ow xs) => if i ∈ is then some (.lk xs) else some (.ow xs) | o => o
  | [], ρ, i => by
    simp only [lockS, List.not_mem_nil, if_false]
    split <;> simp_all
  | j :: is, ρ, i => by
    have ih := lockS_get is ρ
    simp only [lockS]
    split
    · rename_i xs hj
      by_cases e : j = i
      · subst e
        have hlt : j < (lockS is ρ).length := (List.getElem?_eq_some_iff.mp hj).1
        rw [List.getElem?_set_self hlt]
        rw [ih j] at hj
        cases hρ : ρ[j]? with
        | none => rw [hρ] at hj; cases hj
        | some y =>
          rw [hρ] at hj
          cases y with
          | ow ys =>
            dsimp only at hj ⊢
            split at hj
            · cases hj
            · cases hj; simp
          | _ => cases hj
      · rw [List.getElem?_set_ne e, ih i]
        have : (i ∈ j :: is) ↔ i ∈ is := by simp [Ne.symm e]
        simp only [this]
    · rename_i hj
      rw [ih i]
      by_cases e : j = i
      · subst e
        cases hρ : ρ[j]? with
        | none => rfl
        | some y =>
          cases y with
          | ow ys =>
            dsimp only
            by_cases hm : j ∈ is
            · simp [hm]
            · exfalso
              refine hj ys ?_
              rw [ih j, hρ]
              simp [hm]
          | _ => rfl
      · have : (i ∈ j :: is) ↔ i ∈ is := by simp [Ne.symm e]
        simp only [this]
theorem unlockS_get : ∀ (is : List Nat) (ρ : List Sl) (i : Nat), (unlockS is ρ)[i]? = match ρ[i]? with | some (.lk xs) => if i ∈ is then some (.ow xs) else some (.lk xs) | o => o
  | [], ρ, i => by
    simp only [unlockS, List.not_mem_nil, if_false]
    split <;> simp_all
  | j :: is, ρ, i => by
    have ih := unlockS_get is ρ
    simp only [unlockS]
    split
    · rename_i xs hj
      by_cases e : j = i
      · subst e
        have hlt : j < (unlockS is ρ).length := (List.getElem?_eq_some_iff.mp hj).1
        rw [List.getElem?_set_self hlt]
        rw [ih j] at hj
        cases hρ : ρ[j]? with
        | none => rw [hρ] at hj; cases hj
        | some y =>
          rw [hρ] at hj
          cases y with
          | lk ys =>
            dsimp only at hj ⊢
            split at hj
            · cases hj
            · cases hj; simp
          | _ => cases hj
      · rw [List.getElem?_set_ne e, ih i]
        have : (i ∈ j :: is) ↔ i ∈ is := by simp [Ne.symm e]
        simp only [this]
    · rename_i hj
      rw [ih i]
      by_cases e : j = i
      · subst e
        cases hρ : ρ[j]? with
        | none => rfl
        | some y =>
          cases y with
          | lk ys =>
            dsimp only
            by_cases hm : j ∈ is
            · simp [hm]
            · exfalso
              refine hj ys ?_
              rw [ih j, hρ]
              simp [hm]
          | _ => rfl
      · have : (i ∈ j :: is) ↔ i ∈ is := by simp [Ne.symm e]
        simp only [this]
theorem len_of_get {ρ ρ' : List Sl} (h : ∀ i : Nat, (ρ'[i]? = none ↔ ρ[i]? = none)) : ρ'.length = ρ.length := by
  have h1 := h ρ.length
  have h2 := h ρ'.length
  rw [List.getElem?_eq_none_iff, List.getElem?_eq_none_iff] at h1 h2
  have a := h1.mpr (Nat.le_refl _)
  have b := h2.mp (Nat.le_refl _)
  omega
theorem Rel.same {ρ' : List Sl} (r : Rel K H0 O A σ H ρ) (h : ∀ i : Nat, (ρ'[i]? = none ↔ ρ[i]? = none)) (hs : ∀ i : Nat, SlOk K H0 (Ow O A) H (A i) σ[i]? ρ[i]? → SlOk K H0 (Ow O A) H (A i) σ[i]? ρ'[i]?) : Rel K H0 O A σ H ρ' :=
  ⟨by rw [len_of_get h]; exact r.len, r.ext, r.out, r.new, r.inj, fun i => hs i (r.slot i), r.tabs⟩
theorem Rel.lock (r : Rel K H0 O A σ H ρ) (is : List Nat) : Rel K H0 O A σ H (lockS is ρ) := by
  refine r.same (fun i => ?_) fun i s => ?_
  · rw [lockS_get]
    split
    · rename_i xs hx
      rw [hx]
      split <;> simp
    · exact Iff.rfl
  · rw [lockS_get]
    revert s
    split
    · rename_i xs hx
      rw [hx]
      split
      · exact fun s => s
      · exact fun s => s
    · exact fun s => s
theorem Rel.unlock (r : Rel K H0 O A σ H ρ) (is : List Nat) : Rel K H0 O A σ H (unlockS is ρ) := by
  refine r.same (fun i => ?_) fun i s => ?_
  · rw [unlockS_get]
    split
    · rename_i xs hx
      rw [hx]
      split <;> simp
    · exact Iff.rfl
  · rw [unlockS_get]
    revert s
    split
    · rename_i xs hx
      rw [hx]
      split
      · exact fun s => s
      · exact fun s => s
    · exact fun s => s
end
end WM

/-! ## part L: statements keep their word -/
namespace WM
open PySem PySem.Spec PyProof.Rows L2
variable [τ : Tabs]

def Post (K : Frag) (H0 : Hp) (O : Msk) (A : Nat → Option Addr) (H : Hp) (ρ : List Sl) (D : Ends) : Out → Prop
  | .next ρ' => ∀ A' σ' H', Rel K H0 O A' σ' H' ρ' → Fr O A A' H H' ρ ρ' → D.nx σ' H'
  | .brk ρ' => ∀ A' σ' H', Rel K H0 O A' σ' H' ρ' → Fr O A A' H H' ρ ρ' → D.bk σ' H'
  | .cnt ρ' => ∀ A' σ' H', Rel K H0 O A' σ' H' ρ' → Fr O A A' H H' ρ ρ' → D.ct σ' H'
  | .ret r => ∀ v H', Ext H0 H' → Rv K O H0 H' v r → D.rt v H'
section
variable (K : Frag) (G : Gt) (Φ : Phi) (W : Nat)
def tSt (s : S) : TS := fun D σ H => ∃ H0 O A ρ o, Rel K H0 O A σ H ρ ∧ ex G Φ W s ρ = some o ∧ Post K H0 O A H ρ D o
def tSs (s : Ss) : TS := fun D σ H => ∃ H0 O A ρ o, Rel K H0 O A σ H ρ ∧ exs G Φ W s ρ = some o ∧ Post K H0 O A H ρ D o
end
section
variable {K : Frag} {G : Gt} {Φ : Phi} {W : Nat} {X : Cx} {H0 H H' : Hp} {O : Msk} {A A' : Nat → Option Addr} {σ : L2.St} {ρ ρ' : List Sl} {D : Ends} {o : Out}
theorem Post.from (p : Post K H0 O A H ρ D o) (f : Fr O A A' H H' ρ ρ') : Post K H0 O A' H' ρ' D o := by
  cases o with
  | next r => exact fun A2 σ2 H2 r2 f2 => p A2 σ2 H2 r2 (f.trans f2)
  | brk r => exact fun A2 σ2 H2 r2 f2 => p A2 σ2 H2 r2 (f.trans f2)
  | cnt r => exact fun A2 σ2 H2 r2 f2 => p A2 σ2 H2 r2 (f.trans f2)
  | ret r => exact p
theorem psImp {st : Stmt} {t t' : TS} (h : PS X st t) (i : ∀ D σ H, t' D σ H → t D σ H) : PS X st t' := ⟨fun pins s σ H D I q => h.run pins s σ H D I (i D σ H q)⟩
theorem pssImp {st : List Stmt} {t t' : TS} (h : PSs X st t) (i : ∀ D σ H, t' D σ H → t D σ H) : PSs X st t' := ⟨fun pins s σ H D I q => h.run pins s σ H D I (i D σ H q)⟩
theorem psNil : PSs X [] (tSs K G Φ W .nil) := pssImp pss_nil fun D σ H ⟨H0, O, A, ρ, o, rel, h, q⟩ => by
  simp only [exs] at h
  cases h
  exact q A σ H rel Fr.refl
theorem psCons {s : S} {ss : Ss} {st : Stmt} {sts : List Stmt} (h1 : PS X st (tSt K G Φ W s)) (h2 : PSs X sts (tSs K G Φ W ss)) : PSs X (st :: sts) (tSs K G Φ W (.cons s ss)) :=
  pssImp (pss_cons h1 h2) fun D σ H ⟨H0, O, A, ρ, o, rel, h, q⟩ => by
    simp only [exs] at h
    obtain ⟨o1, ho1, h⟩ := Option.bind_eq_some_iff.mp h
    refine ⟨H0, O, A, ρ, o1, rel, ho1, ?_⟩
    cases o1 with
    | next ρ1 => exact fun A' σ' H' r' f' => ⟨H0, O, A', ρ1, o, r', h, q.from f'⟩
    | brk ρ1 => cases h; exact q
    | cnt ρ1 => cases h; exact q
    | ret r => cases h; exact q
/-- a result goes out of a def -/
theorem Rv.out {v : V} {r : R} (h : Rv K (Ow O A) H H' v r) (nb : notB r) (e : Ext H0 H) : Rv K O H0 H' v r := by
  have w : ∀ b, O b → Ow O A b := fun b z => .inl z
  cases r with
  | d x => exact dpMono (frz_sub fun b o _ z => w b z) _ _ h
  | f xs =>
    obtain ⟨a, vs, h0, h1, h2, h3⟩ := h
    exact ⟨a, vs, h0, e.none h1, h2, dpMonoAll (frz_sub fun b o _ z => z.imp (w b) _root_.id) _ _ h3⟩
  | b xs => exact nb.elim
  | fd kvs =>
    obtain ⟨a, o, h0, h1, h2, h3⟩ := h
    exact ⟨a, o, h0, e.none h1, h2, h3.mono (frz_sub fun b o _ z => z.imp (w b) _root_.id)⟩
  | bd kvs => exact nb.elim
theorem psRet {e : E} {x : Expr} {pos : Pos} (ha : PE X x (tE K G Φ e)) (hv : isVar e = false) : PS X (.Return (some x) pos) (tSt K G Φ W (.ret e)) :=
  psImp (ps_ret ha) fun D σ H ⟨H0, O, A, ρ, o, rel, h, q⟩ => by
    simp only [ex] at h
    obtain ⟨r, hr, h⟩ := Option.bind_eq_some_iff.mp h
    obtain ⟨r', hr', rfl⟩ := Option.map_eq_some_iff.mp h
    refine tE.go rel hr fun v H1 e1 l1 r1 v1 => ?_
    have nb : notB r ∧ r' = r := by
      cases r with
      | b xs =>
        exfalso
        simp only [retR] at hr'
        split at hr'
        · cases hv
        · cases hr'
      | bd xs =>
        exfalso
        simp only [retR] at hr'
        split at hr'
        · cases hv
        · cases hr'
      | _ => cases hr'; exact ⟨trivial, rfl⟩
    obtain ⟨nb, rfl⟩ := nb
    exact q v H1 r1.ext (v1.out nb rel.ext)
theorem psRetV {L : Lk} {n : Nat} {sc : Scope} {i : Nat} {x : Str} {p pos : Pos} (c : CxOk L Φ n j sc X) (h1 : L.N[i]? = some x) (h2 : visB sc x = true) (h3 : nameOk x = true) : PS X (.Return (some (.Name x p)) pos) (tSt X.K G Φ W (.ret (.var i))) := by
  simp only [nameOk, Bool.and_eq_true, Bool.not_eq_true'] at h3
  have v : Vis X.env.scope x := by rw [c.scope]; exact visOk x h2
  refine psImp (ps_ret (pe_var (by rw [c.names]; exact h1) v h3.1 h3.2)) fun D σ H ⟨H0, O, A, ρ, o, rel, h, q⟩ => ?_
  simp only [ex, ev, fin] at h
  obtain ⟨r, hr, h⟩ := Option.bind_eq_some_iff.mp h
  obtain ⟨r', hr', rfl⟩ := Option.map_eq_some_iff.mp h
  have s := rel.slot i
  split at hr
  · rename_i d hd
    cases hr
    simp only [retR] at hr'
    cases hr'
    rw [hd] at s
    obtain ⟨_, u, e1, e2⟩ := s
    exact ⟨u, e1, q u H rel.ext (dpMono (frz_sub fun b o _ z => .inl z) _ _ e2)⟩
  · rename_i d hd
    cases hr
    simp only [retR, hd] at hr'
    cases hr'
    rw [hd] at s
    obtain ⟨p, vs, e0, e1, e2, e3⟩ := s
    exact ⟨_, e1, q _ H rel.ext ⟨p, vs, rfl, rel.new i p e0, e2, dpMonoAll (frz_sub fun b o _ z => z.elim .inl fun z => .inr ⟨i, by rw [z]; exact e0⟩) _ _ e3⟩⟩
  · rename_i d hd
    cases hr
    simp only [retR, hd] at hr'
    cases hr'
    rw [hd] at s
    obtain ⟨p, vs, e0, e1, e2, e3⟩ := s
    exact ⟨_, e1, q _ H rel.ext ⟨p, vs, rfl, rel.new i p e0, e2, dpMonoAll (frz_sub fun b o _ z => z.elim .inl fun z => .inr ⟨i, by rw [z]; exact e0⟩) _ _ e3⟩⟩
  · rename_i d hd
    cases hr
    simp only [retR, hd] at hr'
    cases hr'
  · rename_i d hd
    cases hr
    simp only [retR, hd] at hr'
    cases hr'
    rw [hd] at s
    obtain ⟨p, o, e0, e1, e2, e3⟩ := s
    exact ⟨_, e1, q _ H rel.ext ⟨p, o, rfl, rel.new i p e0, e2, e3.mono (frz_sub fun b o _ z => z.elim .inl fun z => .inr ⟨i, by rw [z]; exact e0⟩)⟩⟩
  · rename_i d hd
    cases hr
    simp only [retR, hd] at hr'
    cases hr'
  · cases hr
theorem psIte {c : E} {a b : Ss} {x : Expr} {ya yb : List Stmt} {pos : Pos} (hc : PT X x (tT K G Φ c)) (ha : PSs X ya (tSs K G Φ W a)) (hb : PSs X yb (tSs K G Φ W b)) : PS X (.If x ya yb pos) (tSt K G Φ W (.ite c a b)) :=
  psImp (ps_if hc ha hb) fun D σ H ⟨H0, O, A, ρ, o, rel, h, q⟩ => by
    simp only [ex] at h
    obtain ⟨k, hk, h⟩ := Option.bind_eq_some_iff.mp h
    refine tT.go rel hk fun H1 e1 l1 r1 => ?_
    cases k with
    | true =>
      rw [if_pos rfl]
      exact ⟨H0, O, A, ρ, o, r1, h, q.from (Fr.of e1)⟩
    | false =>
      rw [if_neg Bool.false_ne_true]
      exact ⟨H0, O, A, ρ, o, r1, h, q.from (Fr.of e1)⟩
/-! ### assignments -/
theorem asgGo {t : Tg} {r : R} {v : V} (rel : Rel K H0 O A σ H ρ) (h : asgR t r ρ = some ρ') (e : Ext H H') (rv : Rv K (Ow O A) H H' v r) {Q : L2.St → Hp → Prop} (q : ∀ A' σ', Rel K H0 O A' σ' H' ρ' → Fr O A A' H H' ρ ρ' → Q σ' H') : gOf K t v σ H' Q := by
  cases t with
  | nm i =>
    cases r with
    | d x => exact gGoF (t := .nm i) (x := x) (rel.mono e) h rv fun A' σ' r' f => q A' σ' r' ((Fr.of e).trans f)
    | f xs =>
      obtain ⟨p, vs, rfl, hn, hp, hd⟩ := rv
      obtain ⟨r', f⟩ := rel.setOw h e hn hp hd
      exact q _ _ r' f
    | b xs => cases h
    | fd kvs =>
      obtain ⟨p, o, rfl, hn, hp, hd⟩ := rv
      obtain ⟨r', f⟩ := rel.setOd h e hn hp hd
      exact q _ _ r' f
    | bd kvs => cases h
  | tp is =>
    cases r with
    | d x =>
      cases x with
      | tuple xs => exact gGoF (t := .tp is) (x := .tuple xs) (rel.mono e) h rv fun A' σ' r' f => q A' σ' r' ((Fr.of e).trans f)
      | _ => cases h
    | f xs => cases h
    | b xs => cases h
    | fd xs => cases h
    | bd xs => cases h
theorem asgM_eq {t : Tg} {e : E} {r : R} (hv : isVar e = false ∨ ∃ is, t = .tp is) (h : asgM t e r ρ = some ρ') : asgR t r ρ = some ρ' := by
  cases r with
  | b xs =>
    exfalso
    simp only [asgM] at h
    unfold movR at h
    split at h
    · rcases hv with hv | ⟨is, hv⟩
      · cases hv
      · cases hv
    · cases h
  | bd xs =>
    exfalso
    simp only [asgM] at h
    unfold movR at h
    split at h
    · rcases hv with hv | ⟨is, hv⟩
      · cases hv
      · cases hv
    · cases h
  | _ => exact h
theorem psAsg {t : Tg} {e : E} {tg x : Expr} {pos : Pos} (hv : isVar e = false ∨ ∃ is, t = .tp is) (ha : PE X x (tE K G Φ e)) (hg : PG X tg (gOf K t)) (hs : swapsWithSole [tg] x pos.line X.env = pure false) (hw : swappedStores [tg] x X.env = pure none) (h1 : (assignEach [tg] X.env).map (·.2) = [assign tg X.env]) :
    PS X (.Assign [tg] x pos) (tSt K G Φ W (.asg t e)) :=
  psImp (ps_asg ha hg hs hw h1) fun D σ H ⟨H0, O, A, ρ, o, rel, h, q⟩ => by
    simp only [ex] at h
    obtain ⟨r, hr, h⟩ := Option.bind_eq_some_iff.mp h
    obtain ⟨ρ', hρ, rfl⟩ := Option.map_eq_some_iff.mp h
    exact tE.go rel hr fun v H1 e1 l1 r1 v1 => asgGo rel (asgM_eq hv hρ) e1 v1 fun A' σ' r' f => q A' σ' H1 r' f
/-- a name set to another name's value -/
theorem psAsgV {i j : Nat} {tg x : Expr} {pos : Pos} (ha : PE X x (tVar j)) (hg : PG X tg (gOf K (.nm i))) (hs : swapsWithSole [tg] x pos.line X.env = pure false) (hw : swappedStores [tg] x X.env = pure none) (h1 : (assignEach [tg] X.env).map (·.2) = [assign tg X.env]) :
    PS X (.Assign [tg] x pos) (tSt K G Φ W (.asg (.nm i) (.var j))) :=
  psImp (ps_asg ha hg hs hw h1) fun D σ H ⟨H0, O, A, ρ, o, rel, h, q⟩ => by
    simp only [ex, ev, fin] at h
    obtain ⟨r, hr, h⟩ := Option.bind_eq_some_iff.mp h
    obtain ⟨ρ', hρ, rfl⟩ := Option.map_eq_some_iff.mp h
    have s := rel.slot j
    split at hr
    · rename_i d hd
      cases hr
      rw [hd] at s
      obtain ⟨_, u, e1, e2⟩ := s
      exact ⟨u, e1, asgGo (t := .nm i) (r := .d d) rel hρ (Ext.refl _) e2 fun A' σ' r' f => q A' σ' H r' f⟩
    · rename_i d hd
      cases hr
      simp only [asgM, movR, hd] at hρ
      rw [hd] at s
      obtain ⟨p, vs, e0, e1, e2, e3⟩ := s
      by_cases c : i = j
      · rw [if_pos c] at hρ; cases hρ
      · rw [if_neg c] at hρ
        obtain ⟨ρ1, k1, rfl⟩ := Option.map_eq_some_iff.mp hρ
        obtain ⟨r', f⟩ := rel.move hd e0 e2 e3 c k1
        exact ⟨_, e1, q _ _ H r' f⟩
    · rename_i d hd
      cases hr
      simp only [asgM, movR, hd] at hρ
      cases hρ
    · rename_i d hd
      cases hr
      simp only [asgM, movR, hd] at hρ
      rw [hd] at s
      obtain ⟨e0, p, vs, e1, e2, e3, e4⟩ := s
      obtain ⟨r', f⟩ := rel.setRd e2 e3 e4 hρ
      exact ⟨_, e1, q _ _ H r' f⟩
    · rename_i d hd
      cases hr
      simp only [asgM, movR, hd] at hρ
      rw [hd] at s
      obtain ⟨p, o, e0, e1, e2, e3⟩ := s
      by_cases c : i = j
      · rw [if_pos c] at hρ; cases hρ
      · rw [if_neg c] at hρ
        obtain ⟨ρ1, k1, rfl⟩ := Option.map_eq_some_iff.mp hρ
        obtain ⟨r', f⟩ := rel.moveD hd e0 e2 e3 c k1
        exact ⟨_, e1, q _ _ H r' f⟩
    · rename_i d hd
      cases hr
      simp only [asgM, movR, hd] at hρ
      cases hρ
    · cases hr
/-! ### a list of one's own -/
theorem swOne {z x : Expr} {y : Str} {p p2 : Pos} {l : Nat} {env : Env} (hs : swapsWithSole [.Subscript (.Name y p) z p2] x l env = pure false) : swapsWith x (some (.Subscript (.Name y p) z p2)) l env = pure false := hs
theorem psSeti {n : Nat} {i : Nat} {k e : E} {y : Str} {z x : Expr} {p p2 pos : Pos} (hK : X.K = K) (hr : Room n X.A) (hy : PE X (.Name y p) (tVar i)) (hz : PE X z (tE K G Φ k)) (hx : PE X x (tE K G Φ e)) (hpl : plainE z = true) (hs : swapsWithSole [.Subscript (.Name y p) z p2] x pos.line X.env = pure false) :
    PS X (.Assign [.Subscript (.Name y p) z p2] x pos) (tSt K G Φ W (.seti i k e)) := by
  subst hK
  refine ⟨fun pins s σ H D I ⟨H0, O, A, ρ, o, rel, h, q⟩ => ?_⟩
  have hl := hlen_of I
  simp only [ex] at h
  obtain ⟨r, hr1, h⟩ := Option.bind_eq_some_iff.mp h
  obtain ⟨d, hd, h⟩ := Option.bind_eq_some_iff.mp h
  split at h
  · rename_i xs hi
    refine (ps_asg hx (pg_sub hy hz set_list (by intro v; cases z <;> first | rfl | cases hpl)) hs rfl rfl).run pins s σ H D I ?_
    obtain ⟨r2, hr2, h⟩ := Option.bind_eq_some_iff.mp h
    split at h
    · rename_i j hj
      obtain ⟨m, hm, rfl⟩ := Option.map_eq_some_iff.mp h
      refine tE.go rel hr1 fun v H1 e1 l1 r1 v1 => ?_
      have sl := r1.slot i
      rw [hi] at sl
      obtain ⟨a, vs, a1, a2, a3, a4⟩ := sl
      refine ⟨_, a2, ?_⟩
      refine tE.go r1 hr2 fun u H2 e2 l2 r2' v2 => ?_
      have c := v2.cv
      rw [hj] at c
      have a3' := e2.keep _ _ a3 rfl
      have a4' := dpMonoAll e2.frz _ _ a4
      have dv : Dq X.K (frz H2 (Ow O A)) v d := dpMono e2.frz _ _ (v1.share rel.domO hd)
      refine ⟨a, vs, j, m, rfl, c.int, a3', by rw [DqAll.len a4]; exact hm, ?_⟩
      obtain ⟨r3, f3⟩ := r2'.updOw (ws := vs.set m v) (ys := xs.set m d) hi a1 a3' (DqAll.set m a4' dv)
      exact q A σ _ r3 ((Fr.of (e1.trans e2)).trans f3)
    · cases h
  · rename_i kvs hi
    refine (ps_dput (by have := hr.units; omega) hy hz hx (swOne hs)).run pins s σ H D I ?_
    obtain ⟨r2, hr2, h⟩ := Option.bind_eq_some_iff.mp h
    split at h
    · rename_i hk
      cases h
      rw [Bool.and_eq_true] at hk
      refine tE.go rel hr1 fun v H1 e1 l1 r1 v1 => ?_
      have sl := r1.slot i
      rw [hi] at sl
      obtain ⟨a, o, a1, a2, a3, ks, rfl, a4⟩ := sl
      refine ⟨_, a2, ?_⟩
      refine tE.go r1 hr2 fun u H2 e2 l2 r2' v2 => ?_
      have c : Dq X.K (frz H2 (Ow O A)) u r2.toD := by
        have c := v2.cv
        have hk1 := hk.1
        revert c hk1
        cases r2.toD <;> intro c hk1 <;> first | (cases hk1; done) | exact c
      obtain ⟨kk, rfl⟩ := key_of_d c hk.1
      have a3' := e2.keep _ _ a3 rfl
      have a4' := dkMono e2.frz a4
      have dv : Dq X.K (frz H2 (Ow O A)) v d := dpMono e2.frz _ _ (v1.share rel.domO hd)
      have z := szOk_le hk.2
      refine ⟨a, _, rfl, L2.DPut.k a3' (by rw [dk_len a4]; omega), ?_⟩
      obtain ⟨r3, f3⟩ := r2'.updOd (ws := _) (ys := putD kvs r2.toD d) hi a1 a3' (dk_put a4' c dv)
      exact q A σ _ r3 ((Fr.of (e1.trans e2)).trans f3)
    · cases h
  · cases h
theorem fewOk {x : Expr} {cp : Pos} {env : Env} (hp : plainE x = true) : ((backTo cp (starEach [x] env)).all (fun x => !x.1) && (backToKw cp (keywordEach [] env)).all (fun x => x.1.isSome) && decide (([x] : List Expr).length + ([] : List Keyword).length + (if ([] : List Keyword).isEmpty then 0 else 1) < 30)) = true := by
  rw [plainStar hp]; rfl
theorem psApp {i : Nat} {e : E} {y : Str} {x : Expr} {p ap cp pos : Pos} (hK : X.K = K) (hy : PE X (.Name y p) (tVar i)) (hx : PE X x (tE K G Φ e)) (hp : plainE x = true) (hl : (ap.endLine == cp.line) = true) :
    PS X (.Expr (.Call (.Attribute (.Name y p) (Str.ofString "append") ap) [x] [] cp) pos) (tSt K G Φ W (.app i e)) := by
  subst hK
  refine psImp (ps_expr (pe_bm PySem.F.plainAttrs_list PySem.F.slot_list_append PySem.F.type_list_append mt_append hy (pa_cons hx pa_nil (plainStar hp)) rfl (fewOk hp) hl (plainStar hp) rfl)) fun D σ H ⟨H0, O, A, ρ, o, rel, h, q⟩ => ?_
  simp only [ex] at h
  split at h
  · rename_i xs hi
    obtain ⟨r, hr, h⟩ := Option.bind_eq_some_iff.mp h
    obtain ⟨d, hd, h⟩ := Option.bind_eq_some_iff.mp h
    split at h
    · rename_i hz
      cases h
      have sl := rel.slot i
      rw [hi] at sl
      obtain ⟨a, vs, a1, a2, a3, a4⟩ := sl
      refine ⟨_, a2, .inl ⟨rfl, _, .inl (.inl a3)⟩, ?_⟩
      refine tE.go rel hr fun v H1 e1 l1 r1 v1 => ?_
      have a3' := e1.keep _ _ a3 rfl
      have a4' := dpMonoAll e1.frz _ _ a4
      have z := szOk_le hz
      refine ⟨a, vs, v, rfl, rfl, a3', by rw [DqAll.len a4]; omega, ?_⟩
      obtain ⟨r3, f3⟩ := r1.updOw (ws := vs ++ [v]) (ys := xs ++ [d]) hi a1 a3' (DqAll.snoc a4' (v1.share rel.domO hd))
      exact q A σ _ r3 ((Fr.of e1).trans f3)
    · cases h
  · cases h
theorem psExt {i : Nat} {e : E} {y : Str} {x : Expr} {p ap cp pos : Pos} (hK : X.K = K) (hy : PE X (.Name y p) (tVar i)) (hx : PE X x (tE K G Φ e)) (hp : plainE x = true) (hl : (ap.endLine == cp.line) = true) :
    PS X (.Expr (.Call (.Attribute (.Name y p) (Str.ofString "extend") ap) [x] [] cp) pos) (tSt K G Φ W (.ext i e)) := by
  subst hK
  refine psImp (ps_expr (pe_bm PySem.F.plainAttrs_list PySem.F.slot_list_extend PySem.F.type_list_extend mt_extend hy (pa_cons hx pa_nil (plainStar hp)) rfl (fewOk hp) hl (plainStar hp) rfl)) fun D σ H ⟨H0, O, A, ρ, o, rel, h, q⟩ => ?_
  simp only [ex] at h
  split at h
  · rename_i xs hi
    obtain ⟨r, hr, h⟩ := Option.bind_eq_some_iff.mp h
    split at h
    · rename_i ys hys
      split at h
      · rename_i hz
        cases h
        have sl := rel.slot i
        rw [hi] at sl
        obtain ⟨a, vs, a1, a2, a3, a4⟩ := sl
        refine ⟨_, a2, .inl ⟨rfl, _, .inl (.inl a3)⟩, ?_⟩
        refine tE.go rel hr fun v H1 e1 l1 r1 v1 => ?_
        have a3' := e1.keep _ _ a3 rfl
        have a4' := dpMonoAll e1.frz _ _ a4
        have z := szOk_le hz
        have sh : r.share = some (.list ys) := by
          cases hh : r.share with
          | none => rw [hh] at hys; cases hys
          | some w => rw [hh] at hys; exact congrArg some hys
        have dv := v1.share rel.domO sh
        obtain ⟨b, ws, rfl, hb, db⟩ : ∃ b ws, v = .ref b ∧ frz H1 (Ow O A) b = some (.lst ws) ∧ DqAll X.K (frz H1 (Ow O A)) ws ys := by
          cases dv with
          | lst s a => exact ⟨_, _, rfl, s, a⟩
        refine ⟨a, b, vs, ws, rfl, rfl, a3', (frz_of hb).2, by rw [DqAll.len a4, DqAll.len db]; omega, ?_⟩
        obtain ⟨r3, f3⟩ := r1.updOw (ws := vs ++ ws) (ys := xs ++ ys) hi a1 a3' (DqAll.append a4' db)
        exact q A σ _ r3 ((Fr.of e1).trans f3)
      · cases h
    · cases h
  · cases h
/-! ### x op= e -/
def rA (K : Frag) (g : WM.D → R → Option WM.D) : R2 := fun x y H Q => ∃ (O : Msk) (a : WM.D) (b : R) (d : WM.D), Dq K (frz H O) x a ∧ Uv K O H y b ∧ g a b = some d ∧ ∀ v, Dq K (frz H O) v d → Q v H
theorem opAug (op : Operator) : PIp X op (rA X.K (augR op)) := by
  intro pins s σ H x y v u Q I rx ry ⟨O, a, rb, d, ha, hb, hg, q⟩
  have hb := hb.cv
  unfold augR at hg
  split at hg
  · split at hg
    · rename_i hj
      rw [hj] at hb
      cases hg
      cases ha; cases hb.int
      exact iop_add pins s σ H _ _ v u Q I rx ry ⟨_, _, rfl, rfl, q _ (.int _)⟩
    · rename_i hj
      rw [hj] at hb
      split at hg
      · rename_i hz
        cases hg
        cases ha; cases hb.str
        refine iop_add_str pins s σ H _ _ v u Q I rx ry ⟨_, _, rfl, rfl, szOk_le hz, ?_⟩
        rw [append_mkS]
        exact q _ (.str _ (by rw [length_mkS, List.length_append, length_cs, length_cs]; exact of_decide_eq_true hz))
      · cases hg
    · cases hg
  · split at hg
    · rename_i hj
      rw [hj] at hb
      cases hg
      cases ha; cases hb.int
      exact iop_sub pins s σ H _ _ v u Q I rx ry ⟨_, _, rfl, rfl, q _ (.int _)⟩
    · cases hg
  · split at hg
    · rename_i hj
      rw [hj] at hb
      split at hg
      · rename_i hz
        cases hg
        cases ha; cases hb.int
        refine iop_mul pins s σ H _ _ v u Q I rx ry ⟨_, _, rfl, rfl, ?_, q _ (.int _)⟩
        simp only [Bool.or_eq_true] at hz
        rcases hz with hz | hz
        · exact .inl (intOk_iff hz)
        · exact .inr (intOk_iff hz)
      · cases hg
    · cases hg
  · cases hg
theorem psAug {i : Nat} {op : Operator} {e : E} {y : Str} {x : Expr} {p pos : Pos} (hK : X.K = K) (nd : X.N.Nodup) (hi : X.N[i]? = some y) (hl : L2.Loc X.env.scope y) (hf : X.fn y = true ∨ X.env.scope.names.lookup y = some .local) (hx : PE X x (tE K G Φ e)) :
    PS X (.AugAssign (.Name y p) op x pos) (tSt K G Φ W (.aug i op e)) := by
  subst hK
  refine psImp (ps_aug nd hi hl hx (opAug op) hf) fun D σ H ⟨H0, O, A, ρ, o, rel, h, q⟩ => ?_
  simp only [ex] at h
  split at h
  · rename_i d hd
    obtain ⟨r, hr, h⟩ := Option.bind_eq_some_iff.mp h
    obtain ⟨z, hz, rfl⟩ := Option.map_eq_some_iff.mp h
    have sl := rel.slot i
    rw [hd] at sl
    obtain ⟨_, u, u1, u2⟩ := sl
    refine ⟨u, u1, tE.go rel hr fun v H1 e1 l1 r1 v1 => ?_⟩
    refine ⟨Ow O A, d, r, z, dpMono e1.frz _ _ u2, v1.uv, hz, fun w hw => ?_⟩
    have st : asgD (.nm i) z ρ = some (ρ.set i (.va z)) := by
      simp only [asgD, setS, hd]
    refine gGoF (t := .nm i) (Q := D.nx) r1 st hw fun A' σ' r' f => q A' σ' H1 r' ((Fr.of e1).trans f)
  · cases h
end
end WM

/-! ## part M: loops, and all statements at once -/
namespace WM
open PySem PySem.Spec PyProof.Rows L2
variable [τ : Tabs]

section
variable {K : Frag} {G : Gt} {Φ : Phi} {W : Nat} {X : Cx}
def rRem (K : Frag) : V → List V → Hp → VK → Prop := fun x vs H Q => ∃ (O : Msk) (l : Addr) (ws : List V) (xs : List WM.D) (r : R) (y : V) (k : Nat), x = .ref l ∧ vs = [y] ∧ H l = some (.lst ws) ∧ DqAll K (frz H O) ws xs ∧ Uv K O H y r ∧ okD r.toD = true ∧ okD (.list xs) = true ∧ findD r.toD xs = some k ∧ Q .non (upd H l (.lst (ws.eraseIdx k)))
theorem mtRem {n : Nat} (hr : Room n X.A) : MtR X "list.remove" (rRem X.K) := by
  intro pins s σ H x vs v us Q I rx rv ⟨O, l, ws, xs, r, y, k, hx, hvs, hH, hd, hy, k1, k2, hk, q⟩
  subst hx hvs
  cases rx
  obtain ⟨u, rfl, ru⟩ := vals1 rv
  obtain ⟨z, its, n2, rr, hl, e⟩ := I.lstM hH
  obtain ⟨as, ra⟩ := dqReadsAll I xs ws its (dpMonoAll Ext.unfrz _ _ hd) rr
  obtain ⟨bs, rb⟩ := cvReads I hy.cv ru k1
  have p1 := okD_iff k1
  have p2 := okD_iff k2
  simp only [PyData.plain, PyData.depth] at p2
  have hu := hr.units
  have hil : s.heap.IsList l its.toArray := ⟨_, e, rfl, _, rfl⟩
  refine PySem.SeqAt.remove_list_data hil ra rb p2.1 p1.1 (by omega) hk (by rw [List.size_toArray]; omega) ?_
  refine ⟨.non, _, I.lset (t' := s.toks) (its' := its.eraseIdx k) (ys := ws.eraseIdx k) hH e ?_ (Vals.eraseIdx k rr) (Nat.le_trans (len_erase _ _) z), rfl, q⟩
  show its.toArray.eraseIdxIfInBounds k = _
  unfold Array.eraseIdxIfInBounds
  split
  · rename_i hk2
    simp
  · rename_i hk2
    rw [List.eraseIdx_of_length_le (by simpa using hk2)]
theorem psRem {n : Nat} {i : Nat} {e : E} {y : Str} {x : Expr} {p ap cp pos : Pos} (hK : X.K = K) (hr : Room n X.A) (hy : PE X (.Name y p) (tVar i)) (hx : PE X x (tE K G Φ e)) (hp : plainE x = true) (hl : (ap.endLine == cp.line) = true) :
    PS X (.Expr (.Call (.Attribute (.Name y p) (Str.ofString "remove") ap) [x] [] cp) pos) (tSt K G Φ W (.rem i e)) := by
  subst hK
  refine psImp (ps_expr (pe_bm PySem.F.plainAttrs_list PySem.F.slot_list_remove PySem.F.type_list_remove (mtRem hr) hy (pa_cons hx pa_nil (plainStar hp)) rfl (fewOk hp) hl (plainStar hp) rfl)) fun D σ H ⟨H0, O, A, ρ, o, rel, h, q⟩ => ?_
  simp only [ex] at h
  split at h
  · rename_i xs hi
    obtain ⟨r, hr, h⟩ := Option.bind_eq_some_iff.mp h
    split at h
    · rename_i hz
      obtain ⟨k, hk, rfl⟩ := Option.map_eq_some_iff.mp h
      simp only [Bool.and_eq_true] at hz
      have sl := rel.slot i
      rw [hi] at sl
      obtain ⟨a, vs, a1, a2, a3, a4⟩ := sl
      refine ⟨_, a2, .inl ⟨rfl, _, .inl (.inl a3)⟩, ?_⟩
      refine tE.go rel hr fun v H1 e1 l1 r1 v1 => ?_
      have a3' := e1.keep _ _ a3 rfl
      have a4' := dpMonoAll e1.frz _ _ a4
      refine ⟨Ow O A, a, vs, xs, r, v, k, rfl, rfl, a3', a4', v1.uv, hz.1, hz.2, hk, ?_⟩
      obtain ⟨r3, f3⟩ := r1.updOw (ws := vs.eraseIdx k) (ys := xs.eraseIdx k) hi a1 a3' (DqAll.erase k a4')
      exact q A σ _ r3 ((Fr.of e1).trans f3)
    · cases h
  · cases h
theorem whl_out {test : List Sl → Option Bool} {step : List Sl → Option Out} : ∀ {n : Nat} {ρ : List Sl} {o : Out}, whlRun test step n ρ = some o → (∃ ρ', o = .next ρ') ∨ ∃ r, o = .ret r
  | 0, _, _, h => by cases h
  | n + 1, ρ, o, h => by
    simp only [whlRun] at h
    obtain ⟨b, hb, h⟩ := Option.bind_eq_some_iff.mp h
    cases b with
    | false => cases h; exact .inl ⟨_, rfl⟩
    | true =>
      obtain ⟨o1, ho, h⟩ := Option.bind_eq_some_iff.mp h
      cases o1 with
      | next ρ1 => exact whl_out h
      | cnt ρ1 => exact whl_out h
      | brk ρ1 => cases h; exact .inl ⟨_, rfl⟩
      | ret r => cases h; exact .inr ⟨_, rfl⟩
theorem psWhl {c : E} {b : Ss} {x : Expr} {body : List Stmt} {pos : Pos} (hp : PassesOwn (model X.prog X.w) X.A X.env X.xe) (hc : PT X x (tT K G Φ c)) (hb : PSs X body (tSs K G Φ W b)) : PS X (.While x body [] pos) (tSt K G Φ W (.whl c b)) :=
  psImp (ps_while hp hc hb) fun D σ H ⟨H0, O, A, ρ, o, rel, h, q⟩ => by
    simp only [ex] at h
    obtain ⟨N, h⟩ : ∃ N, whlRun (fun ρ => tv G Φ c ρ) (fun ρ => exs G Φ W b ρ) N ρ = some o := ⟨W, h⟩
    refine ⟨fun m σ H => ∃ A ρ o, Rel K H0 O A σ H ρ ∧ whlRun (fun ρ => tv G Φ c ρ) (fun ρ => exs G Φ W b ρ) m ρ = some o ∧ Post K H0 O A H ρ D o, ⟨N, A, ρ, o, rel, h, q⟩, ?_⟩
    · intro m σ H ⟨A, ρ, o, rel, h, q⟩
      cases m with
      | zero => cases h
      | succ m =>
        simp only [whlRun] at h
        obtain ⟨k, hk, h⟩ := Option.bind_eq_some_iff.mp h
        refine tT.go rel hk fun H1 e1 l1 r1 => ?_
        cases k with
        | false =>
          cases h
          rw [if_neg Bool.false_ne_true]
          exact q A σ H1 r1 (Fr.of e1)
        | true =>
          rw [if_pos rfl]
          obtain ⟨o1, ho1, h⟩ := Option.bind_eq_some_iff.mp h
          refine ⟨fun σ' H' => ∃ A ρ o, Rel K H0 O A σ' H' ρ ∧ whlRun (fun ρ => tv G Φ c ρ) (fun ρ => exs G Φ W b ρ) m ρ = some o ∧ Post K H0 O A H' ρ D o, fun σ' H' z => ⟨m, Nat.lt_succ_self _, z⟩, ?_⟩
          refine ⟨H0, O, A, ρ, o1, r1, ho1, ?_⟩
          have q1 := q.from (Fr.of e1)
          cases o1 with
          | next ρ1 => exact fun A' σ' H' r' f' => ⟨A', ρ1, o, r', h, q1.from f'⟩
          | cnt ρ1 => exact fun A' σ' H' r' f' => ⟨A', ρ1, o, r', h, q1.from f'⟩
          | brk ρ1 => cases h; exact fun A' σ' H' r' f' => q1 A' σ' H' r' f'
          | ret r => cases h; exact q1
/-! ### for -/
theorem for_out {step : WM.D → List Sl → Option Out} : ∀ {xs : List WM.D} {ρ : List Sl} {o : Out}, forRun step xs ρ = some o → (∃ ρ', o = .next ρ') ∨ ∃ r, o = .ret r
  | [], _, _, h => by cases h; exact .inl ⟨_, rfl⟩
  | x :: xs, ρ, o, h => by
    simp only [forRun] at h
    obtain ⟨o1, ho, h⟩ := Option.bind_eq_some_iff.mp h
    cases o1 with
    | next ρ1 => exact for_out h
    | cnt ρ1 => exact for_out h
    | brk ρ1 => cases h; exact .inl ⟨_, rfl⟩
    | ret r => cases h; exact .inr ⟨_, rfl⟩
theorem psFor {t : Tg} {it : It} {b : Ss} {tg i : Expr} {body : List Stmt} {pos : Pos} (hp : PassesOwn (model X.prog X.w) X.A X.env X.xe) (hcalm : X.calm = true) (hi : PI X tg i (tI K G Φ it)) (hg : PG X tg (gOf K t)) (hb : PSs X body (tSs K G Φ W b)) (hf : ∀ x, foldedSetIterable i X.env x = pure x) :
    PS X (.For tg i body [] pos) (tSt K G Φ W (.loop t it b)) :=
  psImp (ps_for hp hcalm hi hg hb hf) fun D σ H ⟨H0, O, A, ρ, o, rel, h, q⟩ => by
    simp only [ex] at h
    obtain ⟨xs, hxs, h⟩ := Option.bind_eq_some_iff.mp h
    obtain ⟨o1, hrun, h⟩ := Option.map_eq_some_iff.mp h
    refine ⟨H0, O, A, ρ, xs, rel, hxs, fun J H1 Lst e1 l1 hkp wk => ?_⟩
    have relL := (rel.mono e1).lock it.locks
    -- what the end wants, from the locked state
    have fin : Post K H0 O A H1 (lockS it.locks ρ) { D with ct := D.nx, bk := D.nx } o1 := by
      rcases for_out hrun with ⟨ρ1, rfl⟩ | ⟨r, rfl⟩
      · subst h
        intro A' σ' H' r' f'
        refine q A' σ' H' (r'.unlock _) ⟨e1.frz.trans f'.ext, fun j ys hj => ?_⟩
        have hj2 : (lockS it.locks ρ)[j]? = some (.lk ys) := by rw [lockS_get, hj]
        obtain ⟨a1, a2, a3⟩ := f'.lks j ys hj2
        refine ⟨?_, a2, fun p vs hp hh => a3 p vs hp (e1.keep _ _ hh rfl)⟩
        rw [unlockS_get, a1]
        dsimp only
        rw [if_neg]
        intro z
        have := (List.mem_filter.mp z).2
        rw [hj] at this
        cases this
      · subst h
        exact q
    refine ⟨fun k m σ H' => m = xs.length - k ∧ k ≤ xs.length ∧ ∃ A' ρ', Rel K H0 O A' σ H' ρ' ∧ Fr O A A' H1 H' (lockS it.locks ρ) ρ' ∧
      forRun (fun x ρ => (asgD t x ρ).bind fun ρ' => exs G Φ W b ρ') (xs.drop k) ρ' = some o1, ⟨xs.length, by omega, Nat.zero_le _, A, _, relL, Fr.refl, by rw [List.drop_zero]; exact hrun⟩, ?_⟩
    rintro k m σ2 H2 ⟨rfl, hk, A2, ρ2, rel2, fr2, hr2⟩
    have stw : StW K H1 (Ow O A) Lst H2 (Ow O A2) := by
      refine ⟨rel2.domO, fr2.ext, fun p hp => ?_⟩
      rcases hkp p hp with z | ⟨j, hj, hA, hH⟩ | z
      · exact .inl (frz_of (fr2.ext.keep _ _ z rfl)).2
      · have sj := (rel.mono e1).slot j
        have : ∃ ys, (lockS it.locks ρ)[j]? = some (.lk ys) := by
          rw [lockS_get]
          revert sj
          cases ρ[j]? with
          | none => intro s; rw [show A j = none from s] at hA; cases hA
          | some y =>
            cases y with
            | no => intro s; rw [show A j = none from s] at hA; cases hA
            | va x => intro s; rw [s.1] at hA; cases hA
            | rd x => intro s; rw [s.1] at hA; cases hA
            | ow x => intro s; exact ⟨x, by simp [hj]⟩
            | lk x => intro s; exact ⟨x, rfl⟩
            | od x =>
              rintro ⟨p', o, h1, h2, h3, ks, ho, _⟩
              rw [hA] at h1; cases h1
              rw [hH] at h3; cases h3; cases ho
            | rdd x => intro s; rw [s.1] at hA; cases hA
        obtain ⟨ys, hys⟩ := this
        exact .inl ((fr2.lks j ys hys).2.2 _ _ hA hH)
      · exact rel2.ext.rd rfl z
    by_cases hlt : k < xs.length
    · refine .inr ⟨wk.goes k H2 _ hlt stw, fun σ' H' => ∃ A' ρ', Rel K H0 O A' σ' H' ρ' ∧ Fr O A A' H1 H' (lockS it.locks ρ) ρ' ∧
        forRun (fun x ρ => (asgD t x ρ).bind fun ρ' => exs G Φ W b ρ') (xs.drop (k + 1)) ρ' = some o1, ?_, ?_⟩
      · rintro σ' H' ⟨A', ρ', z1, z2, z3⟩
        exact ⟨xs.length - (k + 1), by omega, rfl, hlt, A', ρ', z1, z2, z3⟩
      · intro v H3 yl
        obtain ⟨e3, d, hd, hdq⟩ := wk.yields k H2 _ v H3 hlt stw yl
        have hx : xs.drop k = d :: xs.drop (k + 1) := by
          obtain ⟨hl, hg⟩ := List.getElem?_eq_some_iff.mp hd
          rw [List.drop_eq_getElem_cons hl, hg]
        rw [hx] at hr2
        simp only [forRun] at hr2
        obtain ⟨o2, ho2, hr2⟩ := Option.bind_eq_some_iff.mp hr2
        obtain ⟨ρ3, hρ3, ho2⟩ := Option.bind_eq_some_iff.mp ho2
        refine gGoF (rel2.mono e3) hρ3 hdq fun A3 σ3 rel3 f3 => ?_
        have ff := (fr2.trans (Fr.of e3)).trans f3
        refine ⟨H0, O, A3, ρ3, o2, rel3, ho2, ?_⟩
        cases o2 with
        | next ρ4 => exact fun A' σ' H' r' f' => ⟨A', ρ4, r', ff.trans f', hr2⟩
        | cnt ρ4 => exact fun A' σ' H' r' f' => ⟨A', ρ4, r', ff.trans f', hr2⟩
        | brk ρ4 =>
          cases hr2
          exact fun A' σ' H' r' f' => fin A' σ' H' r' (ff.trans f')
        | ret r =>
          cases hr2
          exact fin
    · have ek : k = xs.length := by omega
      subst ek
      rw [List.drop_length] at hr2
      simp only [forRun] at hr2
      cases hr2
      exact .inl ⟨wk.stops H2 _ stw, fin A2 σ2 H2 rel2 fr2⟩
end
end WM

/-! ## part N: the induction over statements -/
namespace WM
open PySem PySem.Spec PyProof.Rows L2
variable [τ : Tabs]

theorem mtE_noSet (L : Lk) (j : Nat) (ir : E) (sc : Scope) (e : Expr) (h : mtE L j ir sc e = true) : (∀ a b c d, e ≠ .SetComp a b c d) ∧ ∀ a b c d f, e ≠ .DictComp a b c d f := by
  refine ⟨fun a b c d z => ?_, fun a b c d f z => ?_⟩
  · subst z; cases ir <;> simp [mtE] at h
  · subst z; cases ir <;> simp [mtE] at h
theorem swNo {x tg : Expr} {l : Nat} {env : Env} (h1 : (∀ a b c d, x ≠ .SetComp a b c d) ∧ ∀ a b c d f, x ≠ .DictComp a b c d f) (h2 : isCompE x = false ∨ ∀ y p, tg ≠ .Name y p) : swapsWithSole [tg] x l env = pure false := by
  cases x with
  | ListComp =>
    rcases h2 with h2 | h2
    · cases h2
    · cases tg with
      | Name y p => exact (h2 y p rfl).elim
      | _ => rfl
  | SetComp => exact (h1.1 _ _ _ _ rfl).elim
  | DictComp => exact (h1.2 _ _ _ _ _ rfl).elim
  | _ => rfl
theorem swNm {x : Expr} {y : Str} {p : Pos} {l : Nat} {env : Env} {sc : Scope} (hsc : env.scope = sc) (hk : env.scope.kind = .function) (h1 : (∀ a b c d, x ≠ .SetComp a b c d) ∧ ∀ a b c d f, x ≠ .DictComp a b c d f) (h2 : swB sc y p x = false) : swapsWithSole [.Name y p] x l env = pure false := by
  cases x with
  | ListComp elt gs scope pos =>
    have hb : env.blockKind = .function := by unfold Env.blockKind; rw [hk]; rfl
    subst hsc
    unfold swapsWithSole swapsWith
    unfold swB at h2
    have ky : env.kindOf y = env.scope.names.lookup y := rfl
    rw [← ky] at h2
    simp only [hb, Expr.pos]
    show (pure _ : Sem Bool) = pure false
    refine congrArg pure ?_
    cases hh : env.kindOf y with
    | none => rfl
    | some k =>
      rw [hh] at h2
      cases k <;> first | rfl | exact h2
  | SetComp => exact (h1.1 _ _ _ _ rfl).elim
  | DictComp => exact (h1.2 _ _ _ _ _ rfl).elim
  | _ => rfl
section
variable {L : Lk} {Φ : Phi} {W n j : Nat}
theorem psLc {X : Cx} {sc scope : Scope} {own : List (Str × Nat)} {t : Tg} {it : It} {ifs : Es} {e1 : E} {i : Nat} {y : Str} {py : Pos} {x tg ie : Expr} {fs : List Expr} {pos spos : Pos} (c : CxOk L Φ n j sc X) (hk : X.env.scope.kind = .function)
    (hy : L.N[i]? = some y) (hsw : swB sc y py (.ListComp x [⟨tg, ie, fs, 0⟩] scope pos) = true)
    (h : (blkC L.N sc scope own && mtIt L j it sc tg ie && mtTg L (locB scope) (some (own.map (·.2))) t tg && mtEs L j ifs (relS scope sc) fs && decide (ifs.len ≤ 1) && mtE L j e1 (relS scope sc) x) = true) :
    PS X (.Assign [.Name y py] (.ListComp x [⟨tg, ie, fs, 0⟩] scope pos) spos) (tSt X.K L.G Φ W (.asg (.nm i) (.lc own t it ifs e1))) := by
  simp only [Bool.and_eq_true, decide_eq_true_eq] at h
  obtain ⟨⟨⟨⟨⟨h1, h2⟩, h3⟩, h4⟩, h5⟩, h6⟩ := h
  obtain ⟨pi, pf⟩ := sIt it j sc X _ _ c h2
  have ok : BlkOk X.N X.env.scope scope own := by rw [c.names, c.scope]; exact blkOk_by h1
  have hg : ∀ (s : Shared) (H : Hp) (C : Addr) (cl : List (Str × Addr)) (fp : List Addr), PG (X.blk s H scope (compEnvC scope cl C X.env) fp) tg (gOf X.K t) := fun s H C cl fp => pgOf (X := X.blk s H scope (compEnvC scope cl C X.env) fp) (L := L) c.names c.nd c.calm (c.locK s H scope C cl fp) t _ h3
  have ht : ∀ (s : Shared) (H : Hp) (C : Addr) (cl : List (Str × Addr)) (fp : List Addr), PTs (X.blk s H scope (compEnvC scope cl C X.env) fp) fs (tTs X.K L.G Φ ifs) := fun s H C cl fp => sTs ifs j (relS scope sc) _ fs (c.blk s H scope C cl fp) h4 h5
  have he : ∀ (s : Shared) (H : Hp) (C : Addr) (cl : List (Str × Addr)) (fp : List Addr), PE (X.blk s H scope (compEnvC scope cl C X.env) fp) x (tE X.K L.G Φ e1) := fun s H C cl fp => (sE e1 j (relS scope sc) _ x (c.blk s H scope C cl fp) h6).v
  have rd := seLc (K := X.K) (pos := pos) rfl c.calm c.nd ok (tgSlots t _ h3) pi pf hg ht he
  unfold swB at hsw
  simp only [Bool.and_eq_true, Bool.not_eq_true'] at hsw
  obtain ⟨⟨k1, k2⟩, k3⟩ := hsw
  have kl : X.env.scope.names.lookup y = some .local := by
    rw [c.scope]
    revert k1
    cases sc.names.lookup y with
    | none => intro z; cases z
    | some k => cases k <;> intro z <;> first | rfl | cases z
  refine psImp (ps_setLc c.calm c.nd (by rw [c.names]; exact hy) kl (sw_true hk kl k2 k3) pi ok hg ht he pf) fun D σ H ⟨H0, O, A, ρ, o, rel, h, q⟩ => ?_
  simp only [ex] at h
  obtain ⟨r, hr, h⟩ := Option.bind_eq_some_iff.mp h
  obtain ⟨ρ', hρ, rfl⟩ := Option.map_eq_some_iff.mp h
  refine rd σ H _ ⟨H0, O, A, ρ, r, rel, hr, fun v H1 e1 v1 => ?_⟩
  exact asgGo (t := .nm i) rel (asgM_eq (.inl rfl) hρ) e1 v1 fun A' σ' r' f => q A' σ' H1 r' f
theorem psLc2 {X : Cx} {sc scope : Scope} {own : List (Str × Nat)} {t t2 : Tg} {it it2 : It} {ifs : Es} {e1 : E} {i : Nat} {y : Str} {py : Pos} {x tg ie tg2 i2 : Expr} {fs : List Expr} {pos spos : Pos} (c : CxOk L Φ n j sc X) (hk : X.env.scope.kind = .function)
    (hy : L.N[i]? = some y) (hsw : swB sc y py (.ListComp x [⟨tg, ie, [], 0⟩, ⟨tg2, i2, fs, 0⟩] scope pos) = true)
    (h : (blkC L.N sc scope own && mtIt L j it sc tg ie && mtTg L (locB scope) (some (own.map (·.2))) t tg && mtIt L j it2 (relS scope sc) tg2 i2 && mtTg L (locB scope) (some (own.map (·.2))) t2 tg2 && mtEs L j ifs (relS scope sc) fs && decide (ifs.len ≤ 1) && mtE L j e1 (relS scope sc) x) = true) :
    PS X (.Assign [.Name y py] (.ListComp x [⟨tg, ie, [], 0⟩, ⟨tg2, i2, fs, 0⟩] scope pos) spos) (tSt X.K L.G Φ W (.asg (.nm i) (.lc2 own t it t2 it2 ifs e1))) := by
  simp only [Bool.and_eq_true, decide_eq_true_eq] at h
  obtain ⟨⟨⟨⟨⟨⟨⟨h1, h2⟩, h3⟩, q2⟩, q3⟩, h4⟩, h5⟩, h6⟩ := h
  have ok : BlkOk X.N X.env.scope scope own := by rw [c.names, c.scope]; exact blkOk_by h1
  have hg : ∀ (s : Shared) (H : Hp) (C : Addr) (cl : List (Str × Addr)) (fp : List Addr), PG (X.blk s H scope (compEnvC scope cl C X.env) fp) tg (gOf X.K t) := fun s H C cl fp => pgOf (X := X.blk s H scope (compEnvC scope cl C X.env) fp) (L := L) c.names c.nd c.calm (c.locK s H scope C cl fp) t _ h3
  have hg2 : ∀ (s : Shared) (H : Hp) (C : Addr) (cl : List (Str × Addr)) (fp : List Addr), PG (X.blk s H scope (compEnvC scope cl C X.env) fp) tg2 (gOf X.K t2) := fun s H C cl fp => pgOf (X := X.blk s H scope (compEnvC scope cl C X.env) fp) (L := L) c.names c.nd c.calm (c.locK s H scope C cl fp) t2 _ q3
  have hi2 : ∀ (s : Shared) (H : Hp) (C : Addr) (cl : List (Str × Addr)) (fp : List Addr), PI (X.blk s H scope (compEnvC scope cl C X.env) fp) tg2 i2 (tI X.K L.G Φ it2) := fun s H C cl fp => (sIt it2 j (relS scope sc) _ _ _ (c.blk s H scope C cl fp) q2).1
  have ht : ∀ (s : Shared) (H : Hp) (C : Addr) (cl : List (Str × Addr)) (fp : List Addr), PTs (X.blk s H scope (compEnvC scope cl C X.env) fp) fs (tTs X.K L.G Φ ifs) := fun s H C cl fp => sTs ifs j (relS scope sc) _ fs (c.blk s H scope C cl fp) h4 h5
  have he : ∀ (s : Shared) (H : Hp) (C : Addr) (cl : List (Str × Addr)) (fp : List Addr), PE (X.blk s H scope (compEnvC scope cl C X.env) fp) x (tE X.K L.G Φ e1) := fun s H C cl fp => (sE e1 j (relS scope sc) _ x (c.blk s H scope C cl fp) h6).v
  have h0 : ∀ (s : Shared) (H : Hp) (C : Addr) (cl : List (Str × Addr)) (fp : List Addr), PTs (X.blk s H scope (compEnvC scope cl C X.env) fp) [] (tTs X.K L.G Φ .nil) := fun s H C cl fp => ptsNil (X := X.blk s H scope (compEnvC scope cl C X.env) fp)
  have rd := seLc2 (K := X.K) (G := L.G) (Φ := Φ) (own := own) (t := t) (t2 := t2) (it := it) (it2 := it2) (ifs := ifs) (e := e1) (tgSlots t _ h3)
  unfold swB at hsw
  simp only [Bool.and_eq_true, Bool.not_eq_true'] at hsw
  obtain ⟨⟨k1, k2⟩, k3⟩ := hsw
  have kl : X.env.scope.names.lookup y = some .local := by
    rw [c.scope]
    revert k1
    cases sc.names.lookup y with
    | none => intro z; cases z
    | some k => cases k <;> intro z <;> first | rfl | cases z
  refine psImp (ps_setLc2 c.calm c.nd (by rw [c.names]; exact hy) kl (sw_true hk kl k2 k3) (sIt it j sc X _ _ c h2).1 ok (tgSlots t2 _ q3) hg h0 hi2 hg2 ht he (mtIt_fold it _ _ h2 X.env) (mtIt_fold it2 _ _ q2)) fun D σ H ⟨H0, O, A, ρ, o, rel, h, q⟩ => ?_
  simp only [ex] at h
  obtain ⟨r, hr, h⟩ := Option.bind_eq_some_iff.mp h
  obtain ⟨ρ', hρ, rfl⟩ := Option.map_eq_some_iff.mp h
  refine rd σ H _ ⟨H0, O, A, ρ, r, rel, hr, fun v H1 e1 v1 => ?_⟩
  exact asgGo (t := .nm i) rel (asgM_eq (.inl rfl) hρ) e1 v1 fun A' σ' r' f => q A' σ' H1 r' f
theorem peV {X : Cx} {sc : Scope} {i : Nat} {x : Str} {pos : Pos} (c : CxOk L Φ n j sc X) (h1 : L.N[i]? = some x) (h2 : visB sc x = true) (h3 : nameOk x = true) : PE X (.Name x pos) (tVar i) := by
  simp only [nameOk, Bool.and_eq_true, Bool.not_eq_true'] at h3
  exact pe_var (by rw [c.names]; exact h1) (by rw [c.scope]; exact visOk x h2) h3.1 h3.2
mutual
theorem sS : ∀ (ir : S) (sc : Scope) (X : Cx) (s : Stmt), CxOk L Φ n j sc X → X.fn = (fun _ => true) → X.env.scope.kind = .function → mtS L j ir sc s = true → PS X s (tSt X.K L.G Φ W ir)
  | .skip, sc, X, s, c, hf, hk, h => by
    have nx : ∀ D σ H, tSt X.K L.G Φ W .skip D σ H → tNext D σ H := fun D σ H ⟨H0, O, A, ρ, o, rel, h, q⟩ => by
      simp only [ex] at h
      cases h
      exact q A σ H rel Fr.refl
    simp only [mtS] at h
    split at h
    · exact psImp ps_pass nx
    · exact psImp ps_doc nx
    · cases h
  | .asg t e, sc, X, s, c, hf, hk, h => by
    simp only [mtS] at h
    split at h
    · rename_i tg x pos
      simp only [Bool.and_eq_true] at h
      obtain ⟨⟨h1, h2⟩, h3⟩ := h
      have hg := pgOf (X := X) (L := L) c.names c.nd c.calm (c.locF hf) t _ h1
      have ns := mtE_noSet L j e sc x h2
      cases t with
      | tp is =>
        cases tg <;> simp only [mtTg, Bool.false_eq_true] at h1
        refine psAsg (.inr ⟨is, rfl⟩) (sE e j sc X x c h2).v hg (swNo ns (.inr fun _ _ z => by cases z)) ?_ rfl
        cases x <;> first | rfl | cases h3
      | nm i =>
        cases tg <;> simp only [mtTg, tgN, Bool.false_eq_true] at h1
        rename_i y py
        cases hsw : swB sc y py x with
        | false =>
          cases hv : isVar e with
          | false => exact psAsg (.inl hv) (sE e j sc X x c h2).v hg (swNm c.scope hk ns hsw) rfl rfl
          | true =>
            cases e <;> simp only [isVar, Bool.false_eq_true] at hv
            have h2' := h2
            simp only [mtE] at h2'
            split at h2'
            · simp only [Bool.and_eq_true, decide_eq_true_eq] at h2'
              exact psAsgV (peV c h2'.1.1 h2'.1.2 h2'.2) hg (swNm c.scope hk ns hsw) rfl rfl
            · cases h2'
        | true =>
          cases x <;> simp only [swB, Bool.false_eq_true] at hsw
          cases e <;> simp only [mtE, Bool.false_eq_true] at h2
          all_goals
            split at h2
            · rename_i heq
              cases heq
              simp only [Bool.and_eq_true, decide_eq_true_eq] at h1
              first
                | exact psLc c hk h1.1.1 (by unfold swB; exact hsw) h2
                | exact psLc2 c hk h1.1.1 (by unfold swB; exact hsw) h2
            · cases h2
    · cases h
  | .seti i k e, sc, X, s, c, hf, hk, h => by
    simp only [mtS] at h
    split at h
    · simp only [Bool.and_eq_true, decide_eq_true_eq] at h
      obtain ⟨⟨⟨⟨h1, h2⟩, h3⟩, h4⟩, h5⟩ := h
      exact psSeti rfl c.room (peV c h1 h2 h3) (sE k j sc X _ c h4).v (sE e j sc X _ c h5).v (mtE_plain L j k sc _ h4) (swNo (mtE_noSet L j e sc _ h5) (.inr fun _ _ z => by cases z))
    · cases h
  | .aug i op e, sc, X, s, c, hf, hk, h => by
    simp only [mtS] at h
    split at h
    · simp only [Bool.and_eq_true, decide_eq_true_eq] at h
      obtain ⟨⟨⟨h1, h2⟩, h3⟩, h4⟩ := h
      rw [← h1]
      obtain ⟨k1, k2⟩ := c.locF hf _ h3
      exact psAug rfl c.nd (by rw [c.names]; exact h2) k1 k2 (sE e j sc X _ c h4).v
    · cases h
  | .app i e, sc, X, s, c, hf, hk, h => by
    simp only [mtS] at h
    split at h
    · simp only [Bool.and_eq_true, decide_eq_true_eq] at h
      obtain ⟨⟨⟨⟨⟨h0, h1⟩, h2⟩, h3⟩, h4⟩, h5⟩ := h
      rw [h0]
      exact psApp rfl (peV c h2 h3 h4) (sE e j sc X _ c h5).v (mtE_plain L j e sc _ h5) h1
    · cases h
  | .ext i e, sc, X, s, c, hf, hk, h => by
    simp only [mtS] at h
    split at h
    · simp only [Bool.and_eq_true, decide_eq_true_eq] at h
      obtain ⟨⟨⟨⟨⟨h0, h1⟩, h2⟩, h3⟩, h4⟩, h5⟩ := h
      rw [h0]
      exact psExt rfl (peV c h2 h3 h4) (sE e j sc X _ c h5).v (mtE_plain L j e sc _ h5) h1
    · cases h
  | .rem i e, sc, X, s, c, hf, hk, h => by
    simp only [mtS] at h
    split at h
    · simp only [Bool.and_eq_true, decide_eq_true_eq] at h
      obtain ⟨⟨⟨⟨⟨h0, h1⟩, h2⟩, h3⟩, h4⟩, h5⟩ := h
      rw [h0]
      exact psRem rfl c.room (peV c h2 h3 h4) (sE e j sc X _ c h5).v (mtE_plain L j e sc _ h5) h1
    · cases h
  | .ite c0 a b, sc, X, s, c, hf, hk, h => by
    simp only [mtS] at h
    split at h
    · simp only [Bool.and_eq_true] at h
      exact psIte (sE c0 j sc X _ c h.1.1).t (sSs a sc X _ c hf hk h.1.2) (sSs b sc X _ c hf hk h.2)
    · cases h
  | .loop t it b, sc, X, s, c, hf, hk, h => by
    simp only [mtS] at h
    split at h
    · simp only [Bool.and_eq_true] at h
      obtain ⟨pi, pf⟩ := sIt it j sc X _ _ c h.1.2
      exact psFor (by rw [c.nox]; exact PassesOwn.never) c.calm pi (pgOf (X := X) (L := L) c.names c.nd c.calm (c.locF hf) t _ h.1.1) (sSs b sc X _ c hf hk h.2) pf
    · cases h
  | .whl c0 b, sc, X, s, c, hf, hk, h => by
    simp only [mtS] at h
    split at h
    · simp only [Bool.and_eq_true] at h
      exact psWhl (by rw [c.nox]; exact PassesOwn.never) (sE c0 j sc X _ c h.1).t (sSs b sc X _ c hf hk h.2)
    · cases h
  | .ret e, sc, X, s, c, hf, hk, h => by
    simp only [mtS] at h
    split at h
    · cases hv : isVar e with
      | false => exact psRet (sE e j sc X _ c h).v hv
      | true =>
        cases e <;> simp only [isVar, Bool.false_eq_true] at hv
        rename_i x pos i
        cases x <;> simp only [mtE, Bool.false_eq_true] at h
        simp only [Bool.and_eq_true, decide_eq_true_eq] at h
        exact psRetV c h.1.1 h.1.2 h.2
    · cases h
  | .retN, sc, X, s, c, hf, hk, h => by
    simp only [mtS] at h
    split at h
    · refine psImp ps_retN fun D σ H ⟨H0, O, A, ρ, o, rel, h, q⟩ => ?_
      simp only [ex] at h
      cases h
      exact q _ H rel.ext .non
    · cases h
  | .brk, sc, X, s, c, hf, hk, h => by
    simp only [mtS] at h
    split at h
    · refine psImp ps_break fun D σ H ⟨H0, O, A, ρ, o, rel, h, q⟩ => ?_
      simp only [ex] at h
      cases h
      exact q A σ H rel Fr.refl
    · cases h
  | .cnt, sc, X, s, c, hf, hk, h => by
    simp only [mtS] at h
    split at h
    · refine psImp ps_continue fun D σ H ⟨H0, O, A, ρ, o, rel, h, q⟩ => ?_
      simp only [ex] at h
      cases h
      exact q A σ H rel Fr.refl
    · cases h
theorem sSs : ∀ (ir : Ss) (sc : Scope) (X : Cx) (l : List Stmt), CxOk L Φ n j sc X → X.fn = (fun _ => true) → X.env.scope.kind = .function → mtSs L j ir sc l = true → PSs X l (tSs X.K L.G Φ W ir)
  | .nil, sc, X, l, c, hf, hk, h => by
    cases l with
    | nil => exact psNil
    | cons => simp [mtSs] at h
  | .cons s ss, sc, X, l, c, hf, hk, h => by
    cases l with
    | nil => simp [mtSs] at h
    | cons x xs =>
      simp only [mtSs, Bool.and_eq_true] at h
      exact psCons (sS s sc X x c hf hk h.1) (sSs ss sc X xs c hf hk h.2)
end
end
end WM

/-! ## part O: the defs keep their promises -/
namespace WM
open PySem PySem.Spec PyProof.Rows L2
variable [τ : Tabs]

structure Df where
  name : Str
  st : Stmt
  N : List Str
  ps : List Str
  fn : Fn
  gx : Bool := false
def scB (N P : List Str) (sc : Scope) : Bool :=
  decide (sc.kind = .function) && !sc.isCoroutine && !sc.isGenerator && decide N.Nodup && decide (N.take P.length = P) && P.all (fun x => decide (sc.names.lookup x = some .local) || decide (sc.names.lookup x = some .cell)) && sc.names.all (fun y => !decide (y.2 = .free))
theorem scB_ok {N P : List Str} {sc : Scope} (h : scB N P sc = true) : FnScope N P sc := by
  unfold scB at h
  simp only [Bool.and_eq_true, Bool.not_eq_true', decide_eq_true_eq, List.all_eq_true, Bool.or_eq_true, decide_eq_false_iff_not] at h
  obtain ⟨⟨⟨⟨⟨⟨h1, h2⟩, h3⟩, h4⟩, h5⟩, h6⟩, h7⟩ := h
  exact ⟨h1, h2, h3, h4, h5, h6, h7⟩
def Df.ok (G : Gt) (B : List Str) (g : Bool) (d : Df) : Bool :=
  scB d.N d.ps (defScope d.st) && decide (d.ps.length = d.fn.np) && decide (d.N.length = d.fn.nl) && mtSs ⟨d.N, G, B, g⟩ d.gx.toNat d.fn.body (defScope d.st) (defBody d.st)
theorem CvAll.get {K : Frag} {O : Msk} {H : Hp} : ∀ {vs : List V} {ds : List D} {i : Nat} {d : D}, CvAll K O H vs ds → ds[i]? = some d → ∃ v, vs[i]? = some v ∧ Cv K O H v d
  | [], [], _, _, _, h => by simp at h
  | v :: vs, d :: ds, 0, e, h, q => by
    have q : d = e := by simpa using q
    subst q
    exact ⟨v, rfl, h.1⟩
  | v :: vs, d :: ds, i + 1, e, h, q => by
    obtain ⟨w, h1, h2⟩ := CvAll.get (i := i) h.2 (by simpa using q)
    exact ⟨w, by simpa using h1, h2⟩
  | [], _ :: _, _, _, h, _ => h.elim
  | _ :: _, [], _, _, h, _ => h.elim
section
variable {K : Frag} {H : Hp} {O : Msk}
theorem ow_none {b : Addr} (h : Ow O (fun _ => none) b) : O b := h.elim id fun ⟨_, h⟩ => by cases h
theorem relStart {N : List Str} {vs : List V} {ds : List D} (h : CvAll K O H vs ds) (hT : ∀ P, Tabs.T P → GxR.TabG H P) (hO : ∀ b, O b → ∃ o, H b = some o ∧ lstO o = true) : Rel K H O (fun _ => none) (L2.start N vs) H (entry ds.length N.length ds) := by
  have hl := h.len
  refine ⟨?_, Ext.refl _, hO, fun i a e => (by cases e), fun i j a e => (by cases e), fun i => ?_, hT⟩
  · unfold entry L2.start
    rw [List.length_append, List.length_append, List.length_map, List.length_map, List.length_replicate, List.length_replicate, hl]
  · have sub : ∀ {v : V} {d : D}, Dq K (frz H O) v d → Dq K (frz H (Ow O fun _ => none)) v d := fun q => dpMono (frz_sub fun b o _ z => ow_none z) _ _ q
    by_cases hi : i < ds.length
    · have e1 : (entry ds.length N.length ds)[i]? = some (argS ds[i]) := by
        unfold entry
        rw [List.getElem?_append_left (by simpa using hi), List.getElem?_map, List.getElem?_eq_getElem hi]
        rfl
      obtain ⟨v, hv, c⟩ := CvAll.get h (List.getElem?_eq_getElem hi)
      have e2 : (L2.start N vs)[i]? = some (some v) := by
        unfold L2.start
        rw [List.getElem?_append_left (by rw [List.length_map, hl]; exact hi), List.getElem?_map, hv]
        rfl
      rw [e1, e2]
      generalize ds[i] = d at c
      cases d with
      | list xs =>
        obtain ⟨a, ws, rfl, r, q⟩ := c
        exact ⟨rfl, a, ws, rfl, r, r, dpMonoAll (frz_sub fun b o _ z => ow_none z) _ _ q⟩
      | dict kvs =>
        obtain ⟨a, o, rfl, r, q⟩ := c
        exact ⟨rfl, a, o, rfl, r, r, q.mono (frz_sub fun b o _ z => ow_none z)⟩
      | _ => exact ⟨rfl, v, rfl, sub c⟩
    · have e1 : (entry ds.length N.length ds)[i]? = if i - (List.map argS ds).length < N.length - ds.length then some .no else none := by
        unfold entry
        rw [List.getElem?_append_right (by simpa using hi), List.getElem?_replicate]
      rw [e1]
      split
      · rfl
      · rfl
end
/-- a def's own code object and its table -/
def OwnC (K : Frag) (mg : Str → Option Value) (base : Heap) (fa : Addr) : Prop := ∃ (o : Obj) (fd : FuncData) (c P : Addr), K.lookup fa = some o ∧ o.data = .func fd ∧ fd.code = .ref c ∧ GxR.TabB base mg c P ∧ Tabs.T P
structure Mdl (P : Program) (w : World) (K : Frag) (mg : Str → Option Value) (base : Heap) (ds : List Df) (G : Gt) (B : List Str) (g : Bool) : Prop where
  names : G.fn = ds.map (·.name)
  ok : ∀ d ∈ ds, d.ok G B g = true
  fns : ∀ d ∈ ds, ∃ fa fd, mg d.name = some (.ref fa) ∧ Fun K d.name d.name d.st fa fd ∧ Binds K fd d.ps [] ∧ (d.gx = true → OwnC K mg base fa)
  blt : ∀ x ∈ B, mg x = none
  gl : ∀ (k : Nat) (p : Str × D), G.gl[k]? = some p → ∃ u v, mg p.1 = some u ∧ RelV v u ∧ ∀ H, Dq K H v p.2
  gcd : g = true → mg ("gcd" : Str) = some (.builtin "math.gcd")
theorem progOk {P : Program} {w : World} {K : Frag} {mg : Str → Option Value} {base : Heap} {ds : List Df} {G : Gt} {B : List Str} {g : Bool} {W : Nat} (M : Mdl P w K mg base ds G B g) :
    ∀ (n i : Nat) (d : Df), ds[i]? = some d → ∀ (fa : Addr) (fd : FuncData), Fun K d.name d.name d.st fa fd → (d.gx = true → OwnC K mg base fa) → FnOk P w K mg base CX0 (2 * n) fa fd d.ps (spF K (call G (ds.map (·.fn)) W n i))
  | 0, i, d, hd, fa, fd, F, _ => ⟨fun vs H Q E ⟨O, xs, r, _, _, _, h, _⟩ => (by simp only [call] at h; cases h), fun A outer s H args us vs Q E _ _ _ _ ⟨O, xs, r, _, _, _, h, _⟩ => (by simp only [call] at h; cases h)⟩
  | n + 1, i, d, hd, fa, fd, F, hown => by
    have ok := M.ok d (List.mem_of_getElem? hd)
    simp only [Df.ok, Bool.and_eq_true, decide_eq_true_eq] at ok
    obtain ⟨⟨⟨h1, h2⟩, h3⟩, h4⟩ := ok
    have S := scB_ok h1
    have fnd : (ds.map (·.fn))[i]? = some d.fn := by rw [List.getElem?_map, hd]; rfl
    obtain ⟨oc, od, kV, doc, pm, an, cdv, ct, osl, rfl, lk, hcd⟩ := F.ex
    refine fn_of (k := 2 * n + 1) lk hcd S (fun vs H Q E ⟨O, xs, r, hv, _, _, h, _⟩ => ?_) fun A outer s H vs Q E hr hsp => ?_
    · simp only [call, fnd] at h
      split at h
      · rename_i e
        rw [hv.len, e, h2]
      · cases h
    · obtain ⟨O, xs, r, hv, hT, hO, h, nb, q⟩ := hsp
      simp only [call, fnd] at h
      split at h
      · rename_i e
        have c : CxOk ⟨d.N, G, B, g⟩ (call G (ds.map (·.fn)) W n) (2 * n) d.gx.toNat (defScope d.st) (cxOf CX0 P w K mg base d.N d.name (defScope d.st) fa cdv A outer s H E).nox :=
          ⟨rfl, S.nd, rfl, rfl, rfl, hr.mono (by cases d.gx <;> simp), M.blt, M.gl, M.gcd, fun f x hx => by
            have hx : G.fn[f]? = some x := hx
            rw [M.names, List.getElem?_map] at hx
            obtain ⟨d', hd', rfl⟩ := Option.map_eq_some_iff.mp hx
            obtain ⟨fa', fd', m1, m2, m3, m4⟩ := M.fns d' (List.mem_of_getElem? hd')
            exact ⟨fa', fd', d'.ps, m1, m2.kp, m3, progOk M n f d' hd' fa' fd' m2 m4⟩, fun hj => by
            have hg : d.gx = true := by revert hj; cases d.gx <;> simp
            obtain ⟨o, fd', c, P', k1, k2, k3, k4, k5⟩ := hown hg
            rw [lk] at k1
            cases k1
            cases k2
            exact ⟨c, P', k3, k4, k5⟩⟩
        obtain ht := sSs (W := W) d.fn.body (defScope d.st) _ _ c rfl S.kind h4
        refine ⟨_, ht.nox, ?_⟩
        cases ho : exs G (call G (ds.map (·.fn)) W n) W d.fn.body (entry d.fn.np d.fn.nl xs) with
        | none => rw [ho] at h; cases h
        | some o =>
          rw [ho] at h
          refine ⟨H, O, fun _ => none, _, o, relStart hv hT hO, by rw [h3, e]; exact ho, ?_⟩
          cases o with
          | next ρ' =>
            cases h
            exact fun A' σ' H' r' f' => q .non H' r'.ext .non
          | brk ρ' => cases h
          | cnt ρ' => cases h
          | ret r' => cases h; exact q
      · cases h

/-! ### what the top has written -/
def noLst (K : Frag) : Bool := K.all fun p => match p.2.cls with
  | .type n => !(n == "list")
  | _ => true
theorem lookupMem {a : Addr} {o : Obj} : ∀ {K : Frag}, K.lookup a = some o → (a, o) ∈ K
  | [], h => by cases h
  | (b, x) :: r, h => by
    simp only [List.lookup] at h
    split at h
    · rename_i q
      cases h
      rw [beq_iff_eq.mp q]
      exact List.mem_cons_self
    · exact List.mem_cons_of_mem _ (lookupMem h)
theorem noLst_rd {K : Frag} (h : noLst K = true) {H : Hp} {a : Addr} {xs : List V} (s : SqL K H a xs) : Rd H a (.lst xs) := by
  rcases s with s | ⟨o, its, n, h1, h2, _⟩
  · exact s
  · exfalso
    unfold noLst at h
    rw [List.all_eq_true] at h
    have m := h (a, o) (lookupMem h1)
    simp only [h2] at m
    cases m
/-- a def as the top has written it -/
structure At (K : Frag) (x : Str) (st : Stmt) (f : Addr) (fd : FuncData) : Prop where
  fn : Fun K x x st f fd
  ns : PySem.W.nsIn K mainGlobals x = some (some (.ref f))
omit τ in
theorem At.mk' {K : Frag} {x : Str} {st : Stmt} {f : Addr} {od an : Option Addr} {sl : Array (Option Value)} {oc kV dc pm cd ct : Value}
    (a : PySem.W.nsIn K mainGlobals x = some (some (.ref f))) (l : K.lookup f = some ⟨oc, od, .func (PySem.W.fnOf x x (defArgs st) (defBody st) (defScope st) .none kV dc pm an cd ct), sl⟩) (c : PySem.W.codeIn K cd x = true) (k : PySem.W.keepIn K (.ref f) = true) :
    At K x st f (PySem.W.fnOf x x (defArgs st) (defBody st) (defScope st) .none kV dc pm an cd ct) := ⟨fun_mk l c k, a⟩
/-- how its arguments bind -/
def Arg (st : Stmt) (x : Str) (ps : List Str) : Prop := ∀ (kV doc pm : Value) (an : Option Addr) (cdv ct : Value) (us : List Value), us.length = ps.length → bindArgs (PySem.W.fnOf x x (defArgs st) (defBody st) (defScope st) .none kV doc pm an cdv ct) ⟨us, []⟩ = pure (ps.zip us)
structure Top (K : Frag) (ds : List Df) (G : Gt) (B : List Str) (g : Bool) : Prop where
  names : G.fn = ds.map (·.name)
  ok : ∀ d ∈ ds, d.ok G B g = true
  arg : ∀ d ∈ ds, Arg d.st d.name d.ps
  fns : ∀ d ∈ ds, ∃ fa fd, At K d.name d.st fa fd
  blt : ∀ x ∈ B, PySem.W.nsIn K mainGlobals x = some none
  gl : ∀ p ∈ G.gl, ∃ u v, PySem.W.nsIn K mainGlobals p.1 = some (some u) ∧ RelV v u ∧ ∀ H, Dq K H v p.2
  gcd : g = true → PySem.W.nsIn K mainGlobals ("gcd" : Str) = some (some (.builtin "math.gcd"))
theorem Top.mdl {P : Program} {w : World} {K : Frag} {mg : Str → Option Value} {base : Heap} {ds : List Df} {G : Gt} {B : List Str} {g : Bool} {h : Heap} (X : K.In h) (N : h.Ns mainGlobals mg) (T : Top K ds G B g) (ho : ∀ d ∈ ds, ∀ fa fd, At K d.name d.st fa fd → d.gx = true → OwnC K mg base fa) : Mdl P w K mg base ds G B g where
  names := T.names
  ok := T.ok
  fns := fun d hd => by
    obtain ⟨fa, fd, a⟩ := T.fns d hd
    exact ⟨fa, fd, PySem.W.mg_of X N a.ns, a.fn, a.fn.binds (T.arg d hd), fun hg => ho d hd fa fd a hg⟩
  blt := fun x hx => PySem.W.mg_none_of X N (T.blt x hx)
  gl := fun k p hp => by
    obtain ⟨u, v, h1, h2, h3⟩ := T.gl p (List.mem_of_getElem? hp)
    exact ⟨u, v, PySem.W.mg_of X N h1, h2, h3⟩
  gcd := fun hg => PySem.W.mg_of X N (T.gcd hg)
theorem ints_dq {K : Frag} {H : Hp} : ∀ ns : List Int, DqAll K H (ns.map V.int) (ns.map PyData.int)
  | [] => .nil
  | i :: r => .cons (.int i) (ints_dq r)
omit τ in
/-- a global text -/
theorem gl_mk {K : Frag} {x z : Str} {t : Tok} (hz : z.length ≤ 16777216) (a : PySem.W.nsIn K mainGlobals x = some (some (.str z t))) : ∃ u v, PySem.W.nsIn K mainGlobals x = some (some u) ∧ RelV v u ∧ ∀ H, Dq K H v (.str z) :=
  ⟨_, .str z, a, ⟨t, rfl⟩, fun _ => .str _ hz⟩
omit τ in
/-- one table, out of facts that are read off the frag -/
theorem tab_mk {K : Frag} {x : Str} {st : Stmt} {f c P : Addr} {od an dd : Option Addr} {sl sl2 : Array (Option Value)} {oc kV dc pm ct e : Value} {vs : Array Value}
    (a : PySem.W.nsIn K mainGlobals x = some (some (.ref f))) (l : K.lookup f = some ⟨oc, od, .func (PySem.W.fnOf x x (defArgs st) (defBody st) (defScope st) .none kV dc pm an (.ref c) ct), sl⟩)
    (q : K.lookup c = some ⟨e, dd, .fields vs, sl2⟩) (r : (vs[11]? : Option Value) = some (.ref P)) (n : K.lookup P = none) : ∃ c P, PySem.W.tabIn K x = some (c, P) ∧ K.lookup P = none := by
  refine ⟨c, P, ?_, n⟩
  unfold PySem.W.tabIn
  simp only [a, l, PySem.W.fnOf, q, r]
omit τ in
/-- the tables of the defs that hold a generator expression -/
theorem tabs_of {K : Frag} : ∀ {ds : List Df}, (∀ d ∈ ds, d.gx = true → ∃ c P, PySem.W.tabIn K d.name = some (c, P) ∧ K.lookup P = none) →
    ∃ cs : List (Addr × Addr), (∀ d ∈ ds, d.gx = true → ∃ p ∈ cs, PySem.W.tabIn K d.name = some p) ∧ ∀ p ∈ cs, ∃ d ∈ ds, d.gx = true ∧ PySem.W.tabIn K d.name = some p ∧ K.lookup p.2 = none
  | [], _ => ⟨[], fun d hd => (by cases hd), fun p hp => (by cases hp)⟩
  | d :: ds, h => by
    obtain ⟨cs, h1, h2⟩ := tabs_of (ds := ds) fun e he => h e (List.mem_cons_of_mem _ he)
    cases hg : d.gx with
    | false =>
      refine ⟨cs, fun e he hge => ?_, fun p hp => ?_⟩
      · rcases List.mem_cons.mp he with z | z
        · rw [z, hg] at hge; cases hge
        · exact h1 e z hge
      · obtain ⟨e, he, r⟩ := h2 p hp
        exact ⟨e, List.mem_cons_of_mem _ he, r⟩
    | true =>
      obtain ⟨c, P, k1, k2⟩ := h d List.mem_cons_self hg
      refine ⟨(c, P) :: cs, fun e he hge => ?_, fun p hp => ?_⟩
      · rcases List.mem_cons.mp he with z | z
        · exact ⟨_, List.mem_cons_self, by rw [z]; exact k1⟩
        · obtain ⟨p, hp, r⟩ := h1 e z hge
          exact ⟨p, List.mem_cons_of_mem _ hp, r⟩
      · rcases List.mem_cons.mp hp with z | z
        · exact ⟨d, List.mem_cons_self, hg, by rw [z]; exact k1, by rw [z]; exact k2⟩
        · obtain ⟨e, he, r⟩ := h2 p z
          exact ⟨e, List.mem_cons_of_mem _ he, r⟩
omit τ in
/-- the code object that a table was found by -/
theorem tabIn_code {K : Frag} {x : Str} {c P : Addr} (h : PySem.W.tabIn K x = some (c, P)) : ∃ (f : Addr) (o : Obj) (fd : FuncData), PySem.W.nsIn K mainGlobals x = some (some (.ref f)) ∧ K.lookup f = some o ∧ o.data = .func fd ∧ fd.code = .ref c := by
  unfold PySem.W.tabIn at h
  split at h
  · rename_i f hf
    split at h
    · rename_i hfo
      split at h
      · rename_i c2 hc
        split at h
        · split at h
          · cases h
            exact ⟨f, _, _, hf, hfo, rfl, hc⟩
          · cases h
        · cases h
      · cases h
    · cases h
  · cases h
omit τ in
/-- THE END -/
theorem lawAt {l : PySem.W.OpenLaw} {w : World} {K : Frag} {h : Heap} {mg : Str → Option Value} {fa : Addr} {ds : List Df} {G : Gt} {B : List Str} {g : Bool} {W n i m : Nat} {d : Df} {x : Str} {q : Program}
    (T : Top K ds G B g) (ht : ∀ d ∈ ds, d.gx = true → ∃ c P, PySem.W.tabIn K d.name = some (c, P) ∧ K.lookup P = none) (hq : ∀ d ∈ ds, d.gx = true → ((recsOf q).any fun e => e.name == d.name) = true)
    (hd : ds[i]? = some d) (hx : d.ps = [x]) (hK : noLst K = true) (law : ∀ ns : List Int, ns.length ≤ m → call G (ds.map (·.fn)) W n i [.list (ns.map .int)] = some (.d (.bool true)))
    (X : K.In h) (N : h.Ns mainGlobals mg) (hfa : mg d.name = some (.ref fa))
    (tab : ∀ (x : Str) (c P : Addr), ((recsOf q).any fun e => e.name == x) = true → PySem.W.tabIn K x = some (c, P) → PySem.W.CodeHd h c P ∧ h.get? P = some { cls := .none, data := .fields #[] }) :
    LamX.LawAtS l w K CX0 (2 * n) m x mg fa h := by
  obtain ⟨cs, c1, c2⟩ := tabs_of ht
  have hm := List.mem_of_getElem? hd
  obtain ⟨fa', fd, a⟩ := T.fns d hm
  have e := hfa.symm.trans (PySem.W.mg_of X N a.ns)
  cases e
  let τ : Tabs := ⟨fun P => ∃ p ∈ cs, p.2 = P⟩
  have ct : ∀ p ∈ cs, PySem.W.CodeHd h p.1 p.2 ∧ h.get? p.2 = some { cls := .none, data := .fields #[] } := fun p hp => by
    obtain ⟨d', h1, h2, h3, _⟩ := c2 p hp
    exact tab d'.name p.1 p.2 (hq d' h1 h2) h3
  refine ⟨fd, cs, spF K (call G (ds.map (·.fn)) W n i), fun p hp => (ct p hp).2, fun p hp => let ⟨_, _, _, _, z⟩ := c2 p hp; z, fun p hp => (ct p hp).1, fun s v => ?_, fun H a ns hl _ hT hS => ?_, fun base hb hns hTB => ?_⟩
  · obtain ⟨oc, od, kV, doc, pm, an, cdv, ct, osl, rfl, _⟩ := a.fn.ex
    have := T.arg d hm kV doc pm an cdv ct [v] (by rw [hx]; rfl)
    rw [hx] at this
    exact .of_eq this
  · refine ⟨fun _ => False, [.list (ns.map .int)], .d (.bool true), ⟨⟨a, _, rfl, noLst_rd hK hS, ints_dq ns⟩, trivial⟩, fun P ⟨p, hp, e⟩ => ?_, fun b z => z.elim, law ns hl, trivial, fun v H' e rv => ?_⟩
    · rw [← e]
      exact ⟨#[], hT p hp, trivial⟩
    · cases rv
      rfl
  · rw [← hx]
    refine progOk (T.mdl X N fun d' hd' fa'' fd'' a' hg => ?_) n i d hd fa fd a.fn fun hg => ?_
    · obtain ⟨p, hp, k⟩ := c1 d' hd' hg
      obtain ⟨f, o, fd3, z1, z2, z3, z4⟩ := tabIn_code (c := p.1) (P := p.2) k
      rw [a'.ns] at z1
      cases z1
      have tb := hTB p hp
      exact ⟨o, fd3, p.1, p.2, z2, z3, z4, ⟨tb.code, tb.bm, tb.gP⟩, p, hp, rfl⟩
    · obtain ⟨p, hp, k⟩ := c1 d hm hg
      obtain ⟨f, o, fd3, z1, z2, z3, z4⟩ := tabIn_code (c := p.1) (P := p.2) k
      rw [a.ns] at z1
      cases z1
      have tb := hTB p hp
      exact ⟨o, fd3, p.1, p.2, z2, z3, z4, ⟨tb.code, tb.bm, tb.gP⟩, p, hp, rfl⟩
omit τ in
theorem walk_ofG {l : PySem.W.OpenLaw} {n k : Nat} {q : Program} {loose : List Str} {XP : (Str → Option Value) → Heap → Prop} {YP : World → Heap → Prop} {d : DefRec} {K : Params → PySem.W.Frag} {CX : World → CXT} {x : Str}
    (hn : l.most = some n) (hn2 : n ≤ sizeLine) (hdf : d.params.defaults = []) (hr : Room k callerA) (hY : ∀ (w : World) (h : Heap), YP w h → (K w.params).In h)
    (F : ∀ (w : World) (mg : Str → Option Value) (fa : Addr) (h : Heap), (K w.params).In h → h.Ns mainGlobals mg → mg d.name = some (.ref fa) →
      (∀ (x : Str) (c P : Addr), ((recsOf q).any fun e => e.name == x) = true → PySem.W.tabIn (K w.params) x = some (c, P) → PySem.W.CodeHd h c P ∧ h.get? P = some { cls := .none, data := .fields #[] }) → LamX.LawAtS l w (K w.params) (CX w) k n x mg fa h)
    (hCX : ∀ (w : World) (H : Hp) (s : Shared) (e : Value) (s' : Shared), CX w [] H s (fun _ _ _ => False) e s' → False) :
    PySem.W.WalkO q loose XP YP l.row.toRowW d [] (fun f vs => PySem.call f vs) := by
  refine Att.attach_callB hn hdf fun w s₀ s₁ mg mb fa o pm cd doc a vs ns G Y ho hd hcd hmg hobj hints hlen hbits hg => ?_
  have KX := hY w _ Y
  have tab : ∀ (x : Str) (c P : Addr), ((recsOf q).any fun e => e.name == x) = true → PySem.W.tabIn (K w.params) x = some (c, P) → PySem.W.CodeHd s₁.heap c P ∧ s₁.heap.get? P = some { cls := .none, data := .fields #[] } := fun x c P hx ht => by
    cases hf : (recsOf q).find? (fun e => e.name == x) with
    | none =>
      obtain ⟨e, h1, h2⟩ := List.any_eq_true.mp hx
      have := List.find?_eq_none.mp hf e h1
      exact absurd h2 this
    | some e => exact PySem.W.tab_of G.T KX hf ht
  obtain ⟨fd, cs, sp, hT, nT, C, hb, hsp, hF⟩ := F w mg fa _ KX G.T.g hmg tab
  exact LamX.law_callTs KX G.T.g G.T.b G.T.builtins G.T.nolimit hg hT nT C G.T.bmain hobj hints (Nat.le_trans hlen hn2) hr hF hb (fun H hH hS => hsp H a ns hlen hbits hH hS) fun H e s' => hCX w H s₁ e s'
end WM

/-! ## part P: working with the evaluator -/
namespace WM
open PySem PySem.Spec PyProof.Rows L2

/-- a text by its letters -/
abbrev Tx (l : List Nat) : D := .str (mkS l)
theorem len_mkS (l : List Nat) : (mkS l).length = l.length := by simp [mkS, Str.length]
theorem mkS_iff {a b : List Nat} : mkS a = mkS b ↔ a = b := ⟨fun h => by have := congrArg cs h; simpa [cs_mkS] using this, fun h => by rw [h]⟩
/-- not held by a loop -/
def nlk : Sl → Bool
  | .lk _ => false
  | _ => true
theorem setS_nlk {ρ : List Sl} {i : Nat} {s x : Sl} (h : ρ[i]? = some s) (n : nlk s = true) : setS ρ i x = some (ρ.set i x) := by
  unfold setS
  rw [h]
  cases s <;> first | rfl | cases n
theorem call_eq {G : Gt} {T : List Fn} {W n f : Nat} {ds : List D} {fn : Fn} (h : T[f]? = some fn) (hl : ds.length = fn.np) :
    call G T W (n + 1) f ds = outR (exs G (call G T W n) W fn.body (entry fn.np fn.nl ds)) := by
  simp only [call, h, hl, if_true]
/-! ### loops -/
theorem forRun_inv {step : D → List Sl → Option Out} {P : Out → Prop} (I : Nat → List Sl → Prop) : ∀ {xs : List D} {k : Nat} {ρ : List Sl}, I k ρ →
    (∀ j x ρ, xs[j]? = some x → I (k + j) ρ → ∃ o, step x ρ = some o ∧ match o with | .next ρ' => I (k + j + 1) ρ' | .cnt ρ' => I (k + j + 1) ρ' | .brk ρ' => P (.next ρ') | .ret r => P (.ret r)) →
    (∀ ρ, I (k + xs.length) ρ → P (.next ρ)) → ∃ o, forRun step xs ρ = some o ∧ P o
  | [], k, ρ, h0, hs, hd => ⟨_, rfl, hd ρ h0⟩
  | x :: xs, k, ρ, h0, hs, hd => by
    obtain ⟨o, ho, h⟩ := hs 0 x ρ rfl h0
    have go : ∀ ρ', I (k + 1) ρ' → ∃ o, forRun step xs ρ' = some o ∧ P o := fun ρ' h' => forRun_inv I h' (fun j y ρ2 hj i2 => by
      have := hs (j + 1) y ρ2 (by simpa using hj) (by rw [show k + (j + 1) = k + 1 + j by omega]; exact i2)
      rw [show k + (j + 1) = k + 1 + j by omega] at this
      exact this) fun ρ2 i2 => hd ρ2 (by rw [List.length_cons, show k + (xs.length + 1) = k + 1 + xs.length by omega]; exact i2)
    cases o with
    | next ρ' =>
      obtain ⟨o', h1, h2⟩ := go ρ' h
      exact ⟨o', by simp only [forRun, ho, Option.bind_some]; exact h1, h2⟩
    | cnt ρ' =>
      obtain ⟨o', h1, h2⟩ := go ρ' h
      exact ⟨o', by simp only [forRun, ho, Option.bind_some]; exact h1, h2⟩
    | brk ρ' => exact ⟨.next ρ', by simp only [forRun, ho, Option.bind_some], h⟩
    | ret r => exact ⟨.ret r, by simp only [forRun, ho, Option.bind_some], h⟩
/-- a loop that looks for the first -/
theorem forRun_find {α : Type} {step : D → List Sl → Option Out} (enc : α → D) (p : α → Bool) (r : α → R) (I : List Sl → Prop) : ∀ {as : List α} {ρ : List Sl}, I ρ →
    (∀ a ∈ as, ∀ ρ, I ρ → (p a = true → step (enc a) ρ = some (.ret (r a))) ∧ (p a = false → ∃ ρ', step (enc a) ρ = some (.next ρ') ∧ I ρ')) →
    (∀ a, as.find? p = some a → forRun step (as.map enc) ρ = some (.ret (r a))) ∧ (as.find? p = none → ∃ ρ', forRun step (as.map enc) ρ = some (.next ρ') ∧ I ρ')
  | [], ρ, h0, hs => ⟨fun a h => (by cases h), fun _ => ⟨ρ, rfl, h0⟩⟩
  | a :: as, ρ, h0, hs => by
    obtain ⟨h1, h2⟩ := hs a List.mem_cons_self ρ h0
    cases hp : p a with
    | true =>
      refine ⟨fun b hb => ?_, fun h => ?_⟩
      · rw [List.find?_cons_of_pos hp] at hb
        cases hb
        simp only [List.map_cons, forRun, h1 hp, Option.bind_some]
      · rw [List.find?_cons_of_pos hp] at h
        cases h
    | false =>
      obtain ⟨ρ', e, i⟩ := h2 hp
      obtain ⟨g1, g2⟩ := forRun_find enc p r I (as := as) i fun b hb => hs b (List.mem_cons_of_mem _ hb)
      rw [List.find?_cons_of_neg (by simp [hp])]
      refine ⟨fun b hb => ?_, fun h => ?_⟩
      · simp only [List.map_cons, forRun, e, Option.bind_some]
        exact g1 b hb
      · obtain ⟨ρ2, e2, i2⟩ := g2 h
        exact ⟨ρ2, by simp only [List.map_cons, forRun, e, Option.bind_some]; exact e2, i2⟩
/-! ### comprehensions -/
theorem lcRun_map {α : Type} {t : Tg} {ρ : List Sl} {p : List Sl → Option Bool} {f : List Sl → Option R} (enc : α → D) (q : α → Bool) (g : α → D) : ∀ {as : List α},
    (∀ a ∈ as, ∃ ρ1, asgD t (enc a) ρ = some ρ1 ∧ p ρ1 = some (q a) ∧ (q a = true → ∃ r, f ρ1 = some r ∧ r.share = some (g a))) → lcRun t ρ p f (as.map enc) = some ((as.filter q).map g)
  | [], _ => rfl
  | a :: as, h => by
    obtain ⟨ρ1, h1, h2, h3⟩ := h a List.mem_cons_self
    have ih := lcRun_map enc q g (as := as) fun b hb => h b (List.mem_cons_of_mem _ hb)
    simp only [List.map_cons, lcRun, h1, h2, Option.bind_some]
    cases hq : q a with
    | true =>
      obtain ⟨r, h4, h5⟩ := h3 hq
      simp only [h4, h5, Option.bind_some, ih, Option.map_some, List.filter_cons, hq, if_true, List.map_cons]
    | false =>
      simp only [ih, List.filter_cons, hq]
      rfl
/-! ### values -/
theorem okD_int (i : Int) : okD (.int i) = true := rfl
theorem okD_str (z : Str) : okD (.str z) = true := rfl
theorem okD_bool (b : Bool) : okD (.bool b) = true := rfl
theorem okD_none : okD .none = true := rfl
theorem okD_tup (xs : List D) : okD (.tuple xs) = xs.all (okN 59) := rfl
theorem okD_lst (xs : List D) : okD (.list xs) = xs.all (okN 59) := rfl
theorem szOk_ok {n : Nat} (h : n ≤ 16777216) : szOk n = true := by simp [szOk, h]
theorem intOk_ok {i : Int} (h : -18446744073709551616 < i ∧ i < 18446744073709551616) : intOk i = true := by
  unfold intOk
  simp only [Bool.and_eq_true, decide_eq_true_eq]
  exact ⟨by have := h.1; omega, by have := h.2; omega⟩
theorem bndOk_ok {i : Int} (h : -4611686018427387904 ≤ i ∧ i < 4611686018427387904) : bndOk i = true := by
  unfold bndOk
  simp only [Bool.and_eq_true, decide_eq_true_eq]
  exact ⟨by have := h.1; omega, by have := h.2; omega⟩
theorem eqv_int (i j : Int) : PyData.eqv (.int i) (.int j) = decide (i = j) := by
  show (i == j) = _
  exact Bool.eq_iff_iff.mpr (by simp)
theorem eqv_str (a b : List Nat) : PyData.eqv (Tx a) (Tx b) = decide (a = b) := by
  show (mkS a == mkS b) = _
  exact Bool.eq_iff_iff.mpr (by simp [mkS_iff])
theorem eqv_bool (a b : Bool) : PyData.eqv (.bool a) (.bool b) = decide (a = b) := by
  cases a <;> cases b <;> rfl
theorem eqv_none : PyData.eqv .none .none = true := rfl
theorem alike_int (i j : Int) : PySem.W.alike (.int i) (.int j) = true := rfl
theorem alike_str (a b : Str) : PySem.W.alike (.str a) (.str b) = true := rfl
theorem lt_int (i j : Int) : PySem.W.dataLt (.int i) (.int j) = decide (i < j) := PySem.W.dataLt_int i j
theorem lt_str (a b : List Nat) : PySem.W.dataLt (Tx a) (Tx b) = decide (a < b) := PySem.W.dataLt_str _ _
theorem atI_get {α : Type} {xs : List α} {i : Int} (h : 0 ≤ i) : atI xs i = xs[i.toNat]? := by
  unfold atI ixN
  rw [if_pos h]
  by_cases h2 : i < xs.length
  · rw [if_pos h2]; rfl
  · rw [if_neg h2, List.getElem?_eq_none (by omega)]; rfl
end WM
namespace WM
open PySem PySem.Spec PyProof.Rows L2
/-! ### rules: an expression's value, step by step -/
section
variable {G : Gt} {Φ : Phi} {W : Nat} {ρ ρ' : List Sl} {m : Bool} {x y r r' : R} {d : D} {xs : List D} {a b c e : E} {es : Es} {op op' : CmpOp} {p q k : Bool} {i j f : Nat} {l l' : List Nat} {u v : Int}
theorem ev_va (h : ρ[i]? = some (.va d)) : ev G Φ (.var i) false ρ = some (.d d) := by simp only [ev, h, fin]
theorem ev_ow (h : ρ[i]? = some (.ow xs)) : ev G Φ (.var i) false ρ = some (.b xs) := by simp only [ev, h, fin]
theorem ev_lk (h : ρ[i]? = some (.lk xs)) : ev G Φ (.var i) false ρ = some (.b xs) := by simp only [ev, h, fin]
theorem ev_rd (h : ρ[i]? = some (.rd xs)) : ev G Φ (.var i) false ρ = some (.b xs) := by simp only [ev, h, fin]
theorem ev_cst {c : Const} (h : cstD c = some d) : ev G Φ (.cst c) false ρ = some (.d d) := by simp only [ev, h, fin, Option.map_some]
theorem ev_cstS {z : Str} : ev G Φ (.cst (.str z)) false ρ = some (.d (Tx (cs z))) := by rw [Tx, mkS_cs]; rfl
theorem ev_glb {n : Str} (h : G.gl[i]? = some (n, d)) : ev G Φ (.glb i) false ρ = some (.d d) := by simp only [ev, h, fin, Option.map_some]
theorem ev_tup {rs : List R} (h : evs G Φ es ρ = some rs) (h2 : shareAll rs = some xs) : ev G Φ (.tup es) false ρ = some (.d (.tuple xs)) := by simp only [ev, h, h2, fin, Option.map_some, Option.bind_some]
theorem ev_lst {rs : List R} (h : evs G Φ es ρ = some rs) (h2 : shareAll rs = some xs) : ev G Φ (.lst es) false ρ = some (.f xs) := by simp only [ev, h, h2, fin, Option.map_some, Option.bind_some]
theorem ev_bin {o : Operator} (h1 : ev G Φ a false ρ = some x) (h2 : ev G Φ b false ρ = some y) (h : binR o x y = some r) : ev G Φ (.bin o a b) false ρ = some r := by simp only [ev, h1, h2, h, fin, Option.bind_some]
theorem ev_neg (h1 : ev G Φ a false ρ = some (.d (.int u))) : ev G Φ (.neg a) false ρ = some (.d (.int (-u))) := by simp only [ev, h1, fin, Option.bind_some, R.toD]
theorem ev_inv (h1 : ev G Φ a m ρ = some (.d (.bool p))) : ev G Φ (.inv a) m ρ = some (.d (.bool (!p))) := by simp only [ev, h1, asB, Option.map_some]
theorem ev_cmp (h1 : ev G Φ a false ρ = some x) (h2 : ev G Φ b false ρ = some y) (h : cmpD op x.toD y.toD = some p) : ev G Φ (.cmp op a b) m ρ = some (.d (.bool p)) := by simp only [ev, h1, h2, h, Option.bind_some, Option.map_some]
theorem ev_chn {z : R} (h1 : ev G Φ a false ρ = some x) (h2 : ev G Φ b false ρ = some y) (h : cmpD op x.toD y.toD = some p) (h3 : p = true → ev G Φ c false ρ = some z) (h4 : p = true → cmpD op' y.toD z.toD = some q) : ev G Φ (.chn op op' a b c) m ρ = some (.d (.bool (p && q))) := by
  cases p with
  | false => simp only [ev, h1, h2, h, Option.bind_some]; rfl
  | true => simp only [ev, h1, h2, h, h3 rfl, h4 rfl, Option.bind_some, Option.map_some]; rfl
theorem ev_and (h : andV G Φ es m ρ = some r) : ev G Φ (.and es) m ρ = some r := by simp only [ev, h]
theorem ev_or (h : orV G Φ es m ρ = some r) : ev G Φ (.or es) m ρ = some r := by simp only [ev, h]
theorem and_one (h : ev G Φ a m ρ = some r) : andV G Φ (.cons a .nil) m ρ = some r := by simp only [andV, h]
theorem and_cons {a2 : E} {r2 : Es} (h : ev G Φ a m ρ = some (.d (.bool p))) (h2 : p = true → andV G Φ (.cons a2 r2) m ρ = some (.d (.bool q))) : andV G Φ (.cons a (.cons a2 r2)) m ρ = some (.d (.bool (p && q))) := by
  rw [andV]
  simp only [h, asB, Option.bind_some]
  cases p with
  | false => rfl
  | true => rw [h2 rfl]; rfl
theorem or_one (h : ev G Φ a m ρ = some r) : orV G Φ (.cons a .nil) m ρ = some r := by simp only [orV, h]
theorem or_cons {a2 : E} {r2 : Es} (h : ev G Φ a m ρ = some (.d (.bool p))) (h2 : p = false → orV G Φ (.cons a2 r2) m ρ = some (.d (.bool q))) : orV G Φ (.cons a (.cons a2 r2)) m ρ = some (.d (.bool (p || q))) := by
  rw [orV]
  simp only [h, asB, Option.bind_some]
  cases p with
  | true => rfl
  | false => rw [h2 rfl]; rfl
theorem ev_ife (h : ev G Φ c true ρ = some (.d (.bool p))) (h1 : p = true → ev G Φ a false ρ = some x) (h2 : p = false → ev G Φ b false ρ = some y) : ev G Φ (.ife c a b) false ρ = some (if p = true then x else y) := by
  cases p with
  | true => simp only [ev, h, asB, Option.bind_some, h1 rfl]; rfl
  | false => simp only [ev, h, asB, Option.bind_some, h2 rfl]; rfl
theorem ev_ix (h1 : ev G Φ a false ρ = some x) (h2 : ev G Φ b false ρ = some y) (h : ixD x.toD y.toD = some d) : ev G Φ (.ix a b) false ρ = some (.d d) := by simp only [ev, h1, h2, h, fin, Option.bind_some, Option.map_some]
theorem ev_sl {lo hi : Oe} {s t : Option Int} (h1 : ev G Φ a false ρ = some x) (h2 : evo G Φ lo ρ = some s) (h3 : evo G Φ hi ρ = some t) (h : slD x.toD s t = some r) : ev G Φ (.sl a lo hi) false ρ = some r := by simp only [ev, h1, h2, h3, h, fin, Option.bind_some]
theorem ev_rev (h1 : ev G Φ a false ρ = some x) (h : revD x.toD = some r) : ev G Φ (.rev a) false ρ = some r := by simp only [ev, h1, h, fin, Option.bind_some]
theorem ev_callD {rs : List R} (h1 : evs G Φ es ρ = some rs) (h : Φ f (rs.map R.toD) = some (.d d)) : ev G Φ (.call f es) false ρ = some (.d d) := by simp only [ev, h1, h, fin, Option.bind_some]
theorem ev_callF {rs : List R} (h1 : evs G Φ es ρ = some rs) (h : Φ f (rs.map R.toD) = some (.f xs)) : ev G Φ (.call f es) false ρ = some (.f xs) := by simp only [ev, h1, h, fin, Option.bind_some]
theorem ev_b1 {g : B1} (h1 : ev G Φ a false ρ = some x) (h : b1D g x.toD = some r) : ev G Φ (.b1 g a) false ρ = some r := by simp only [ev, h1, h, fin, Option.bind_some]
theorem ev_b2 {g : B2} (h1 : ev G Φ a false ρ = some x) (h2 : ev G Φ b false ρ = some y) (h : b2D g x.toD y.toD = some r) : ev G Φ (.b2 g a b) false ρ = some r := by simp only [ev, h1, h2, h, fin, Option.bind_some]
theorem ev_isi {t : Ty} (h1 : ev G Φ a false ρ = some x) (h : isiD t x.toD = p) : ev G Φ (.isi a t) false ρ = some (.d (.bool p)) := by simp only [ev, h1, h, fin, Option.map_some]
theorem ev_m1 {g : M1} (h1 : ev G Φ a false ρ = some x) (h2 : ev G Φ b false ρ = some y) (h : m1D g x.toD y.toD = some r) : ev G Φ (.m1 g a b) false ρ = some r := by simp only [ev, h1, h2, h, fin, Option.bind_some]
theorem ev_lc {own : List (Str × Nat)} {t : Tg} {it : It} {ifs : Es} {ρ0 : List Sl} (h1 : evIt G Φ it ρ = some xs) (h2 : wipeS ρ (own.map (·.2)) = some ρ0) (hz : xs.length ≤ 16777216) {ys : List D} (h : lcRun t ρ0 (fun ρ => tvs G Φ ifs ρ) (fun ρ => ev G Φ e false ρ) xs = some ys) : ev G Φ (.lc own t it ifs e) false ρ = some (.f ys) := by
  simp only [ev, h1, h2, h, fin, Option.bind_some, Option.map_some, szOk_ok hz, if_true]
/-- as a test, of what is no test by itself -/
theorem ev_t (h : ev G Φ e false ρ = some x) (hf : ∀ ρ, ev G Φ e true ρ = fin true (ev G Φ e false ρ)) (ht : tru x.toD = some p) : ev G Φ e true ρ = some (.d (.bool p)) := by rw [hf, h]; simp only [fin, Option.bind_some, ht, Option.map_some]
theorem evs_nil : evs G Φ .nil ρ = some [] := by simp only [evs]
theorem evs_cons {rs : List R} (h : ev G Φ a false ρ = some x) (h2 : evs G Φ es ρ = some rs) : evs G Φ (.cons a es) ρ = some (x :: rs) := by simp only [evs, h, h2, Option.bind_some, Option.map_some]
theorem evo_no : evo G Φ .no ρ = some none := by simp only [evo]
theorem evo_so (h : ev G Φ e false ρ = some (.d (.int u))) : evo G Φ (.so e) ρ = some (some u) := by simp only [evo, h, Option.bind_some, R.toD]
theorem it_rg1 (h : ev G Φ e false ρ = some (.d (.int u))) (hb : -4611686018427387904 ≤ u ∧ u < 4611686018427387904) : evIt G Φ (.rg1 e) ρ = some (rangeL 0 u.toNat) := by simp only [evIt, h, Option.bind_some, R.toD, bndOk_ok hb, if_true]
theorem it_rg2 (h : ev G Φ a false ρ = some (.d (.int u))) (h2 : ev G Φ b false ρ = some (.d (.int v))) (hb : -4611686018427387904 ≤ u ∧ u < 4611686018427387904) (hb2 : -4611686018427387904 ≤ v ∧ v < 4611686018427387904) : evIt G Φ (.rg2 a b) ρ = some (rangeL u (v - u).toNat) := by
  simp only [evIt, h, h2, Option.bind_some, R.toD, bndOk_ok hb, bndOk_ok hb2, Bool.and_self, if_true]
theorem it_e (h : ev G Φ e false ρ = some x) (h2 : itB e x = some xs) : evIt G Φ (.e e) ρ = some xs := by simp only [evIt, h, h2, Option.bind_some]
theorem tv_of (h : ev G Φ e true ρ = some (.d (.bool p))) : tv G Φ e ρ = some p := by simp only [tv, h, asB]
/-! ### statements -/
def Run (G : Gt) (Φ : Phi) (W : Nat) (ss : Ss) (ρ : List Sl) (P : Out → Prop) : Prop := ∃ o, exs G Φ W ss ρ = some o ∧ P o
variable {P : Out → Prop} {ss sa sb : Ss} {t : Tg}
theorem run_nil (h : P (.next ρ)) : Run G Φ W .nil ρ P := ⟨_, by simp only [exs], h⟩
theorem run_skip (h : Run G Φ W ss ρ P) : Run G Φ W (.cons .skip ss) ρ P := by
  obtain ⟨o, h1, h2⟩ := h
  exact ⟨o, by simp only [exs, ex, Option.bind_some]; exact h1, h2⟩
theorem run_step {s : S} (h1 : ex G Φ W s ρ = some (.next ρ')) (h : Run G Φ W ss ρ' P) : Run G Φ W (.cons s ss) ρ P := by
  obtain ⟨o, h3, h4⟩ := h
  exact ⟨o, by simp only [exs, h1, Option.bind_some]; exact h3, h4⟩
theorem asgM_of {t : Tg} (h : asgR t r ρ = some ρ') : asgM t e r ρ = some ρ' := by
  cases r with
  | b xs => cases t <;> cases h
  | bd xs => cases t <;> cases h
  | _ => exact h
theorem run_asg (h1 : ev G Φ e false ρ = some r) (h2 : asgR t r ρ = some ρ') (h : Run G Φ W ss ρ' P) : Run G Φ W (.cons (.asg t e) ss) ρ P := run_step (by simp only [ex, h1, asgM_of h2, Option.bind_some, Option.map_some]) h
/-- a name's own list goes over -/
theorem run_mov (hj : ρ[j]? = some (.ow xs)) (ne : i ≠ j) (h2 : setS ρ i (.ow xs) = some ρ') (h : Run G Φ W ss (ρ'.set j .no) P) : Run G Φ W (.cons (.asg (.nm i) (.var j)) ss) ρ P :=
  run_step (by simp only [ex, ev_ow hj, asgM, movR, hj, if_neg ne, h2, Option.bind_some, Option.map_some]) h
theorem run_ret (h1 : ev G Φ e false ρ = some r) (h2 : retR e ρ r = some r') (h : P (.ret r')) : Run G Φ W (.cons (.ret e) ss) ρ P := ⟨.ret r', by simp only [exs, ex, h1, h2, Option.bind_some, Option.map_some], h⟩
theorem run_retN (h : P (.ret (.d .none))) : Run G Φ W (.cons .retN ss) ρ P := ⟨_, by simp only [exs, ex, Option.bind_some], h⟩
theorem run_brk (h : P (.brk ρ)) : Run G Φ W (.cons .brk ss) ρ P := ⟨_, by simp only [exs, ex, Option.bind_some], h⟩
theorem run_cnt (h : P (.cnt ρ)) : Run G Φ W (.cons .cnt ss) ρ P := ⟨_, by simp only [exs, ex, Option.bind_some], h⟩
theorem run_app (h0 : ρ[i]? = some (.ow xs)) (h1 : ev G Φ e false ρ = some r) (h2 : r.share = some d) (hz : xs.length + 1 ≤ 16777216) (h3 : ρ.set i (.ow (xs ++ [d])) = ρ') (h : Run G Φ W ss ρ' P) : Run G Φ W (.cons (.app i e) ss) ρ P := by
  refine run_step ?_ h
  simp only [ex, h0, h1, h2, Option.bind_some, szOk_ok hz, if_true, h3]
theorem run_aug {o : Operator} (h0 : ρ[i]? = some (.va d)) (h1 : ev G Φ e false ρ = some r) {d' : D} (h2 : augR o d r = some d') (h3 : ρ.set i (.va d') = ρ') (h : Run G Φ W ss ρ' P) : Run G Φ W (.cons (.aug i o e) ss) ρ P := by
  refine run_step ?_ h
  simp only [ex, h0, h1, h2, Option.bind_some, Option.map_some, h3]
/-- behind a part -/
@[reducible] def Then (G : Gt) (Φ : Phi) (W : Nat) (ss : Ss) (P : Out → Prop) : Out → Prop
  | .next ρ => Run G Φ W ss ρ P
  | o => P o
theorem run_ex {s : S} {o : Out} (h1 : ex G Φ W s ρ = some o) (h : Then G Φ W ss P o) : Run G Φ W (.cons s ss) ρ P := by
  cases o with
  | next ρ' => exact run_step h1 h
  | brk ρ' => exact ⟨.brk ρ', by simp only [exs, h1, Option.bind_some], h⟩
  | cnt ρ' => exact ⟨.cnt ρ', by simp only [exs, h1, Option.bind_some], h⟩
  | ret r => exact ⟨.ret r, by simp only [exs, h1, Option.bind_some], h⟩
theorem run_ite (h1 : ev G Φ c true ρ = some (.d (.bool p))) (h2 : p = true → Run G Φ W sa ρ (Then G Φ W ss P)) (h3 : p = false → Run G Φ W sb ρ (Then G Φ W ss P)) : Run G Φ W (.cons (.ite c sa sb) ss) ρ P := by
  cases p with
  | true =>
    obtain ⟨o, k1, k2⟩ := h2 rfl
    refine run_ex (o := o) ?_ k2
    simp only [ex, tv, h1, asB, Option.bind_some]
    exact k1
  | false =>
    obtain ⟨o, k1, k2⟩ := h3 rfl
    refine run_ex (o := o) ?_ k2
    simp only [ex, tv, h1, asB, Option.bind_some]
    exact k1
/-- a guard that sends out -/
theorem run_if (h1 : ev G Φ c true ρ = some (.d (.bool p))) (h2 : p = true → Run G Φ W sa ρ (Then G Φ W ss P)) (h3 : p = false → Run G Φ W ss ρ P) : Run G Φ W (.cons (.ite c sa .nil) ss) ρ P := run_ite h1 h2 fun z => run_nil (h3 z)
theorem run_ifF (h1 : ev G Φ c true ρ = some (.d (.bool false))) (h3 : Run G Φ W ss ρ P) : Run G Φ W (.cons (.ite c sa .nil) ss) ρ P := run_if h1 (fun z => (by cases z)) fun _ => h3
/-- the rest of a loop -/
def unl (it : It) (ρ : List Sl) : List Nat := it.locks.filter fun i => isOw ρ[i]?
theorem run_loop {it : It} (h1 : evIt G Φ it ρ = some xs) (h2 : ∃ o, forRun (fun x ρ => (asgD t x ρ).bind fun ρ' => exs G Φ W sa ρ') xs (lockS it.locks ρ) = some o ∧ match o with | .next ρ' => Run G Φ W ss (unlockS (unl it ρ) ρ') P | .ret r => P (.ret r) | _ => False) : Run G Φ W (.cons (.loop t it sa) ss) ρ P := by
  obtain ⟨o, k1, k2⟩ := h2
  cases o with
  | next ρ' =>
    refine run_step (ρ' := unlockS (unl it ρ) ρ') ?_ k2
    simp only [ex, h1, k1, Option.bind_some, Option.map_some]
    rfl
  | ret r =>
    refine ⟨.ret r, ?_, k2⟩
    simp only [exs, ex, h1, k1, Option.bind_some, Option.map_some]
  | brk _ => exact k2.elim
  | cnt _ => exact k2.elim
/-- behind a turn of a loop -/
def Turn (G : Gt) (Φ : Phi) (W : Nat) (it : It) (ρ : List Sl) (ss : Ss) (P : Out → Prop) (Nx : List Sl → Prop) : Out → Prop
  | .next ρ' => Nx ρ'
  | .cnt ρ' => Nx ρ'
  | .brk ρ' => Run G Φ W ss (unlockS (unl it ρ) ρ') P
  | .ret r => P (.ret r)
/-- a loop by its invariant -/
theorem run_for {it : It} (I : Nat → List Sl → Prop) (h1 : evIt G Φ it ρ = some xs) (h0 : I 0 (lockS it.locks ρ))
    (hs : ∀ j x ρ1, xs[j]? = some x → I j ρ1 → ∃ ρ2, asgD t x ρ1 = some ρ2 ∧ Run G Φ W sa ρ2 (Turn G Φ W it ρ ss P (I (j + 1))))
    (hd : ∀ ρ', I xs.length ρ' → Run G Φ W ss (unlockS (unl it ρ) ρ') P) : Run G Φ W (.cons (.loop t it sa) ss) ρ P := by
  refine run_loop h1 ?_
  refine forRun_inv (P := fun o => match o with | .next ρ' => Run G Φ W ss (unlockS (unl it ρ) ρ') P | .ret r => P (.ret r) | _ => False) I (k := 0) h0 (fun j x ρ1 hx hI => ?_) fun ρ' h => hd ρ' (by rw [Nat.zero_add] at h; exact h)
  rw [Nat.zero_add] at hI ⊢
  obtain ⟨ρ2, e, o, k1, k2⟩ := hs j x ρ1 hx hI
  refine ⟨o, by simp only [e, Option.bind_some]; exact k1, ?_⟩
  cases o with
  | next _ => exact k2
  | cnt _ => exact k2
  | brk _ => exact k2
  | ret _ => exact k2
/-- a loop that looks for the first, over a row of encoded things -/
theorem run_find {α : Type} {it : It} {as : List α} (enc : α → D) (p : α → Bool) (r : α → R) (I : List Sl → Prop) (h1 : evIt G Φ it ρ = some (as.map enc)) (h0 : I (lockS it.locks ρ))
    (hs : ∀ a ∈ as, ∀ ρ1, I ρ1 → ∃ ρ2, asgD t (enc a) ρ1 = some ρ2 ∧ Run G Φ W sa ρ2 fun o => if p a = true then o = .ret (r a) else ∃ ρ3, o = .next ρ3 ∧ I ρ3)
    (hy : ∀ a, as.find? p = some a → P (.ret (r a))) (hn : as.find? p = none → ∀ ρ', I ρ' → Run G Φ W ss (unlockS (unl it ρ) ρ') P) : Run G Φ W (.cons (.loop t it sa) ss) ρ P := by
  refine run_loop h1 ?_
  have := forRun_find (step := fun x ρ => (asgD t x ρ).bind fun ρ' => exs G Φ W sa ρ') enc p r I (as := as) h0 fun a ha ρ1 i1 => by
    obtain ⟨ρ2, e, o, k1, k2⟩ := hs a ha ρ1 i1
    refine ⟨fun hp => ?_, fun hp => ?_⟩
    · rw [if_pos hp] at k2
      subst k2
      simp only [e, Option.bind_some]; exact k1
    · rw [if_neg (by rw [hp]; exact Bool.false_ne_true)] at k2
      obtain ⟨ρ3, rfl, i3⟩ := k2
      exact ⟨ρ3, by simp only [e, Option.bind_some]; exact k1, i3⟩
  cases hf : as.find? p with
  | some a => exact ⟨_, this.1 a hf, hy a hf⟩
  | none =>
    obtain ⟨ρ', e, i⟩ := this.2 hf
    exact ⟨_, e, hn hf ρ' i⟩
theorem call_run {T : List Fn} {n : Nat} {ds : List D} {fn : Fn} (h : T[f]? = some fn) (hl : ds.length = fn.np) (hr : Run G (call G T W n) W fn.body (entry fn.np fn.nl ds) fun o => outR (some o) = some r) : call G T W (n + 1) f ds = some r := by
  rw [call_eq h hl]
  obtain ⟨o, h1, h2⟩ := hr
  rw [h1]; exact h2
end
end WM
namespace WM
open PySem PySem.Spec PyProof.Rows L2
/-! ### the parts' values -/
section
variable {u v : Int} {l l' : List Nat} {x y : R} {xs ys : List D} {i : Nat} {d : D}
theorem bn_add : binR .Add (.d (.int u)) (.d (.int v)) = some (.d (.int (u + v))) := rfl
theorem bn_sub : binR .Sub (.d (.int u)) (.d (.int v)) = some (.d (.int (u - v))) := rfl
theorem bn_mulL (h : -18446744073709551616 < u ∧ u < 18446744073709551616) : binR .Mult (.d (.int u)) (.d (.int v)) = some (.d (.int (u * v))) := by
  simp only [binR, binD, R.toD, intOk_ok h, Bool.true_or, if_true]
theorem bn_mulR (h : -18446744073709551616 < v ∧ v < 18446744073709551616) : binR .Mult (.d (.int u)) (.d (.int v)) = some (.d (.int (u * v))) := by
  simp only [binR, binD, R.toD, intOk_ok h, Bool.or_true, if_true]
theorem bn_div (h : 0 < v ∧ v < 1073741824) : binR .FloorDiv (.d (.int u)) (.d (.int v)) = some (.d (.int (u / v))) := by
  simp [binR, binD, R.toD, h.1, h.2]
theorem bn_mod (h : 0 < v) : binR .Mod (.d (.int u)) (.d (.int v)) = some (.d (.int (u % v))) := by
  simp [binR, binD, R.toD, h]
theorem bn_addT (h : l.length + l'.length ≤ 16777216) : binR .Add (.d (Tx l)) (.d (Tx l')) = some (.d (Tx (l ++ l'))) := by
  simp only [binR, binD, R.toD, len_mkS, szOk_ok h, if_true, cs_mkS]
theorem bn_mulT (h : 0 ≤ u ∧ u < 1000000) (h2 : l.length ≤ 16) : binR .Mult (.d (Tx l)) (.d (.int u)) = some (.d (Tx (List.replicate u.toNat l).flatten)) := by
  have z : l.length * u.toNat ≤ 16777216 := Nat.le_trans (Nat.mul_le_mul h2 (show u.toNat ≤ 1000000 by omega)) (by decide)
  have z2 : u < 2 ^ 62 := by have := h.2; omega
  have z3 : -(2 ^ 62) < u := by have := h.1; omega
  simp only [binR, binD, R.toD, len_mkS, szOk_ok z, decide_eq_true z2, decide_eq_true z3, cs_mkS, Bool.and_self, if_true]
theorem bn_mulT2 (h : 0 ≤ u ∧ u < 4096) (h2 : l.length ≤ 4096) : binR .Mult (.d (Tx l)) (.d (.int u)) = some (.d (Tx (List.replicate u.toNat l).flatten)) := by
  have z : l.length * u.toNat ≤ 16777216 := Nat.le_trans (Nat.mul_le_mul h2 (show u.toNat ≤ 4096 by omega)) (by decide)
  have z2 : u < 2 ^ 62 := by have := h.2; omega
  have z3 : -(2 ^ 62) < u := by have := h.1; omega
  simp only [binR, binD, R.toD, len_mkS, szOk_ok z, decide_eq_true z2, decide_eq_true z3, cs_mkS, Bool.and_self, if_true]
theorem bn_addL (hx : x.toD = .list xs) (hy : y.toD = .list ys) (h : xs.length + ys.length ≤ 16777216) : binR .Add x y = some (.f (xs ++ ys)) := by
  simp only [binR, binD, hx, hy, szOk_ok h, if_true]
theorem bn_addTu (h : xs.length + ys.length ≤ 16777216) : binR .Add (.d (.tuple xs)) (.d (.tuple ys)) = some (.d (.tuple (xs ++ ys))) := by
  simp only [binR, binD, R.toD, szOk_ok h, if_true]
theorem cm_eqI : cmpD .Eq (.int u) (.int v) = some (decide (u = v)) := by simp only [cmpD, okD_int, Bool.and_self, if_true, eqv_int]
theorem cm_neI : cmpD .NotEq (.int u) (.int v) = some (decide (u ≠ v)) := by simp only [cmpD, okD_int, Bool.and_self, if_true, eqv_int, decide_not]
theorem cm_ltI : cmpD .Lt (.int u) (.int v) = some (decide (u < v)) := by simp [cmpD, okD_int, alike_int, isNone, lt_int]
theorem cm_gtI : cmpD .Gt (.int u) (.int v) = some (decide (v < u)) := by simp [cmpD, okD_int, alike_int, isNone, lt_int]
theorem cm_leI : cmpD .LtE (.int u) (.int v) = some (decide (u ≤ v)) := by
  have e : (!decide (v < u)) = decide (u ≤ v) := by
    by_cases h : u ≤ v
    · simp [h, Int.not_lt.mpr h]
    · simp [h, Int.not_le.mp h]
  simp only [cmpD, okD_int, alike_int, isNone, lt_int, Bool.and_self, Bool.not_false, if_true, e]
theorem cm_geI : cmpD .GtE (.int u) (.int v) = some (decide (v ≤ u)) := by
  have e : (!decide (u < v)) = decide (v ≤ u) := by
    by_cases h : v ≤ u
    · simp [h, Int.not_lt.mpr h]
    · simp [h, Int.not_le.mp h]
  simp only [cmpD, okD_int, alike_int, isNone, lt_int, Bool.and_self, Bool.not_false, if_true, e]
theorem cm_eqT : cmpD .Eq (Tx l) (Tx l') = some (decide (l = l')) := by simp only [cmpD, okD_str, Bool.and_self, if_true, eqv_str]
theorem cm_neT : cmpD .NotEq (Tx l) (Tx l') = some (decide (l ≠ l')) := by simp only [cmpD, okD_str, Bool.and_self, if_true, eqv_str, decide_not]
theorem cm_eqB {p q : Bool} : cmpD .Eq (.bool p) (.bool q) = some (decide (p = q)) := by simp only [cmpD, okD_bool, Bool.and_self, if_true, eqv_bool]
theorem cm_neB {p q : Bool} : cmpD .NotEq (.bool p) (.bool q) = some (decide (p ≠ q)) := by simp only [cmpD, okD_bool, Bool.and_self, if_true, eqv_bool, decide_not]
theorem cm_isN : cmpD .Is d .none = some (isNone d) := rfl
theorem cm_isnN : cmpD .IsNot d .none = some (!isNone d) := rfl
theorem okAll_int (as : List Int) : (as.map PyData.int).all (okN 59) = true := by simp [okN]
theorem okAll_tx (as : List (List Nat)) : (as.map Tx).all (okN 59) = true := by simp [okN]
theorem any_int (as : List Int) (i : Int) : ((as.map PyData.int).any fun z => PyData.eqv z (.int i)) = decide (i ∈ as) := by
  rw [List.any_map]
  induction as with
  | nil => rfl
  | cons a r ih => 
    rw [List.any_cons, ih]
    simp only [Function.comp, eqv_int, List.mem_cons]
    by_cases h : a = i
    · simp [h]
    · simp [h, Ne.symm h]
theorem any_tx (as : List (List Nat)) (i : List Nat) : ((as.map Tx).any fun z => PyData.eqv z (Tx i)) = decide (i ∈ as) := by
  rw [List.any_map]
  induction as with
  | nil => rfl
  | cons a r ih =>
    rw [List.any_cons, ih]
    simp only [Function.comp, eqv_str, List.mem_cons]
    by_cases h : a = i
    · simp [h]
    · simp [h, Ne.symm h]
theorem cm_inI {as : List Int} : cmpD .In (.int u) (.list (as.map .int)) = some (decide (u ∈ as)) := by
  simp only [cmpD, okD_int, okD_lst, okAll_int, Bool.and_self, if_true, any_int]
theorem cm_inT {as : List (List Nat)} : cmpD .In (Tx l) (.list (as.map Tx)) = some (decide (l ∈ as)) := by
  simp only [cmpD, okD_str, okD_lst, okAll_tx, Bool.and_self, if_true, any_tx]
theorem cm_ninI {as : List Int} : cmpD .NotIn (.int u) (.list (as.map .int)) = some (decide (u ∉ as)) := by
  simp only [cmpD, okD_int, okD_lst, okAll_int, Bool.and_self, if_true, any_int, decide_not]
theorem cm_ninT {as : List (List Nat)} : cmpD .NotIn (Tx l) (.list (as.map Tx)) = some (decide (l ∉ as)) := by
  simp only [cmpD, okD_str, okD_lst, okAll_tx, Bool.and_self, if_true, any_tx, decide_not]
theorem ix_tx (h : 0 ≤ u) (h2 : u < l.length) (hz : l.length ≤ 16777216) : ixD (Tx l) (.int u) = some (Tx [l.getD u.toNat 0]) := by
  have e : u.toNat < l.length := by omega
  simp only [ixD, len_mkS, szOk_ok hz, if_true, cs_mkS, atI_get h, List.getElem?_eq_getElem e, Option.map_some, List.getD_eq_getElem?_getD, Option.getD_some]
theorem ix_lst {α : Type} {as : List α} {enc : α → D} {a : α} (h : 0 ≤ u) (h2 : as[u.toNat]? = some a) : ixD (.list (as.map enc)) (.int u) = some (enc a) := by
  simp only [ixD, atI_get h, List.getElem?_map, h2, Option.map_some]
theorem ix_tup {α : Type} {as : List α} {enc : α → D} {a : α} (h : 0 ≤ u) (h2 : as[u.toNat]? = some a) : ixD (.tuple (as.map enc)) (.int u) = some (enc a) := by
  simp only [ixD, atI_get h, List.getElem?_map, h2, Option.map_some]
theorem sIx_nn {n k : Nat} (dflt : Nat) (h : 0 ≤ u) : HT.sIx n dflt (some u) = min u.toNat n := by
  obtain ⟨k, rfl⟩ := Int.eq_ofNat_of_zero_le h
  exact HT.sIx_nat n dflt k
theorem cut_to {α : Type} {as : List α} (h : 0 ≤ u) : cutL as none (some u) = as.take u.toNat := by
  unfold cutL
  rw [sIx_nn (k := 0) _ h, HT.sIx_none, Nat.sub_zero, List.drop_zero]
  by_cases c : u.toNat ≤ as.length
  · rw [Nat.min_eq_left c]
  · rw [Nat.min_eq_right (by omega), List.take_of_length_le (Nat.le_refl _), List.take_of_length_le (by omega)]
theorem cut_from {α : Type} {as : List α} (h : 0 ≤ u) : cutL as (some u) none = as.drop u.toNat := by
  unfold cutL
  rw [sIx_nn (k := 0) _ h, HT.sIx_none]
  by_cases c : u.toNat ≤ as.length
  · rw [Nat.min_eq_left c, List.take_of_length_le (by rw [List.length_drop]; exact Nat.le_refl _)]
  · rw [Nat.min_eq_right (by omega), List.drop_of_length_le (Nat.le_refl _), List.drop_of_length_le (by omega), List.take_nil]
theorem cut_mid {α : Type} {as : List α} (h : 0 ≤ u) (h2 : 0 ≤ v) : cutL as (some u) (some v) = (as.take v.toNat).drop u.toNat := by
  unfold cutL
  rw [sIx_nn (k := 0) _ h, sIx_nn (k := 0) _ h2, List.drop_take]
  by_cases c : u.toNat ≤ as.length
  · rw [Nat.min_eq_left c]
    by_cases c2 : v.toNat ≤ as.length
    · rw [Nat.min_eq_left c2]
    · rw [Nat.min_eq_right (by omega), List.take_of_length_le (by rw [List.length_drop]; exact Nat.le_refl _), List.take_of_length_le (by rw [List.length_drop]; omega)]
  · rw [Nat.min_eq_right (show as.length ≤ u.toNat by omega), List.drop_of_length_le (Nat.le_refl _), List.drop_of_length_le (by omega), List.take_nil, List.take_nil]
theorem sl_to (hz : l.length ≤ 16777216) (h : 0 ≤ u) : slD (Tx l) none (some u) = some (.d (Tx (l.take u.toNat))) := by
  simp only [slD, len_mkS, szOk_ok hz, if_true, cs_mkS, cut_to h]
theorem sl_from (hz : l.length ≤ 16777216) (h : 0 ≤ u) : slD (Tx l) (some u) none = some (.d (Tx (l.drop u.toNat))) := by
  simp only [slD, len_mkS, szOk_ok hz, if_true, cs_mkS, cut_from h]
theorem sl_mid (hz : l.length ≤ 16777216) (h : 0 ≤ u) (h2 : 0 ≤ v) : slD (Tx l) (some u) (some v) = some (.d (Tx ((l.take v.toNat).drop u.toNat))) := by
  simp only [slD, len_mkS, szOk_ok hz, if_true, cs_mkS, cut_mid h h2]
theorem sl_toL (h : 0 ≤ u) : slD (.list xs) none (some u) = some (.f (xs.take u.toNat)) := by simp only [slD, cut_to h]
theorem sl_fromL (h : 0 ≤ u) : slD (.list xs) (some u) none = some (.f (xs.drop u.toNat)) := by simp only [slD, cut_from h]
theorem sl_midL (h : 0 ≤ u) (h2 : 0 ≤ v) : slD (.list xs) (some u) (some v) = some (.f ((xs.take v.toNat).drop u.toNat)) := by simp only [slD, cut_mid h h2]
theorem sl_toU (h : 0 ≤ u) : slD (.tuple xs) none (some u) = some (.d (.tuple (xs.take u.toNat))) := by simp only [slD, cut_to h]
theorem sl_fromU (h : 0 ≤ u) : slD (.tuple xs) (some u) none = some (.d (.tuple (xs.drop u.toNat))) := by simp only [slD, cut_from h]
theorem sl_midU (h : 0 ≤ u) (h2 : 0 ≤ v) : slD (.tuple xs) (some u) (some v) = some (.d (.tuple ((xs.take v.toNat).drop u.toNat))) := by simp only [slD, cut_mid h h2]
theorem rv_tx (hz : l.length ≤ 16777216) : revD (Tx l) = some (.d (Tx l.reverse)) := by simp only [revD, len_mkS, szOk_ok hz, if_true, cs_mkS]
theorem ln_tx (hz : l.length ≤ 16777216) : b1D .len (Tx l) = some (.d (.int l.length)) := by simp only [b1D, len_mkS, szOk_ok hz, if_true]
theorem ln_lst {α : Type} {as : List α} {enc : α → D} : b1D .len (.list (as.map enc)) = some (.d (.int as.length)) := by simp only [b1D, List.length_map]
theorem tr_tx (hz : l.length ≤ 16777216) : tru (Tx l) = some (decide (l ≠ [])) := by
  simp only [tru, len_mkS, szOk_ok hz, if_true]
  cases l <;> rfl
theorem tr_int : tru (.int u) = some (decide (u ≠ 0)) := by
  show some (u != 0) = _
  exact congrArg some (by by_cases h : u = 0 <;> simp [h])
end
end WM
namespace WM
open PySem PySem.Spec PyProof.Rows L2
section
variable {ρ ρ' : List Sl} {i : Nat} {s : Sl} {d : D} {xs : List D}
theorem asg_va (h : ρ[i]? = some s) (n : nlk s = true) (e : ρ.set i (.va d) = ρ') : asgR (.nm i) (.d d) ρ = some ρ' := by
  rw [← e]; exact setS_nlk h n
theorem asg_ow (h : ρ[i]? = some s) (n : nlk s = true) (e : ρ.set i (.ow xs) = ρ') : asgR (.nm i) (.f xs) ρ = some ρ' := by
  rw [← e]; exact setS_nlk h n
theorem asgD_va (h : ρ[i]? = some s) (n : nlk s = true) (e : ρ.set i (.va d) = ρ') : asgD (.nm i) d ρ = some ρ' := by
  rw [← e]; exact setS_nlk h n
end
end WM
namespace WM
open PySem PySem.Spec PyProof.Rows L2
/-! ### the same as rewriting -/
def slV : Option Sl → Option R
  | some (.va x) => some (.d x)
  | some (.ow xs) => some (.b xs)
  | some (.lk xs) => some (.b xs)
  | some (.rd xs) => some (.b xs)
  | some (.od kvs) => some (.bd kvs)
  | some (.rdd kvs) => some (.bd kvs)
  | _ => none
section
variable {G : Gt} {Φ : Phi} {W : Nat} {ρ ρ' : List Sl} {m : Bool} {x y r r' : R} {d : D} {xs : List D} {a b c e : E} {es : Es} {op op' : CmpOp} {p q k : Bool} {i j f : Nat} {l l' : List Nat} {u v : Int}
theorem slV_va : slV (some (.va d)) = some (.d d) := rfl
theorem slV_ow : slV (some (.ow xs)) = some (.b xs) := rfl
theorem slV_lk : slV (some (.lk xs)) = some (.b xs) := rfl
theorem slV_rd : slV (some (.rd xs)) = some (.b xs) := rfl
theorem E_var : ev G Φ (.var i) false ρ = slV ρ[i]? := by
  simp only [ev, fin]
  rcases ρ[i]? with _ | s
  · rfl
  · cases s <;> rfl
theorem E_cstI : ev G Φ (.cst (.int u)) false ρ = some (.d (.int u)) := rfl
theorem E_cstN : ev G Φ (.cst .none) false ρ = some (.d .none) := rfl
theorem E_cstB : ev G Φ (.cst (.bool p)) false ρ = some (.d (.bool p)) := rfl
theorem E_cstS {z : Str} : ev G Φ (.cst (.str z)) false ρ = some (.d (Tx (cs z))) := ev_cstS
theorem E_glb : ev G Φ (.glb i) false ρ = (G.gl[i]?).map fun p => .d p.2 := by simp only [ev, fin]
theorem E_tup : ev G Φ (.tup es) false ρ = (evs G Φ es ρ).bind fun rs => (shareAll rs).map fun xs => .d (.tuple xs) := by simp only [ev, fin]
theorem E_lst : ev G Φ (.lst es) false ρ = (evs G Φ es ρ).bind fun rs => (shareAll rs).map fun xs => .f xs := by simp only [ev, fin]
theorem E_bin {o : Operator} : ev G Φ (.bin o a b) false ρ = (ev G Φ a false ρ).bind fun x => (ev G Φ b false ρ).bind fun y => binR o x y := by simp only [ev, fin]
def negR : R → Option R
  | .d (.int i) => some (.d (.int (-i)))
  | _ => none
theorem negR_i : negR (.d (.int u)) = some (.d (.int (-u))) := rfl
theorem E_neg : ev G Φ (.neg a) false ρ = (ev G Φ a false ρ).bind negR := by
  simp only [ev, fin]
  congr 1
  funext x
  cases x with
  | d x => cases x <;> rfl
  | f _ => rfl
  | b _ => rfl
  | fd _ => rfl
  | bd _ => rfl
theorem E_inv : ev G Φ (.inv a) m ρ = (asB (ev G Φ a m ρ)).map fun b => .d (.bool (!b)) := by simp only [ev]
theorem E_cmp : ev G Φ (.cmp op a b) m ρ = (ev G Φ a false ρ).bind fun x => (ev G Φ b false ρ).bind fun y => (cmpD op x.toD y.toD).map fun k => .d (.bool k) := by simp only [ev]
def thenB (p : Bool) (o : Option R) : Option R := if p = true then o else some (.d (.bool false))
def elseB (p : Bool) (o : Option R) : Option R := if p = true then some (.d (.bool true)) else o
theorem thenB_b : thenB p (some (.d (.bool q))) = some (.d (.bool (p && q))) := by cases p <;> rfl
theorem elseB_b : elseB p (some (.d (.bool q))) = some (.d (.bool (p || q))) := by cases p <;> rfl
theorem thenB_t {o : Option R} : thenB true o = o := rfl
theorem thenB_f {o : Option R} : thenB false o = some (.d (.bool false)) := rfl
theorem elseB_t {o : Option R} : elseB true o = some (.d (.bool true)) := rfl
theorem elseB_f {o : Option R} : elseB false o = o := rfl
theorem E_chn : ev G Φ (.chn op op' a b c) m ρ = (ev G Φ a false ρ).bind fun x => (ev G Φ b false ρ).bind fun y => (cmpD op x.toD y.toD).bind fun k => thenB k ((ev G Φ c false ρ).bind fun z => (cmpD op' y.toD z.toD).map fun k => .d (.bool k)) := by
  simp only [ev]
  congr 1; funext x; congr 1; funext y; congr 1; funext k
  cases k <;> rfl
theorem E_and : ev G Φ (.and es) m ρ = andV G Φ es m ρ := by simp only [ev]
theorem E_or : ev G Φ (.or es) m ρ = orV G Φ es m ρ := by simp only [ev]
theorem A_one : andV G Φ (.cons a .nil) m ρ = ev G Φ a m ρ := by simp only [andV]
theorem A_cons {a2 : E} {r2 : Es} : andV G Φ (.cons a (.cons a2 r2)) m ρ = (asB (ev G Φ a m ρ)).bind fun b => thenB b (andV G Φ (.cons a2 r2) m ρ) := by
  rw [andV]
  congr 1; funext b; cases b <;> rfl
theorem O_one : orV G Φ (.cons a .nil) m ρ = ev G Φ a m ρ := by simp only [orV]
theorem O_cons {a2 : E} {r2 : Es} : orV G Φ (.cons a (.cons a2 r2)) m ρ = (asB (ev G Φ a m ρ)).bind fun b => elseB b (orV G Φ (.cons a2 r2) m ρ) := by
  rw [orV]
  congr 1; funext b; cases b <;> rfl
theorem asB_b : asB (some (.d (.bool p))) = some p := rfl
def iteR (p : Bool) (o o' : Option R) : Option R := if p = true then o else o'
theorem iteR_t {o o' : Option R} : iteR true o o' = o := rfl
theorem iteR_f {o o' : Option R} : iteR false o o' = o' := rfl
theorem iteR_d {d' : D} : iteR p (some (.d d)) (some (.d d')) = some (.d (if p = true then d else d')) := by cases p <;> rfl
theorem E_ife : ev G Φ (.ife c a b) false ρ = (asB (ev G Φ c true ρ)).bind fun k => iteR k (ev G Φ a false ρ) (ev G Φ b false ρ) := by
  simp only [ev]
  congr 1; funext k; cases k <;> rfl
theorem E_ix : ev G Φ (.ix a b) false ρ = (ev G Φ a false ρ).bind fun x => (ev G Φ b false ρ).bind fun y => (ixD x.toD y.toD).map .d := by simp only [ev, fin]
theorem E_sl {lo hi : Oe} : ev G Φ (.sl a lo hi) false ρ = (ev G Φ a false ρ).bind fun x => (evo G Φ lo ρ).bind fun l => (evo G Φ hi ρ).bind fun h => slD x.toD l h := by simp only [ev, fin]
theorem E_rev : ev G Φ (.rev a) false ρ = (ev G Φ a false ρ).bind fun x => revD x.toD := by simp only [ev, fin]
def notBR : R → Option R
  | .b _ => none
  | .bd _ => none
  | r => some r
theorem notBR_d : notBR (.d d) = some (.d d) := rfl
theorem notBR_f : notBR (.f xs) = some (.f xs) := rfl
theorem E_call : ev G Φ (.call f es) false ρ = (evs G Φ es ρ).bind fun rs => (Φ f (rs.map R.toD)).bind notBR := by
  simp only [ev, fin]
  congr 1
theorem E_b1 {g : B1} : ev G Φ (.b1 g a) false ρ = (ev G Φ a false ρ).bind fun x => b1D g x.toD := by simp only [ev, fin]
theorem E_b2 {g : B2} : ev G Φ (.b2 g a b) false ρ = (ev G Φ a false ρ).bind fun x => (ev G Φ b false ρ).bind fun y => b2D g x.toD y.toD := by simp only [ev, fin]
theorem E_isi {t : Ty} : ev G Φ (.isi a t) false ρ = (ev G Φ a false ρ).map fun x => .d (.bool (isiD t x.toD)) := by simp only [ev, fin]
theorem E_m1 {g : M1} : ev G Φ (.m1 g a b) false ρ = (ev G Φ a false ρ).bind fun x => (ev G Φ b false ρ).bind fun y => m1D g x.toD y.toD := by simp only [ev, fin]
def truR (r : R) : Option R := (tru r.toD).map fun b => .d (.bool b)
theorem truR_b : truR (.d (.bool p)) = some (.d (.bool p)) := rfl
theorem truR_i : truR (.d (.int u)) = some (.d (.bool (decide (u ≠ 0)))) := by simp only [truR, R.toD, tr_int, Option.map_some]
theorem truR_n : truR (.d .none) = some (.d (.bool false)) := rfl
theorem truR_t (hz : l.length ≤ 16777216) : truR (.d (Tx l)) = some (.d (.bool (decide (l ≠ [])))) := by simp only [truR, R.toD, tr_tx hz, Option.map_some]
theorem truR_u : truR (.d (.tuple xs)) = some (.d (.bool (!xs.isEmpty))) := rfl
theorem truR_l : truR (.d (.list xs)) = some (.d (.bool (!xs.isEmpty))) := rfl
theorem truR_f : truR (.f xs) = some (.d (.bool (!xs.isEmpty))) := rfl
theorem truR_o : truR (.b xs) = some (.d (.bool (!xs.isEmpty))) := rfl
theorem fin_t {o : Option R} : fin true o = o.bind truR := rfl
theorem T_var : ev G Φ (.var i) true ρ = (ev G Φ (.var i) false ρ).bind truR := by simp only [ev, fin]; rfl
theorem T_cst {z : Const} : ev G Φ (.cst z) true ρ = (ev G Φ (.cst z) false ρ).bind truR := by simp only [ev, fin]; rfl
theorem T_glb : ev G Φ (.glb i) true ρ = (ev G Φ (.glb i) false ρ).bind truR := by simp only [ev, fin]; rfl
theorem T_tup : ev G Φ (.tup es) true ρ = (ev G Φ (.tup es) false ρ).bind truR := by simp only [ev, fin]; rfl
theorem T_lst : ev G Φ (.lst es) true ρ = (ev G Φ (.lst es) false ρ).bind truR := by simp only [ev, fin]; rfl
theorem T_bin {o : Operator} : ev G Φ (.bin o a b) true ρ = (ev G Φ (.bin o a b) false ρ).bind truR := by simp only [ev, fin]; rfl
theorem T_ix : ev G Φ (.ix a b) true ρ = (ev G Φ (.ix a b) false ρ).bind truR := by simp only [ev, fin]; rfl
theorem T_sl {lo hi : Oe} : ev G Φ (.sl a lo hi) true ρ = (ev G Φ (.sl a lo hi) false ρ).bind truR := by simp only [ev, fin]; rfl
theorem T_call : ev G Φ (.call f es) true ρ = (ev G Φ (.call f es) false ρ).bind truR := by simp only [ev, fin]; rfl
theorem T_b1 {g : B1} : ev G Φ (.b1 g a) true ρ = (ev G Φ (.b1 g a) false ρ).bind truR := by simp only [ev, fin]; rfl
theorem T_b2 {g : B2} : ev G Φ (.b2 g a b) true ρ = (ev G Φ (.b2 g a b) false ρ).bind truR := by simp only [ev, fin]; rfl
theorem T_isi {t : Ty} : ev G Φ (.isi a t) true ρ = (ev G Φ (.isi a t) false ρ).bind truR := by simp only [ev, fin]; rfl
theorem T_m1 {g : M1} : ev G Φ (.m1 g a b) true ρ = (ev G Φ (.m1 g a b) false ρ).bind truR := by simp only [ev, fin]; rfl
theorem V_nil : evs G Φ .nil ρ = some [] := by simp only [evs]
theorem V_cons : evs G Φ (.cons a es) ρ = (ev G Φ a false ρ).bind fun r => (evs G Φ es ρ).map (r :: ·) := by simp only [evs]
def oiR : R → Option (Option Int)
  | .d (.int i) => some (some i)
  | _ => none
theorem oiR_i : oiR (.d (.int u)) = some (some u) := rfl
theorem Q_no : evo G Φ .no ρ = some none := by simp only [evo]
theorem Q_so : evo G Φ (.so e) ρ = (ev G Φ e false ρ).bind oiR := by
  simp only [evo]
  congr 1
  funext x
  cases x with
  | d x => cases x <;> rfl
  | f _ => rfl
  | b _ => rfl
  | fd _ => rfl
  | bd _ => rfl
theorem toD_d : (R.d d).toD = d := rfl
theorem toD_f : (R.f xs).toD = .list xs := rfl
theorem toD_b : (R.b xs).toD = .list xs := rfl
theorem share_d : (R.d d).share = some d := rfl
theorem share_f : (R.f xs).share = some (.list xs) := rfl
theorem SA_nil : shareAll [] = some [] := rfl
theorem SA_cons {rs : List R} : shareAll (r :: rs) = r.share.bind fun x => (shareAll rs).map (x :: ·) := by simp only [shareAll]
theorem Isi_i : isiD .int (.int u) = true := rfl
theorem ab_int : b1D .abs (.int u) = some (.d (.int (if u < 0 then -u else u))) := rfl
theorem in_int : b1D .int (.int u) = some (.d (.int u)) := rfl
theorem tu_lst : b1D .tuple (.list xs) = some (.d (.tuple xs)) := rfl
theorem tu_tup : b1D .tuple (.tuple xs) = some (.d (.tuple xs)) := rfl
theorem li_lst : b1D .list (.list xs) = some (.f xs) := rfl
theorem li_tup : b1D .list (.tuple xs) = some (.f xs) := rfl
theorem ln_l : b1D .len (.list xs) = some (.d (.int xs.length)) := rfl
theorem ln_u : b1D .len (.tuple xs) = some (.d (.int xs.length)) := rfl
theorem mx2 : b2D .max2 (.int u) (.int v) = some (.d (.int (if v > u then v else u))) := rfl
theorem mn2 : b2D .min2 (.int u) (.int v) = some (.d (.int (if v < u then v else u))) := rfl
theorem gc2 : b2D .gcd (.int u) (.int v) = some (.d (.int (Nat.gcd u.natAbs v.natAbs))) := rfl
theorem cm_isT : cmpD .Is d .none = some (isNone d) := rfl
theorem isN_n : isNone .none = true := rfl
theorem isN_i : isNone (.int u) = false := rfl
theorem isN_s {z : Str} : isNone (.str z) = false := rfl
theorem isN_b : isNone (.bool p) = false := rfl
theorem isN_u : isNone (.tuple xs) = false := rfl
theorem isN_l : isNone (.list xs) = false := rfl
end
end WM
namespace WM
open PySem PySem.Spec PyProof.Rows L2
theorem rangeN (a n : Nat) : rangeL (a : Int) n = (List.range' a n).map fun (d : Nat) => PyData.int d := by
  unfold rangeL
  rw [List.range'_eq_map_range, List.map_map]
  refine List.map_congr_left fun i _ => ?_
  simp
theorem range0 (n : Nat) : rangeL 0 n = (List.range n).map fun (d : Nat) => PyData.int d := by
  have := rangeN 0 n
  rw [List.range_eq_range']
  exact this
theorem nmod (a b : Nat) : (a : Int) % (b : Int) = ((a % b : Nat) : Int) := (Int.natCast_emod a b).symm
theorem ndiv (a b : Nat) : (a : Int) / (b : Int) = ((a / b : Nat) : Int) := (Int.natCast_ediv a b).symm
theorem ncast (a b : Nat) : ((a : Int) = (b : Int)) ↔ a = b := Int.ofNat_inj
theorem ncast0 (a : Nat) : ((a : Int) = 0) ↔ a = 0 := by omega
end WM
namespace WM
open PySem PySem.Spec PyProof.Rows L2
theorem bn_mulTn {k : Nat} {l : List Nat} (h : k < 4096) (h2 : l.length ≤ 4096) : binR .Mult (.d (Tx l)) (.d (.int (k : Nat))) = some (.d (Tx (List.replicate k l).flatten)) := by
  have := bn_mulT2 (u := (k : Int)) (l := l) (by omega) h2
  rw [Int.toNat_natCast] at this
  exact this
end WM
namespace WM
open PySem PySem.Spec PyProof.Rows L2
theorem call_ex {G : Gt} {T : List Fn} {W n f : Nat} {ds : List D} {fn : Fn} {Q : R → Prop} (h : T[f]? = some fn) (hl : ds.length = fn.np)
    (hr : Run G (call G T W n) W fn.body (entry fn.np fn.nl ds) fun o => ∃ r, outR (some o) = some r ∧ Q r) : ∃ r, call G T W (n + 1) f ds = some r ∧ Q r := by
  obtain ⟨o, h1, r, h2, h3⟩ := hr
  exact ⟨r, by rw [call_eq h hl, h1]; exact h2, h3⟩
theorem bn_powc {u v : Int} (h : 0 ≤ v ∧ v ≤ 1000) (h2 : -1000000 < u ∧ u < 1000000) : binR .Pow (.d (.int u)) (.d (.int v)) = some (.d (.int (u ^ v.toNat))) := by
  have z : (decide (0 ≤ v) && decide (v ≤ 1000000) && decide (u.natAbs < 2 ^ 64)) = true := by
    simp only [Bool.and_eq_true, decide_eq_true_eq]; omega
  simp only [binR, binD, R.toD]
  rw [if_pos z]
section
variable {G : Gt} {Φ : Phi} {W : Nat} {ρ : List Sl} {xs : List D} {P : Out → Prop} {ss sa : Ss} {t : Tg}
/-- a loop that goes through all -/
theorem run_each {α : Type} {it : It} {as : List α} (enc : α → D) (I : List Sl → Prop) (h1 : evIt G Φ it ρ = some (as.map enc)) (h0 : I (lockS it.locks ρ))
    (hs : ∀ a ∈ as, ∀ ρ1, I ρ1 → ∃ ρ2, asgD t (enc a) ρ1 = some ρ2 ∧ Run G Φ W sa ρ2 fun o => ∃ ρ3, o = .next ρ3 ∧ I ρ3)
    (hn : ∀ ρ', I ρ' → Run G Φ W ss (unlockS (unl it ρ) ρ') P) : Run G Φ W (.cons (.loop t it sa) ss) ρ P := by
  refine run_find enc (fun _ => false) (fun _ => .d .none) I h1 h0 (fun a ha ρ1 i1 => ?_) (fun a ha => ?_) fun _ ρ' i => hn ρ' i
  · obtain ⟨ρ2, e, o, k1, k2⟩ := hs a ha ρ1 i1
    exact ⟨ρ2, e, o, k1, by show ite _ _ _; rw [if_neg Bool.false_ne_true]; exact k2⟩
  · have := List.find?_some ha
    cases this
end
theorem itN1 {G : Gt} {Φ : Phi} {ρ : List Sl} {e : E} {v : Int} {k : Nat} (h : ev G Φ e false ρ = some (.d (.int v))) (hv : v.toNat = k) (hb : -4611686018427387904 ≤ v ∧ v < 4611686018427387904) : evIt G Φ (.rg1 e) ρ = some ((List.range k).map fun (d : Nat) => PyData.int d) := by
  rw [it_rg1 h hb, hv, range0]
theorem itN2 {G : Gt} {Φ : Phi} {ρ : List Sl} {a b : E} {u k : Nat} {v : Int} (h : ev G Φ a false ρ = some (.d (.int u))) (h2 : ev G Φ b false ρ = some (.d (.int v))) (hv : (v - u).toNat = k) (hb : u < 4611686018427387904) (hb2 : -4611686018427387904 ≤ v ∧ v < 4611686018427387904) : evIt G Φ (.rg2 a b) ρ = some ((List.range' u k).map fun (d : Nat) => PyData.int d) := by
  rw [it_rg2 h h2 (by omega) hb2, hv, rangeN]
section
variable {G : Gt} {Φ : Phi} {W : Nat} {ρ : List Sl} {d : D} {xs : List D} {P : Out → Prop} {ss : Ss} {i : Nat} {e : E} {s : Sl}
theorem run_va (h1 : ev G Φ e false ρ = some (.d d)) (h0 : ρ[i]? = some s) (n : nlk s = true) (h : Run G Φ W ss (ρ.set i (.va d)) P) : Run G Φ W (.cons (.asg (.nm i) e) ss) ρ P :=
  run_asg h1 (setS_nlk h0 n) h
theorem run_ow (h1 : ev G Φ e false ρ = some (.f xs)) (h0 : ρ[i]? = some s) (n : nlk s = true) (h : Run G Φ W ss (ρ.set i (.ow xs)) P) : Run G Φ W (.cons (.asg (.nm i) e) ss) ρ P :=
  run_asg h1 (setS_nlk h0 n) h
theorem run_ap {r : R} (h0 : ρ[i]? = some (.ow xs)) (h1 : ev G Φ e false ρ = some r) (h2 : r.share = some d) (hz : xs.length + 1 ≤ 16777216) (h : Run G Φ W ss (ρ.set i (.ow (xs ++ [d]))) P) : Run G Φ W (.cons (.app i e) ss) ρ P := run_app h0 h1 h2 hz rfl h
end
section
variable {G : Gt} {Φ : Phi} {W : Nat} {ρ : List Sl} {xs : List D} {P : Out → Prop} {ss : Ss} {i : Nat} {a : E} {s : Sl} {u m : Int}
/-- a rest, of which only its bounds are kept -/
theorem run_md (h1 : ev G Φ a false ρ = some (.d (.int u))) (hm : 0 < m) (h0 : ρ[i]? = some s) (n : nlk s = true) (h : ∀ d : Int, 0 ≤ d → d < m → Run G Φ W ss (ρ.set i (.va (.int d))) P) : Run G Φ W (.cons (.asg (.nm i) (.bin .Mod a (.cst (.int m)))) ss) ρ P :=
  run_va (d := .int (u % m)) (by rw [E_bin, h1, E_cstI]; exact bn_mod hm) h0 n (h _ (Int.emod_nonneg _ (by omega)) (Int.emod_lt_of_pos _ hm))
theorem run_apmd (h0 : ρ[i]? = some (.ow xs)) (h1 : ev G Φ a false ρ = some (.d (.int u))) (hm : 0 < m) (hz : xs.length + 1 ≤ 16777216) (h : ∀ d : Int, 0 ≤ d → d < m → Run G Φ W ss (ρ.set i (.ow (xs ++ [.int d]))) P) : Run G Φ W (.cons (.app i (.bin .Mod a (.cst (.int m)))) ss) ρ P :=
  run_ap (r := .d (.int (u % m))) h0 (by rw [E_bin, h1, E_cstI]; exact bn_mod hm) rfl hz (h _ (Int.emod_nonneg _ (by omega)) (Int.emod_lt_of_pos _ hm))
end
theorem pw18 : binR .Pow (.d (.int 10)) (.d (.int 18)) = some (.d (.int 1000000000000000000)) := by
  rw [bn_powc (by decide) (by decide)]
  simp
theorem pw20 : binR .Pow (.d (.int 10)) (.d (.int 20)) = some (.d (.int 100000000000000000000)) := by
  rw [bn_powc (by decide) (by decide)]
  simp
section
variable {u v : Int} {l : List Nat} {p : Bool}
theorem iteR_i : iteR p (some (.d (.int u))) (some (.d (.int v))) = some (.d (.int (if p = true then u else v))) := by cases p <;> rfl
theorem iteR_T {l' : List Nat} : iteR p (some (.d (Tx l))) (some (.d (Tx l'))) = some (.d (Tx (if p = true then l else l'))) := by cases p <;> rfl
theorem ix_int {ds : List Int} (h : 0 ≤ u) (h2 : u < ds.length) : ixD (.list (ds.map .int)) (.int u) = some (.int (ds.getD u.toNat 0)) := by
  refine ix_lst h ?_
  rw [List.getElem?_eq_getElem (by omega), List.getD_eq_getElem?_getD, List.getElem?_eq_getElem (by omega), Option.getD_some]
theorem ix_intU {ds : List Int} (h : 0 ≤ u) (h2 : u < ds.length) : ixD (.tuple (ds.map .int)) (.int u) = some (.int (ds.getD u.toNat 0)) := by
  refine ix_tup h ?_
  rw [List.getElem?_eq_getElem (by omega), List.getD_eq_getElem?_getD, List.getElem?_eq_getElem (by omega), Option.getD_some]
theorem ix_md (h : 0 < l.length) (hz : l.length ≤ 16777216) : ixD (Tx l) (.int (u % (l.length : Nat))) = some (Tx [l.getD (u % (l.length : Nat)).toNat 0]) :=
  ix_tx (Int.emod_nonneg _ (by omega)) (Int.emod_lt_of_pos _ (by omega)) hz
theorem mx_of {is : List Int} {m : Int} (h : m ∈ is) (h2 : ∀ x ∈ is, x ≤ m) : b1D .max (.list (is.map .int)) = some (.d (.int m)) := by
  cases is with
  | nil => cases h
  | cons a r =>
    have ok : ordAll ((a :: r).map PyData.int) = true := by
      unfold ordAll
      simp only [List.all_eq_true, Bool.and_eq_true]
      intro x hx
      obtain ⟨i, _, rfl⟩ := List.mem_map.mp hx
      refine ⟨⟨rfl, rfl⟩, fun y hy => ?_⟩
      obtain ⟨j, _, rfl⟩ := List.mem_map.mp hy
      rfl
    rw [List.map_cons] at ok ⊢
    simp only [b1D, ok, if_true, PySem.W.maxD_ints]
    congr 3
    have fm : ∀ (r : List Int) (a : Int), (∀ x ∈ a :: r, x ≤ m) → m ∈ a :: r → r.foldl max a = m := by
      intro r
      induction r with
      | nil => intro a _ h; exact (List.mem_singleton.mp h).symm
      | cons b r ih =>
        intro a h1 h2
        rw [List.foldl_cons]
        refine ih _ (fun x hx => ?_) ?_
        · rcases List.mem_cons.mp hx with e | e
          · have := h1 a List.mem_cons_self
            have := h1 b (List.mem_cons_of_mem _ List.mem_cons_self)
            omega
          · exact h1 x (List.mem_cons_of_mem _ (List.mem_cons_of_mem _ e))
        · have ha := h1 a List.mem_cons_self
          have hb := h1 b (List.mem_cons_of_mem _ List.mem_cons_self)
          rcases List.mem_cons.mp h2 with e | e
          · rw [show max a b = m by omega]; exact List.mem_cons_self
          · rcases List.mem_cons.mp e with e | e
            · rw [show max a b = m by omega]; exact List.mem_cons_self
            · exact List.mem_cons_of_mem _ e
    exact fm r a h2 h
theorem idx_tx {as : List (List Nat)} (h : l ∈ as) : m1D .index (.list (as.map Tx)) (Tx l) = some (.d (.int (as.idxOf l : Nat))) := by
  have e : findD (Tx l) (as.map Tx) = some (as.idxOf l) := by
    unfold findD PySem.SeqAt.dataPlace
    rw [List.findIdx?_map]
    have : ((fun y => PyData.eqv y (Tx l)) ∘ Tx) = fun a => a == l := by
      funext a
      show PyData.eqv (Tx a) (Tx l) = _
      rw [eqv_str]
      exact Bool.eq_iff_iff.mpr (by simp)
    rw [this, List.findIdx?_eq_some_iff_findIdx_eq]
    exact ⟨List.idxOf_lt_length_iff.mpr h, rfl⟩
  simp only [m1D, okD_lst, okAll_tx, okD_str, Bool.and_self, if_true, e, Option.map_some]
/-- the first place of a value in a row made of places -/
theorem find_idx {α : Type} [BEq α] [LawfulBEq α] [DecidableEq α] (f : Nat → α) (v : α) (n : Nat) : (List.range n).find? (fun k => decide (f k = v)) = if v ∈ (List.range n).map f then some (((List.range n).map f).idxOf v) else none := by
  by_cases h : v ∈ (List.range n).map f
  · rw [if_pos h]
    have hl := List.idxOf_lt_length_iff.mpr h
    have hn : ((List.range n).map f).idxOf v < n := by simpa using hl
    have he := List.getElem_idxOf hl
    rw [List.find?_range_eq_some]
    refine ⟨?_, List.mem_range.mpr hn, fun j hj => ?_⟩
    · rw [List.getElem_map, List.getElem_range] at he
      exact decide_eq_true he
    · have := List.not_of_lt_findIdx (show j < ((List.range n).map f).findIdx (· == v) from hj)
      rw [List.getElem_map, List.getElem_range] at this
      simpa using this
  · rw [if_neg h, List.find?_eq_none]
    intro k hk
    simp only [decide_eq_true_eq]
    exact fun e => h (List.mem_map.mpr ⟨k, hk, e⟩)
end
theorem asgD_tp2 {ρ : List Sl} {i j : Nat} {s s' : Sl} {a b : D} (h1 : ρ[i]? = some s) (n1 : nlk s = true) (h2 : (ρ.set i (.va a))[j]? = some s') (n2 : nlk s' = true) : asgD (.tp [i, j]) (.tuple [a, b]) ρ = some ((ρ.set i (.va a)).set j (.va b)) := by
  simp only [asgD, setsS, setS_nlk h1 n1, setS_nlk h2 n2, Option.bind_some]
theorem len_rep (k : Nat) (l : List Nat) : (List.replicate k l).flatten.length = k * l.length := by simp
end WM

/-! ## part Q: more of the evaluator: all, any, joins, sets, tuples, while -/
namespace WM
open PySem PySem.Spec PyProof.Rows L2
theorem eqvAll_gen {α : Type} [DecidableEq α] (f : α → D) (hf : ∀ a b, PyData.eqv (f a) (f b) = decide (a = b)) : ∀ xs ys : List α, PyData.eqvAll (xs.map f) (ys.map f) = decide (xs = ys)
  | [], [] => by simp only [List.map_nil, PyData.eqvAll, decide_true]
  | [], _ :: _ => by simp [PyData.eqvAll]
  | _ :: _, [] => by simp [PyData.eqvAll]
  | x :: xs, y :: ys => by
    rw [List.map_cons, List.map_cons, PyData.eqvAll, hf x y, eqvAll_gen f hf xs ys, ← Bool.decide_and]
    exact decide_eq_decide.mpr (by rw [List.cons.injEq])
theorem eqvU {α : Type} [DecidableEq α] (f : α → D) (hf : ∀ a b, PyData.eqv (f a) (f b) = decide (a = b)) (xs ys : List α) : PyData.eqv (.tuple (xs.map f)) (.tuple (ys.map f)) = decide (xs = ys) := by
  rw [PyData.eqv]; exact eqvAll_gen f hf xs ys
theorem eqvL {α : Type} [DecidableEq α] (f : α → D) (hf : ∀ a b, PyData.eqv (f a) (f b) = decide (a = b)) (xs ys : List α) : PyData.eqv (.list (xs.map f)) (.list (ys.map f)) = decide (xs = ys) := by
  rw [PyData.eqv]; exact eqvAll_gen f hf xs ys
section
variable {as bs : List (List Nat)}
theorem cm_eqUT : cmpD .Eq (.tuple (as.map Tx)) (.tuple (bs.map Tx)) = some (decide (as = bs)) := by
  simp only [cmpD, okD_tup, okAll_tx, Bool.and_self, if_true, eqvU Tx eqv_str]
theorem cm_neUT : cmpD .NotEq (.tuple (as.map Tx)) (.tuple (bs.map Tx)) = some (decide (as ≠ bs)) := by
  simp only [cmpD, okD_tup, okAll_tx, Bool.and_self, if_true, eqvU Tx eqv_str, decide_not]
theorem cm_eqLT : cmpD .Eq (.list (as.map Tx)) (.list (bs.map Tx)) = some (decide (as = bs)) := by
  simp only [cmpD, okD_lst, okAll_tx, Bool.and_self, if_true, eqvL Tx eqv_str]
theorem cm_inUT {l : List Nat} : cmpD .In (Tx l) (.tuple (as.map Tx)) = some (decide (l ∈ as)) := by
  simp only [cmpD, okD_str, okD_tup, okAll_tx, Bool.and_self, if_true, any_tx]
end
theorem boolsOf_map {α : Type} (g : α → Bool) : ∀ as : List α, boolsOf (as.map fun a => PyData.bool (g a)) = some (as.map g)
  | [] => rfl
  | a :: r => by rw [List.map_cons, boolsOf, boolsOf_map g r]; rfl
theorem all_id_map {α : Type} (g : α → Bool) (as : List α) : (as.map g).all id = as.all g := by rw [List.all_map]; rfl
theorem any_id_map {α : Type} (g : α → Bool) (as : List α) : (as.map g).any id = as.any g := by rw [List.any_map]; rfl
theorem al_m {α : Type} {g : α → Bool} {as : List α} : b1D .all (.list (as.map fun a => .bool (g a))) = some (.d (.bool (as.all g))) := by
  simp only [b1D, boolsOf_map, Option.map_some, all_id_map]
theorem an_m {α : Type} {g : α → Bool} {as : List α} : b1D .any (.list (as.map fun a => .bool (g a))) = some (.d (.bool (as.any g))) := by
  simp only [b1D, boolsOf_map, Option.map_some, any_id_map]
theorem strsOf_map {α : Type} (g : α → List Nat) : ∀ as : List α, strsOf (as.map fun a => Tx (g a)) = some (as.map g)
  | [] => rfl
  | a :: r => by rw [List.map_cons, strsOf, strsOf_map g r, cs_mkS]; rfl
theorem joinL_nil : ∀ ls : List (List Nat), joinL [] ls = ls.flatten
  | [] => rfl
  | [x] => by simp [joinL]
  | x :: y :: r => by
    rw [joinL, joinL_nil (y :: r)]
    · simp
    · intro h; cases h
  termination_by ls => ls.length
theorem jn_m {α : Type} {g : α → List Nat} {as : List α} {z : List Nat} (hz : z = []) (h : ((as.map g).map List.length).sum ≤ 16777216) : m1D .join (Tx z) (.list (as.map fun a => Tx (g a))) = some (.d (Tx (as.map g).flatten)) := by
  subst hz
  have e : szOk (((as.map g).map List.length).sum + (mkS ([] : List Nat)).length * (as.map g).length) = true := by
    rw [len_mkS]
    exact szOk_ok (by simpa using h)
  simp only [m1D, strsOf_map, Option.bind_some, e, if_true, cs_mkS, joinL_nil]
/-- sorted(set(..)) of texts -/
def srt (ls : List (List Nat)) : List (List Nat) := (ded ls).mergeSort leT
theorem mem_srt {ls : List (List Nat)} {l : List Nat} : l ∈ srt ls ↔ l ∈ ls := by
  unfold srt; rw [List.mem_mergeSort, mem_ded]
theorem nd_srt (ls : List (List Nat)) : (srt ls).Nodup := (List.mergeSort_perm _ _).nodup_iff.mpr (nd_ded ls)
theorem ded_len {α : Type} [DecidableEq α] : ∀ l : List α, (ded l).length ≤ l.length
  | [] => Nat.le_refl _
  | a :: r => by
    have := ded_len r
    unfold ded
    split
    · rw [List.length_cons]; omega
    · rw [List.length_cons, List.length_cons]; omega
theorem srt_len (ls : List (List Nat)) : (srt ls).length ≤ ls.length := by
  unfold srt; rw [List.length_mergeSort]; exact ded_len ls
theorem srt_ne {ls : List (List Nat)} (h : ls ≠ []) : srt ls ≠ [] := by
  obtain ⟨a, ha⟩ := List.exists_mem_of_ne_nil _ h
  exact List.ne_nil_of_mem (mem_srt.mpr ha)
theorem ss_tx {ls : List (List Nat)} (h : ls.length ≤ 4000) : b1D .sset (.list (ls.map Tx)) = some (.f ((srt ls).map Tx)) := by
  have k : keyOk (ls.map Tx) = true := by
    unfold keyOk
    rw [List.length_map, decide_eq_true h, Bool.and_true, Bool.or_eq_true]
    refine .inr ?_
    rw [List.all_map]
    exact List.all_eq_true.mpr fun _ _ => rfl
  have e : sortD (dedD (ls.map Tx)) = (srt ls).map Tx := by
    rw [dedD_map Tx eqv_str]
    exact sortD_txt (ded ls)
  simp only [b1D, itemsD, Option.bind_some, k, if_true, e]
section
variable {G : Gt} {Φ : Phi} {W : Nat} {ρ ρ0 : List Sl} {m : Bool} {e : E} {ifs : Es} {t : Tg} {it : It} {own : List (Str × Nat)} {c : E}
theorem fin_b {b : Bool} : fin m (some (.d (.bool b))) = some (.d (.bool b)) := by cases m <;> rfl
theorem gxRun_all {α : Type} (enc : α → D) (g : α → Bool) : ∀ {as : List α}, (∀ a ∈ as, ∃ ρ1, asgD t (enc a) ρ0 = some ρ1 ∧ ev G Φ e false ρ1 = some (.d (.bool (g a)))) →
    gxRun false t ρ0 (fun ρ => tvs G Φ .nil ρ) (fun ρ => ev G Φ e false ρ) (as.map enc) = some (as.all g)
  | [], _ => rfl
  | a :: r, h => by
    obtain ⟨ρ1, h1, h2⟩ := h a List.mem_cons_self
    have ih := gxRun_all enc g (as := r) fun b hb => h b (List.mem_cons_of_mem _ hb)
    simp only [List.map_cons, gxRun, h1, Option.bind_some, tvs, h2, asB, List.all_cons]
    cases hg : g a with
    | true => rw [Bool.true_and]; exact ih
    | false => rfl
theorem gxRun_any {α : Type} (enc : α → D) (g : α → Bool) : ∀ {as : List α}, (∀ a ∈ as, ∃ ρ1, asgD t (enc a) ρ0 = some ρ1 ∧ ev G Φ e false ρ1 = some (.d (.bool (g a)))) →
    gxRun true t ρ0 (fun ρ => tvs G Φ .nil ρ) (fun ρ => ev G Φ e false ρ) (as.map enc) = some (as.any g)
  | [], _ => rfl
  | a :: r, h => by
    obtain ⟨ρ1, h1, h2⟩ := h a List.mem_cons_self
    have ih := gxRun_any enc g (as := r) fun b hb => h b (List.mem_cons_of_mem _ hb)
    simp only [List.map_cons, gxRun, h1, Option.bind_some, tvs, h2, asB, List.any_cons]
    cases hg : g a with
    | true => rfl
    | false => rw [Bool.false_or]; exact ih
theorem ev_gxAll {α : Type} {as : List α} (enc : α → D) (g : α → Bool) (h1 : evIt G Φ it ρ = some (as.map enc)) (h2 : wipeS ρ (own.map (·.2)) = some ρ0) (h : ∀ a ∈ as, ∃ ρ1, asgD t (enc a) ρ0 = some ρ1 ∧ ev G Φ e false ρ1 = some (.d (.bool (g a)))) :
    ev G Φ (.gx .all own t it .nil e) m ρ = some (.d (.bool (as.all g))) := by
  rw [ev, h1, Option.bind_some, h2, Option.bind_some]
  simp only [gxRun_all enc g h, Option.map_some, fin_b]
theorem ev_gxAny {α : Type} {as : List α} (enc : α → D) (g : α → Bool) (h1 : evIt G Φ it ρ = some (as.map enc)) (h2 : wipeS ρ (own.map (·.2)) = some ρ0) (h : ∀ a ∈ as, ∃ ρ1, asgD t (enc a) ρ0 = some ρ1 ∧ ev G Φ e false ρ1 = some (.d (.bool (g a)))) :
    ev G Φ (.gx .any own t it .nil e) m ρ = some (.d (.bool (as.any g))) := by
  rw [ev, h1, Option.bind_some, h2, Option.bind_some]
  simp only [gxRun_any enc g h, Option.map_some, fin_b]
theorem gxRun_allF {α : Type} (enc : α → D) (q g : α → Bool) : ∀ {as : List α}, (∀ a ∈ as, ∃ ρ1, asgD t (enc a) ρ0 = some ρ1 ∧ ev G Φ c true ρ1 = some (.d (.bool (q a))) ∧ (q a = true → ev G Φ e false ρ1 = some (.d (.bool (g a))))) →
    gxRun false t ρ0 (fun ρ => tvs G Φ (.cons c .nil) ρ) (fun ρ => ev G Φ e false ρ) (as.map enc) = some (as.all fun a => !q a || g a)
  | [], _ => rfl
  | a :: r, h => by
    obtain ⟨ρ1, h1, h2, h3⟩ := h a List.mem_cons_self
    have ih := gxRun_allF enc q g (as := r) fun b hb => h b (List.mem_cons_of_mem _ hb)
    simp only [List.map_cons, gxRun, h1, Option.bind_some, tvs, h2, asB, List.all_cons]
    cases hq : q a with
    | false => exact ih
    | true =>
      simp only [h3 hq, Option.bind_some]
      cases hg : g a with
      | true => exact ih
      | false => rfl
theorem ev_gxAllF {α : Type} {as : List α} (enc : α → D) (q g : α → Bool) (h1 : evIt G Φ it ρ = some (as.map enc)) (h2 : wipeS ρ (own.map (·.2)) = some ρ0) (h : ∀ a ∈ as, ∃ ρ1, asgD t (enc a) ρ0 = some ρ1 ∧ ev G Φ c true ρ1 = some (.d (.bool (q a))) ∧ (q a = true → ev G Φ e false ρ1 = some (.d (.bool (g a))))) :
    ev G Φ (.gx .all own t it (.cons c .nil) e) m ρ = some (.d (.bool (as.all fun a => !q a || g a))) := by
  rw [ev, h1, Option.bind_some, h2, Option.bind_some]
  simp only [gxRun_allF enc q g h, Option.map_some, fin_b]
theorem filter_true {α : Type} (as : List α) : as.filter (fun _ => true) = as := by simp
/-- a comprehension without a test -/
theorem ev_lcM {α : Type} {as : List α} (enc : α → D) (g : α → D) (h1 : evIt G Φ it ρ = some (as.map enc)) (h2 : wipeS ρ (own.map (·.2)) = some ρ0) (hz : as.length ≤ 16777216)
    (h : ∀ a ∈ as, ∃ ρ1, asgD t (enc a) ρ0 = some ρ1 ∧ ∃ r, ev G Φ e false ρ1 = some r ∧ r.share = some (g a)) : ev G Φ (.lc own t it .nil e) false ρ = some (.f (as.map g)) := by
  refine ev_lc h1 h2 (by rw [List.length_map]; exact hz) ?_
  have := lcRun_map (t := t) (ρ := ρ0) (p := fun ρ => tvs G Φ .nil ρ) (f := fun ρ => ev G Φ e false ρ) enc (fun _ => true) g (as := as) fun a ha => by
    obtain ⟨ρ1, k1, k2⟩ := h a ha
    exact ⟨ρ1, k1, rfl, fun _ => k2⟩
  rw [filter_true] at this
  exact this
/-- a comprehension with a test -/
theorem ev_lcF {α : Type} {as : List α} (enc : α → D) (q : α → Bool) (g : α → D) (h1 : evIt G Φ it ρ = some (as.map enc)) (h2 : wipeS ρ (own.map (·.2)) = some ρ0) (hz : as.length ≤ 16777216)
    (h : ∀ a ∈ as, ∃ ρ1, asgD t (enc a) ρ0 = some ρ1 ∧ ev G Φ c true ρ1 = some (.d (.bool (q a))) ∧ (q a = true → ∃ r, ev G Φ e false ρ1 = some r ∧ r.share = some (g a))) : ev G Φ (.lc own t it (.cons c .nil) e) false ρ = some (.f ((as.filter q).map g)) := by
  refine ev_lc h1 h2 (by rw [List.length_map]; exact hz) ?_
  refine lcRun_map (t := t) (ρ := ρ0) (p := fun ρ => tvs G Φ (.cons c .nil) ρ) (f := fun ρ => ev G Φ e false ρ) enc q g (as := as) fun a ha => ?_
  obtain ⟨ρ1, k1, k2, k3⟩ := h a ha
  exact ⟨ρ1, k1, by simp only [tvs, k2, asB], k3⟩
variable {P : Out → Prop} {ss sa : Ss}
theorem eraseIdx_map' {α β : Type} (f : α → β) : ∀ (l : List α) (k : Nat), (l.map f).eraseIdx k = (l.eraseIdx k).map f
  | [], _ => rfl
  | a :: r, 0 => rfl
  | a :: r, k + 1 => by rw [List.map_cons, List.eraseIdx_cons_succ, List.eraseIdx_cons_succ, List.map_cons, eraseIdx_map' f r k]
theorem find_tx {as : List (List Nat)} {l : List Nat} (h : l ∈ as) : findD (Tx l) (as.map Tx) = some (as.idxOf l) := by
  unfold findD PySem.SeqAt.dataPlace
  rw [List.findIdx?_map]
  have : ((fun y => PyData.eqv y (Tx l)) ∘ Tx) = fun a => a == l := by
    funext a
    show PyData.eqv (Tx a) (Tx l) = _
    rw [eqv_str]
    exact Bool.eq_iff_iff.mpr (by simp)
  rw [this, List.findIdx?_eq_some_iff_findIdx_eq]
  exact ⟨List.idxOf_lt_length_iff.mpr h, rfl⟩
theorem run_rem {as : List (List Nat)} {l : List Nat} {i : Nat} (h0 : ρ[i]? = some (.ow (as.map Tx))) (h1 : ev G Φ e false ρ = some (.d (Tx l))) (hm : l ∈ as) (h : Run G Φ W ss (ρ.set i (.ow ((as.erase l).map Tx))) P) : Run G Φ W (.cons (.rem i e) ss) ρ P := by
  refine run_step (ρ' := ρ.set i (.ow ((as.erase l).map Tx))) ?_ h
  have k : (okD (Tx l) && okD (.list (as.map Tx))) = true := by rw [okD_lst, okAll_tx]; rfl
  have e2 : (as.map Tx).eraseIdx (as.idxOf l) = (as.erase l).map Tx := by
    rw [eraseIdx_map', List.erase_eq_eraseIdx_of_idxOf rfl]
  simp only [ex, h0, h1, Option.bind_some, R.toD, k, if_true, find_tx hm, Option.map_some, e2]
theorem aug_T {a b : List Nat} (h : a.length + b.length ≤ 16777216) : augR .Add (Tx a) (.d (Tx b)) = some (Tx (a ++ b)) := by
  simp only [augR, R.toD, len_mkS, szOk_ok h, if_true, cs_mkS]
/-- += on a text -/
theorem run_augT {a b : List Nat} {i : Nat} (h0 : ρ[i]? = some (.va (Tx a))) (h1 : ev G Φ e false ρ = some (.d (Tx b))) (hz : a.length + b.length ≤ 16777216) (h : Run G Φ W ss (ρ.set i (.va (Tx (a ++ b)))) P) : Run G Φ W (.cons (.aug i .Add e) ss) ρ P :=
  run_aug h0 h1 (aug_T hz) rfl h
/-- zip of two texts -/
theorem pairL_tx : ∀ g w : List Nat, pairL (g.map fun c => PyData.str (mkS [c])) (w.map fun c => PyData.str (mkS [c])) = (g.zip w).map fun p => .tuple [Tx [p.1], Tx [p.2]]
  | [], _ => by simp [pairL]
  | _ :: _, [] => by simp [pairL]
  | a :: g, b :: w => by rw [List.map_cons, List.map_cons, pairL, pairL_tx g w]; rfl
theorem it_zpT {a b : E} {g w : List Nat} (h1 : ev G Φ a false ρ = some (.d (Tx g))) (h2 : ev G Φ b false ρ = some (.d (Tx w))) : evIt G Φ (.zp a b) ρ = some ((g.zip w).map fun p => .tuple [Tx [p.1], Tx [p.2]]) := by
  simp only [evIt, h1, h2, Option.bind_some, zipB, cs_mkS, pairL_tx]
/-- one statement that goes on, told by what holds behind it -/
theorem run_mid {s : S} (Q : List Sl → Prop) (h1 : Run G Φ W (.cons s .nil) ρ fun o => ∃ ρ', o = .next ρ' ∧ Q ρ') (h2 : ∀ ρ', Q ρ' → Run G Φ W ss ρ' P) : Run G Φ W (.cons s ss) ρ P := by
  obtain ⟨o, k1, ρ', rfl, q⟩ := h1
  refine run_step ?_ (h2 ρ' q)
  simp only [exs] at k1
  obtain ⟨o1, e1, e2⟩ := Option.bind_eq_some_iff.mp k1
  cases o1 with
  | next ρ1 => cases e2; exact e1
  | brk ρ1 => cases e2
  | cnt ρ1 => cases e2
  | ret r => cases e2
/-- behind a turn of a while -/
def WTurn (G : Gt) (Φ : Phi) (W : Nat) (ss : Ss) (P : Out → Prop) (Nx : List Sl → Prop) : Out → Prop
  | .next ρ' => Nx ρ'
  | .cnt ρ' => Nx ρ'
  | .brk ρ' => Run G Φ W ss ρ' P
  | .ret r => P (.ret r)
theorem whl_inv (I : Nat → List Sl → Prop)
    (hs : ∀ n ρ1, I n ρ1 → ∃ b, tv G Φ c ρ1 = some b ∧ (b = false → Run G Φ W ss ρ1 P) ∧ (b = true → Run G Φ W sa ρ1 (WTurn G Φ W ss P fun ρ' => ∃ k, k < n ∧ I k ρ'))) :
    ∀ (k n : Nat) (ρ : List Sl), n < k → I n ρ → ∃ o, whlRun (fun ρ => tv G Φ c ρ) (fun ρ => exs G Φ W sa ρ) k ρ = some o ∧ match o with | .next ρ' => Run G Φ W ss ρ' P | .ret r => P (.ret r) | _ => False
  | 0, n, ρ, h, _ => absurd h (Nat.not_lt_zero _)
  | k + 1, n, ρ, h, hI => by
    obtain ⟨b, h1, h2, h3⟩ := hs n ρ hI
    cases b with
    | false => exact ⟨.next ρ, by simp only [whlRun, h1, Option.bind_some], h2 rfl⟩
    | true =>
      obtain ⟨o, k1, k2⟩ := h3 rfl
      have go : ∀ ρ', (∃ j, j < n ∧ I j ρ') → ∃ o, whlRun (fun ρ => tv G Φ c ρ) (fun ρ => exs G Φ W sa ρ) k ρ' = some o ∧ match o with | .next ρ' => Run G Φ W ss ρ' P | .ret r => P (.ret r) | _ => False := fun ρ' ⟨j, hj, ij⟩ => whl_inv I hs k j ρ' (by omega) ij
      cases o with
      | next ρ' =>
        obtain ⟨o', e1, e2⟩ := go ρ' k2
        exact ⟨o', by simp only [whlRun, h1, k1, Option.bind_some]; exact e1, e2⟩
      | cnt ρ' =>
        obtain ⟨o', e1, e2⟩ := go ρ' k2
        exact ⟨o', by simp only [whlRun, h1, k1, Option.bind_some]; exact e1, e2⟩
      | brk ρ' => exact ⟨.next ρ', by simp only [whlRun, h1, k1, Option.bind_some], k2⟩
      | ret r => exact ⟨.ret r, by simp only [whlRun, h1, k1, Option.bind_some], k2⟩
/-- while, by a number that falls -/
theorem run_whl {n : Nat} (I : Nat → List Sl → Prop) (h0 : I n ρ) (hW : n < W)
    (hs : ∀ n ρ1, I n ρ1 → ∃ b, tv G Φ c ρ1 = some b ∧ (b = false → Run G Φ W ss ρ1 P) ∧ (b = true → Run G Φ W sa ρ1 (WTurn G Φ W ss P fun ρ' => ∃ k, k < n ∧ I k ρ'))) : Run G Φ W (.cons (.whl c sa) ss) ρ P := by
  obtain ⟨o, k1, k2⟩ := whl_inv (ss := ss) (P := P) I hs W n ρ hW h0
  cases o with
  | next ρ' => exact run_step (ρ' := ρ') (by simp only [ex]; exact k1) k2
  | ret r => exact ⟨.ret r, by simp only [exs, ex, k1, Option.bind_some], k2⟩
  | brk _ => exact k2.elim
  | cnt _ => exact k2.elim
end
theorem ix_last {α : Type} {as : List α} {enc : α → D} {a : α} (h : as.getLast? = some a) : ixD (.tuple (as.map enc)) (.int (-1)) = some (enc a) := by
  have h0 : as ≠ [] := fun e => by rw [e] at h; cases h
  have l0 := List.length_pos_iff.mpr h0
  have e : atI (as.map enc) (-1) = (as.map enc)[as.length - 1]? := by
    unfold atI ixN
    rw [if_neg (by decide), if_pos (by rw [List.length_map]; omega), List.length_map, Option.bind_some]
    congr 1
    omega
  simp only [ixD, e, List.getElem?_map, ← List.getLast?_eq_getElem?, h, Option.map_some]
theorem ix_u0 {x : D} {r : List D} : ixD (.tuple (x :: r)) (.int 0) = some x := by
  simp only [ixD, atI_get (show (0 : Int) ≤ 0 by decide)]
  rfl
theorem ix_u1 {x y : D} {r : List D} : ixD (.tuple (x :: y :: r)) (.int 1) = some y := by
  simp only [ixD, atI_get (show (0 : Int) ≤ 1 by decide)]
  rfl
theorem cut_last {α : Type} (xs : List α) (x : α) : cutL (xs ++ [x]) (some (-1)) none = [x] := by
  unfold cutL
  have e : HT.sIx (xs ++ [x]).length 0 (some (-1)) = xs.length := by
    rw [List.length_append]
    simp only [HT.sIx]
    rw [if_pos (by decide), List.length_singleton]
    omega
  rw [e, HT.sIx_none, List.drop_left, List.take_of_length_le (by simp)]
/-- the places that pass, and what stands there -/
theorem range_filter {α : Type} (d : α) (q : α → Bool) : ∀ ws : List α, ((List.range ws.length).filter fun i => q (ws.getD i d)).map (fun i => ws.getD i d) = ws.filter q := by
  intro ws
  have e : (List.range ws.length).map (fun i => ws.getD i d) = ws := by
    refine List.ext_getElem (by simp) fun i h1 h2 => ?_
    simp [List.getD_eq_getElem?_getD, List.getElem?_eq_getElem h2]
  conv => rhs; rw [← e, List.filter_map]
  rfl
theorem rv_u {xs : List D} : revD (.tuple xs) = some (.d (.tuple xs.reverse)) := rfl
theorem rv_l {xs : List D} : revD (.list xs) = some (.f xs.reverse) := rfl
theorem so_eq {x : D} {xs : List D} (h : itemsD x = some xs) : b1D .sorted x = sortB x := by cases x <;> first | rfl | cases h
/-- sorted(..) of things that can be ordered -/
theorem so_gen {α : Type} (f : α → D) (as : List α) (x : D) (hx : itemsD x = some (as.map f)) (h1 : ordAll (as.map f) = true) (h2 : sortOk (as.map f) = true) (h3 : as.length ≤ 16777216) :
    b1D .sorted x = some (.f ((as.mergeSort fun a b => !PySem.W.dataLt (f b) (f a)).map f)) := by
  have e : sortD (as.map f) = (as.mergeSort fun a b => !PySem.W.dataLt (f b) (f a)).map f := by
    rw [sortD]
    exact (List.map_mergeSort (f := f) (r := fun a b => !PySem.W.dataLt (f b) (f a)) (s := fun a b => !PySem.W.dataLt b a) fun a _ b _ => rfl).symm
  have z : szOk (as.map f).length = true := by rw [List.length_map]; exact szOk_ok h3
  rw [so_eq hx]
  simp only [sortB, hx, Option.bind_some, h1, h2, z, Bool.and_self, if_true, e]
theorem ord_tx (as : List (List Nat)) : ordAll (as.map Tx) = true := by
  unfold ordAll
  simp only [List.all_eq_true, Bool.and_eq_true]
  intro x hx
  obtain ⟨i, _, rfl⟩ := List.mem_map.mp hx
  refine ⟨⟨rfl, rfl⟩, fun y hy => ?_⟩
  obtain ⟨j, _, rfl⟩ := List.mem_map.mp hy
  rfl
theorem sok_tx (as : List (List Nat)) : sortOk (as.map Tx) = true := by
  unfold sortOk
  rw [Bool.or_eq_true]
  refine .inr ?_
  rw [List.all_map]
  exact List.all_eq_true.mpr fun _ _ => rfl
theorem any_gen {α : Type} [DecidableEq α] (f : α → D) (hf : ∀ a b, PyData.eqv (f a) (f b) = decide (a = b)) (as : List α) (x : α) : ((as.map f).any fun z => PyData.eqv z (f x)) = decide (x ∈ as) := by
  rw [List.any_map]
  induction as with
  | nil => rfl
  | cons a r ih =>
    rw [List.any_cons, ih]
    simp only [Function.comp, hf, List.mem_cons]
    by_cases h : a = x
    · simp [h]
    · simp [h, Ne.symm h]
theorem okN_UT (as : List (List Nat)) (n : Nat) : okN (n + 2) (.tuple (as.map Tx)) = true := by
  show (as.map Tx).all (okN (n + 1)) = true
  rw [List.all_map]
  exact List.all_eq_true.mpr fun _ _ => rfl
theorem cm_inLU {as : List (List (List Nat))} {a : List (List Nat)} : cmpD .In (.tuple (a.map Tx)) (.list (as.map fun x => .tuple (x.map Tx))) = some (decide (a ∈ as)) := by
  have k1 : okD (.tuple (a.map Tx)) = true := okN_UT a 58
  have k2 : okD (.list (as.map fun x => .tuple (x.map Tx))) = true := by
    rw [okD_lst, List.all_map]
    exact List.all_eq_true.mpr fun x _ => okN_UT x 57
  simp only [cmpD, k1, k2, Bool.and_self, if_true, any_gen (fun x : List (List Nat) => PyData.tuple (x.map Tx)) (fun a b => eqvU Tx eqv_str a b)]
  exact congrArg some (decide_eq_decide.mpr Iff.rfl)
theorem cm_ninLU {as : List (List (List Nat))} {a : List (List Nat)} : cmpD .NotIn (.tuple (a.map Tx)) (.list (as.map fun x => .tuple (x.map Tx))) = some (decide (a ∉ as)) := by
  have := cm_inLU (as := as) (a := a)
  simp only [cmpD] at this ⊢
  split at this
  · rename_i h
    rw [if_pos h]
    rw [Option.some.inj this, decide_not]
  · cases this
theorem wipe_one {ρ : List Sl} {i : Nat} {s : Sl} (hi : ρ[i]? = some s) (pi : plainSl (some s) = true) : wipeS ρ [i] = some (ρ.set i .no) := by
  simp only [wipeS, Option.bind_some, hi, pi, if_true]
theorem wipe_two {ρ : List Sl} {i j : Nat} {s s' : Sl} (hj : ρ[j]? = some s') (pj : plainSl (some s') = true) (hi : (ρ.set j .no)[i]? = some s) (pi : plainSl (some s) = true) : wipeS ρ [i, j] = some ((ρ.set j .no).set i .no) := by
  simp only [wipeS, Option.bind_some, hj, pj, hi, pi, if_true]
theorem srt_ext {a b : List (List Nat)} (h : ∀ x, x ∈ a ↔ x ∈ b) : srt a = srt b := by
  unfold srt
  refine msort_perm leT_tr leT_tot leT_anti ?_
  rw [List.perm_ext_iff_of_nodup (nd_ded a) (nd_ded b)]
  intro x
  rw [mem_ded, mem_ded]
  exact h x
/-- it rises strictly -/
theorem srt_pw (a : List (List Nat)) : (srt a).Pairwise (· < ·) := by
  have h1 : (srt a).Pairwise fun a b => leT a b = true := List.pairwise_mergeSort leT_tr leT_tot (ded a)
  have h2 : (srt a).Pairwise (· ≠ ·) := nd_srt a
  refine (h1.and h2).imp fun {x y} h => ?_
  have hle : leT x y = true := h.1
  refine Classical.byContradiction fun hn => h.2 (leT_anti x y hle ?_)
  unfold leT
  exact decide_eq_true (List.not_lt.mp hn)
theorem cm_ltT {l l' : List Nat} : cmpD .Lt (Tx l) (Tx l') = some (decide (l < l')) := by
  simp [cmpD, okD_str, alike_str, isNone, lt_str]
theorem cm_inS {c : Nat} {z : Str} : cmpD .In (Tx [c]) (.str z) = some (decide (c ∈ cs z)) := rfl
theorem li_tx {l : List Nat} (h : l.length ≤ 16777216) : b1D .list (Tx l) = some (.f ((l.map fun c => [c]).map Tx)) := by
  simp only [b1D, len_mkS, szOk_ok h, if_true, cs_mkS, List.map_map]
  rfl
theorem in_singles {c : Nat} {l : List Nat} : decide ([c] ∈ l.map fun c => [c]) = decide (c ∈ l) := decide_eq_decide.mpr (by simp)
theorem ixW {ws : List (List Nat)} {u : Int} (h : 0 ≤ u) (h2 : u < ws.length) : ixD (.tuple (ws.map Tx)) (.int u) = some (Tx (ws.getD u.toNat [])) :=
  ix_tup h (by rw [List.getD_eq_getElem?_getD, List.getElem?_eq_getElem (by omega)]; rfl)
theorem ixWL {ws : List (List Nat)} {u : Int} (h : 0 ≤ u) (h2 : u < ws.length) : ixD (.list (ws.map Tx)) (.int u) = some (Tx (ws.getD u.toNat [])) :=
  ix_lst h (by rw [List.getD_eq_getElem?_getD, List.getElem?_eq_getElem (by omega)]; rfl)
theorem sw_tx {w t : List Nat} : m1D .startswith (Tx w) (Tx t) = some (.d (.bool (prefL t w))) := rfl
theorem pref_take : ∀ t w : List Nat, prefL t w = decide (w.take t.length = t)
  | [], w => by simp [prefL]
  | a :: t, [] => by simp [prefL]
  | a :: t, b :: w => by
    rw [prefL, pref_take t w, List.length_cons, List.take_succ_cons]
    refine Bool.eq_iff_iff.mpr ?_
    simp only [Bool.and_eq_true, beq_iff_eq, decide_eq_true_eq, List.cons.injEq]
    exact ⟨fun h => ⟨h.1.symm, h.2⟩, fun h => ⟨h.1.symm, h.2⟩⟩
theorem lc2Run_map {α : Type} {t t2 : Tg} {ρ0 : List Sl} {src : List Sl → Option (List D)} {w : List Nat} {p : List Sl → Option Bool} {f : List Sl → Option R} (enc : α → D) (g : α → List D) : ∀ {as : List α},
    (∀ a ∈ as, ∃ ρ1 ys ρ2, asgD t (enc a) ρ0 = some ρ1 ∧ src ρ1 = some ys ∧ wipeS ρ1 w = some ρ2 ∧ lcRun t2 ρ2 p f ys = some (g a)) → lc2Run t ρ0 src w t2 p f (as.map enc) = some (as.map g).flatten
  | [], _ => rfl
  | a :: r, h => by
    obtain ⟨ρ1, ys, ρ2, h1, h2, h3, h4⟩ := h a List.mem_cons_self
    have ih := lc2Run_map enc g (as := r) fun b hb => h b (List.mem_cons_of_mem _ hb)
    simp only [List.map_cons, lc2Run, h1, h2, h3, h4, Option.bind_some, ih, Option.map_some, List.flatten_cons]
theorem lcRun_all {α : Type} {G : Gt} {Φ : Phi} {t : Tg} {ρ : List Sl} {e : E} (enc : α → D) (g : α → D) {as : List α}
    (h : ∀ a ∈ as, ∃ ρ1, asgD t (enc a) ρ = some ρ1 ∧ ∃ r, ev G Φ e false ρ1 = some r ∧ r.share = some (g a)) : lcRun t ρ (fun ρ => tvs G Φ .nil ρ) (fun ρ => ev G Φ e false ρ) (as.map enc) = some (as.map g) := by
  have := lcRun_map (t := t) (ρ := ρ) (p := fun ρ => tvs G Φ .nil ρ) (f := fun ρ => ev G Φ e false ρ) enc (fun _ => true) g (as := as) fun a ha => by
    obtain ⟨ρ1, k1, k2⟩ := h a ha
    exact ⟨ρ1, k1, rfl, fun _ => k2⟩
  rw [filter_true] at this
  exact this
/-- a comprehension of two clauses without tests -/
theorem ev_lc2M {α : Type} {G : Gt} {Φ : Phi} {ρ ρ0 : List Sl} {own : List (Str × Nat)} {t t2 : Tg} {it it2 : It} {e : E} {as : List α} (enc : α → D) (g : α → List D) (h1 : evIt G Φ it ρ = some (as.map enc)) (h2 : wipeS ρ (own.map (·.2)) = some ρ0) (hz : (as.map g).flatten.length ≤ 16777216)
    (h : ∀ a ∈ as, ∃ ρ1 ys ρ2, asgD t (enc a) ρ0 = some ρ1 ∧ evIt G Φ it2 ρ1 = some ys ∧ wipeS ρ1 t2.slots = some ρ2 ∧ lcRun t2 ρ2 (fun ρ => tvs G Φ .nil ρ) (fun ρ => ev G Φ e false ρ) ys = some (g a)) : ev G Φ (.lc2 own t it t2 it2 .nil e) false ρ = some (.f (as.map g).flatten) := by
  simp only [ev, fin, h1, h2, Option.bind_some]
  rw [lc2Run_map enc g h]
  simp only [Option.bind_some, szOk_ok hz, if_true]
/-- plain data, so deep at most -/
def isP : Nat → D → Bool
  | _, .none => true
  | _, .bool _ => true
  | _, .int _ => true
  | _, .str _ => true
  | 0, _ => false
  | k + 1, .tuple xs => xs.all (isP k) && decide (xs.length ≤ 4000)
  | _ + 1, _ => false
end WM

/-! ## part T: typed readings of the evaluator -/
namespace WM
open PySem PySem.Spec PyProof.Rows L2

/-! ### encodings -/
def eI : Int → D := PyData.int
def eB : Bool → D := PyData.bool
def eS : List Nat → D := fun l => Tx l
def eN : Unit → D := fun _ => .none
section
variable {α β γ δ : Type}
def eT (e : α → D) : List α → D := fun xs => .tuple (xs.map e)
def eL (e : α → D) : List α → D := fun xs => .list (xs.map e)
def eO (e : α → D) : Option α → D
  | none => .none
  | some a => e a
def eP (e : α → D) (f : β → D) : α × β → D := fun p => .tuple [e p.1, f p.2]
def eP3 (e : α → D) (f : β → D) (g : γ → D) : α × β × γ → D := fun p => .tuple [e p.1, f p.2.1, g p.2.2]
def eP4 (e : α → D) (f : β → D) (g : γ → D) (h : δ → D) : α × β × γ × δ → D := fun p => .tuple [e p.1, f p.2.1, g p.2.2.1, h p.2.2.2]
/-- the letters of a text, each a text -/
def chs (l : List Nat) : List (List Nat) := l.map fun c => [c]
/-- compared by == -/
class QE [DecidableEq α] (e : α → D) : Prop where
  ok : ∃ n, n ≤ 20 ∧ ∀ a, okN n (e a) = true
  eqv : ∀ a b, PyData.eqv (e a) (e b) = decide (a = b)
/-- never None -/
class NN (e : α → D) : Prop where
  nn : ∀ a, isNone (e a) = false
/-- ordered -/
class OE (e : α → D) : Prop where
  al : ∀ a b, PySem.W.alike (e a) (e b) = true
  nn : ∀ a, isNone (e a) = false
theorem okN_mono : ∀ (n : Nat) (d : D), okN n d = true → ∀ m, n ≤ m → okN m d = true
  | _, .none, _, m, _ => by cases m <;> rfl
  | _, .bool _, _, m, _ => by cases m <;> rfl
  | _, .int _, _, m, _ => by cases m <;> rfl
  | _, .str _, _, m, _ => by cases m <;> rfl
  | 0, .dict _, h, m, _ => by cases h
  | _ + 1, .dict _, h, m, _ => by cases h
  | 0, .list xs, h, m, _ => by cases h
  | 0, .tuple xs, h, m, _ => by cases h
  | n + 1, .list xs, h, 0, hm => absurd hm (by omega)
  | n + 1, .tuple xs, h, 0, hm => absurd hm (by omega)
  | n + 1, .list xs, h, m + 1, hm => by
    simp only [okN, List.all_eq_true] at h ⊢
    exact fun x hx => okN_mono n x (h x hx) m (by omega)
  | n + 1, .tuple xs, h, m + 1, hm => by
    simp only [okN, List.all_eq_true] at h ⊢
    exact fun x hx => okN_mono n x (h x hx) m (by omega)
/-- a bounded depth, as a class -/
class DE (n : outParam Nat) (e : α → D) : Prop where
  ok : ∀ a, okN n (e a) = true
instance : DE 0 eI := ⟨fun _ => rfl⟩
instance : DE 0 eB := ⟨fun _ => rfl⟩
instance : DE 0 eS := ⟨fun _ => rfl⟩
instance : DE 0 eN := ⟨fun _ => rfl⟩
instance {n : Nat} {e : α → D} [DE n e] : DE (n + 1) (eT e) := ⟨fun a => by
  show (a.map e).all (okN n) = true
  rw [List.all_map]
  exact List.all_eq_true.mpr fun x _ => DE.ok x⟩
instance {n : Nat} {e : α → D} [DE n e] : DE (n + 1) (eL e) := ⟨fun a => by
  show (a.map e).all (okN n) = true
  rw [List.all_map]
  exact List.all_eq_true.mpr fun x _ => DE.ok x⟩
instance {n : Nat} {e : α → D} [DE n e] : DE n (eO e) := ⟨fun a => by
  cases a with
  | none => cases n <;> rfl
  | some x => exact DE.ok x⟩
instance {n m : Nat} {e : α → D} {f : β → D} [DE n e] [DE m f] : DE (n + m + 1) (eP e f) := ⟨fun a => by
  show [e a.1, f a.2].all (okN (n + m)) = true
  simp only [List.all_cons, List.all_nil, Bool.and_true, Bool.and_eq_true]
  exact ⟨okN_mono n _ (DE.ok _) _ (by omega), okN_mono m _ (DE.ok _) _ (by omega)⟩⟩
instance {n m k : Nat} {e : α → D} {f : β → D} {g : γ → D} [DE n e] [DE m f] [DE k g] : DE (n + m + k + 1) (eP3 e f g) := ⟨fun a => by
  show [e a.1, f a.2.1, g a.2.2].all (okN (n + m + k)) = true
  simp only [List.all_cons, List.all_nil, Bool.and_true, Bool.and_eq_true]
  exact ⟨okN_mono n _ (DE.ok _) _ (by omega), okN_mono m _ (DE.ok _) _ (by omega), okN_mono k _ (DE.ok _) _ (by omega)⟩⟩
instance {n m k j : Nat} {e : α → D} {f : β → D} {g : γ → D} {h : δ → D} [DE n e] [DE m f] [DE k g] [DE j h] : DE (n + m + k + j + 1) (eP4 e f g h) := ⟨fun a => by
  show [e a.1, f a.2.1, g a.2.2.1, h a.2.2.2].all (okN (n + m + k + j)) = true
  simp only [List.all_cons, List.all_nil, Bool.and_true, Bool.and_eq_true]
  exact ⟨okN_mono n _ (DE.ok _) _ (by omega), okN_mono m _ (DE.ok _) _ (by omega), okN_mono k _ (DE.ok _) _ (by omega), okN_mono j _ (DE.ok _) _ (by omega)⟩⟩
instance : NN eI := ⟨fun _ => rfl⟩
instance : NN eB := ⟨fun _ => rfl⟩
instance : NN eS := ⟨fun _ => rfl⟩
instance {e : α → D} : NN (eT e) := ⟨fun _ => rfl⟩
instance {e : α → D} : NN (eL e) := ⟨fun _ => rfl⟩
instance {e : α → D} {f : β → D} : NN (eP e f) := ⟨fun _ => rfl⟩
instance {e : α → D} {f : β → D} {g : γ → D} : NN (eP3 e f g) := ⟨fun _ => rfl⟩
instance {e : α → D} {f : β → D} {g : γ → D} {h : δ → D} : NN (eP4 e f g h) := ⟨fun _ => rfl⟩
/-- equality -/
class VE [DecidableEq α] (e : α → D) : Prop where
  eqv : ∀ a b, PyData.eqv (e a) (e b) = decide (a = b)
instance : VE eI := ⟨eqv_int⟩
instance : VE eB := ⟨eqv_bool⟩
instance : VE eS := ⟨eqv_str⟩
instance [DecidableEq α] {e : α → D} [VE e] : VE (eT e) := ⟨fun a b => eqvU e VE.eqv a b⟩
instance [DecidableEq α] {e : α → D} [VE e] : VE (eL e) := ⟨fun a b => by
  show PyData.eqv (.list (a.map e)) (.list (b.map e)) = _
  rw [PyData.eqv]; exact eqvAll_gen e VE.eqv a b⟩
theorem eqv_noneL {d : D} (h : isNone d = false) : PyData.eqv .none d = false := by
  cases d <;> first | rfl | cases h
theorem eqv_noneR {d : D} (h : isNone d = false) : PyData.eqv d .none = false := by
  cases d <;> first | rfl | cases h
instance [DecidableEq α] {e : α → D} [VE e] [NN e] : VE (eO e) := ⟨fun a b => by
  cases a with
  | none => cases b with
    | none => rfl
    | some y => simp only [eO, eqv_noneL (NN.nn y)]; simp
  | some x => cases b with
    | none => simp only [eO, eqv_noneR (NN.nn x)]; simp
    | some y => simp only [eO, VE.eqv, Option.some.injEq]⟩
instance [DecidableEq α] [DecidableEq β] {e : α → D} {f : β → D} [VE e] [VE f] : VE (eP e f) := ⟨fun a b => by
  show PyData.eqv (.tuple [e a.1, f a.2]) (.tuple [e b.1, f b.2]) = _
  simp only [PyData.eqv, PyData.eqvAll, VE.eqv, Bool.and_true, ← Bool.decide_and, Prod.ext_iff]⟩
instance [DecidableEq α] [DecidableEq β] [DecidableEq γ] {e : α → D} {f : β → D} {g : γ → D} [VE e] [VE f] [VE g] : VE (eP3 e f g) := ⟨fun a b => by
  show PyData.eqv (.tuple [e a.1, f a.2.1, g a.2.2]) (.tuple [e b.1, f b.2.1, g b.2.2]) = _
  simp only [PyData.eqv, PyData.eqvAll, VE.eqv, Bool.and_true, ← Bool.decide_and, Prod.ext_iff]⟩
instance [DecidableEq α] [DecidableEq β] [DecidableEq γ] [DecidableEq δ] {e : α → D} {f : β → D} {g : γ → D} {h : δ → D} [VE e] [VE f] [VE g] [VE h] : VE (eP4 e f g h) := ⟨fun a b => by
  show PyData.eqv (.tuple [e a.1, f a.2.1, g a.2.2.1, h a.2.2.2]) (.tuple [e b.1, f b.2.1, g b.2.2.1, h b.2.2.2]) = _
  simp only [PyData.eqv, PyData.eqvAll, VE.eqv, Bool.and_true, ← Bool.decide_and, Prod.ext_iff]⟩
/-- order -/
class AE (e : α → D) : Prop where
  al : ∀ a b, PySem.W.alike (e a) (e b) = true
  nn : ∀ a, isNone (e a) = false
instance : AE eI := ⟨fun _ _ => rfl, fun _ => rfl⟩
instance : AE eB := ⟨fun _ _ => rfl, fun _ => rfl⟩
instance : AE eS := ⟨fun _ _ => rfl, fun _ => rfl⟩
theorem alikeAll_gen (e : α → D) (h : ∀ a b, PySem.W.alike (e a) (e b) = true) : ∀ xs ys : List α, PySem.W.alikeAll (xs.map e) (ys.map e) = true
  | [], _ => by simp [PySem.W.alikeAll]
  | _ :: _, [] => by simp [PySem.W.alikeAll]
  | x :: xs, y :: ys => by
    rw [List.map_cons, List.map_cons, PySem.W.alikeAll, h x y, alikeAll_gen e h xs ys]; rfl
instance {e : α → D} [AE e] : AE (eT e) := ⟨fun a b => by
  show PySem.W.alike (.tuple (a.map e)) (.tuple (b.map e)) = true
  rw [PySem.W.alike]; exact alikeAll_gen e AE.al a b, fun _ => rfl⟩
instance {e : α → D} [AE e] : AE (eL e) := ⟨fun a b => by
  show PySem.W.alike (.list (a.map e)) (.list (b.map e)) = true
  rw [PySem.W.alike]; exact alikeAll_gen e AE.al a b, fun _ => rfl⟩
instance {e : α → D} {f : β → D} [AE e] [AE f] : AE (eP e f) := ⟨fun a b => by
  show PySem.W.alike (.tuple [e a.1, f a.2]) (.tuple [e b.1, f b.2]) = true
  simp only [PySem.W.alike, PySem.W.alikeAll, AE.al, Bool.and_self], fun _ => rfl⟩
instance {e : α → D} {f : β → D} {g : γ → D} [AE e] [AE f] [AE g] : AE (eP3 e f g) := ⟨fun a b => by
  show PySem.W.alike (.tuple [e a.1, f a.2.1, g a.2.2]) (.tuple [e b.1, f b.2.1, g b.2.2]) = true
  simp only [PySem.W.alike, PySem.W.alikeAll, AE.al, Bool.and_self], fun _ => rfl⟩
instance {e : α → D} {f : β → D} {g : γ → D} {h : δ → D} [AE e] [AE f] [AE g] [AE h] : AE (eP4 e f g h) := ⟨fun a b => by
  show PySem.W.alike (.tuple [e a.1, f a.2.1, g a.2.2.1, h a.2.2.2]) (.tuple [e b.1, f b.2.1, g b.2.2.1, h b.2.2.2]) = true
  simp only [PySem.W.alike, PySem.W.alikeAll, AE.al, Bool.and_self], fun _ => rfl⟩
/-- stands in a row -/
def memB [DecidableEq α] (x : α) (xs : List α) : Bool := decide (x ∈ xs)
theorem memB_iff [DecidableEq α] {x : α} {xs : List α} : memB x xs = true ↔ x ∈ xs := decide_eq_true_iff
def ltE (e : α → D) (a b : α) : Bool := PySem.W.dataLt (e a) (e b)
/-- depth at most 20, told by rfl -/
theorem DE.okD {n : Nat} {e : α → D} [DE n e] (h : n ≤ 59 := by decide) (a : α) : okD (e a) = true := okN_mono n _ (DE.ok a) 60 (by omega)
theorem DE.ok59 {n : Nat} {e : α → D} [DE n e] (h : n ≤ 59 := by decide) (xs : List α) : (xs.map e).all (okN 59) = true := by
  rw [List.all_map]
  exact List.all_eq_true.mpr fun x _ => okN_mono n _ (DE.ok x) 59 h

/-! ### the operations on typed things that may fail -/
def gd (b : Bool) : Option Unit := if b then some () else none
def mulO (a b : Int) : Option Int := if intOk a || intOk b then some (a * b) else none
def dvO (a b : Int) : Option Int := if decide (0 < b) && decide (b < 1073741824) then some (a / b) else none
def mdO (a b : Int) : Option Int := if decide (0 < b) then some (a % b) else none
def pwO (a b : Int) : Option Int := if decide (0 ≤ b) && decide (b ≤ 1000000) && decide (a.natAbs < 2 ^ 64) then some (a ^ b.toNat) else none
/-- two rows, one behind the other -/
def adO (a b : List α) : Option (List α) := if szOk (a.length + b.length) then some (a ++ b) else none
def apO (a : List α) (x : α) : Option (List α) := if szOk (a.length + 1) then some (a ++ [x]) else none
def muO (a : List α) (k : Int) : Option (List α) := if szOk (a.length * k.toNat) && decide (k < 2 ^ 62) && decide (-(2 ^ 62) < k) then some (List.replicate k.toNat a).flatten else none
def muTO (a : List α) (k : Int) : Option (List α) := if !a.isEmpty && decide (a.length ≤ 1000) && decide (2 ≤ k) && decide (k ≤ 1000) then some (List.replicate k.toNat a).flatten else none
def jnO (z : List Nat) (ls : List (List Nat)) : Option (List Nat) := if szOk ((ls.map List.length).sum + z.length * ls.length) then some (joinL z ls) else none
def sortE (e : α → D) (xs : List α) : List α := xs.mergeSort fun a b => !ltE e b a
def soO (e : α → D) (xs : List α) : Option (List α) := if sortOk (xs.map e) && szOk xs.length then some (sortE e xs) else none
def ssO [DecidableEq α] (e : α → D) (xs : List α) : Option (List α) := if keyOk (xs.map e) then some (sortE e (ded xs)) else none
def lsO [DecidableEq α] (e : α → D) (xs : List α) : Option Int := if keyMx (xs.map e) then some ((ded xs).length : Int) else if keyUx (xs.map e) then some ((ded xs).length : Int) else none
def mxO (e : α → D) : List α → Option α
  | [] => none
  | x :: r => some (r.foldl (fun a y => if ltE e a y then y else a) x)
def mnO (e : α → D) : List α → Option α
  | [] => none
  | x :: r => some (r.foldl (fun a y => if ltE e y a then y else a) x)
def ixO [DecidableEq α] (xs : List α) (v : α) : Option Int := (xs.findIdx? fun x => decide (x = v)).map fun (k : Nat) => (k : Int)
def ctF [DecidableEq α] (xs : List α) (v : α) : Int := (xs.countP fun x => decide (x = v) : Nat)
def tcO (x y : List Nat) : Option Int := match y with
  | [c] => some (x.count c : Nat)
  | _ => none
def tiO (x y : List Nat) : Option Int := match y with
  | [c] => if c ∈ x then some (x.idxOf c : Nat) else none
  | _ => none
def endB (x y : List Nat) : Bool := decide (y.length ≤ x.length) && decide (x.drop (x.length - y.length) = y)
def rgF (n : Int) : List Int := (List.range n.toNat).map fun (k : Nat) => (k : Int)
def rgF2 (a b : Int) : List Int := (List.range (b - a).toNat).map fun (k : Nat) => a + (k : Int)
def rg1 (n : Int) : Option (List Int) := if bndOk n then some (rgF n) else none
def rg2 (a b : Int) : Option (List Int) := if bndOk a && bndOk b then some (rgF2 a b) else none
def rgF3 (a b c : Int) : List Int := (List.range (PySem.Builtin.Range.rangeSize a b c).toNat).map fun (k : Nat) => a + (k : Int) * c
def rg3 (a b c : Int) : Option (List Int) := if decide (c ≠ 0) && decide (c.natAbs < 1073741824) && PySem.Builtin.Range.small a b c then some (rgF3 a b c) else none
def enF (xs : List α) : List (Int × α) := xs.zipIdx.map fun p => ((p.2 : Int), p.1)
/-- a comprehension -/
def cpGo (c : α → Option Bool) (f : α → Option β) : List α → Option (List β)
  | [] => some []
  | a :: r => (c a).bind fun b => match b with
    | true => (f a).bind fun y => (cpGo c f r).map (y :: ·)
    | false => cpGo c f r
def lcO (xs : List α) (c : α → Option Bool) (f : α → Option β) : Option (List β) := if szOk xs.length then cpGo c f xs else none
def mapO (xs : List α) (f : α → Option β) : Option (List β) := lcO xs (fun _ => some true) f
def cp2Go (f : α → Option (List β)) : List α → Option (List β)
  | [] => some []
  | a :: r => (f a).bind fun ys => (cp2Go f r).map (ys ++ ·)
/-- a comprehension of two clauses; f the inner one -/
def lc2O (xs : List α) (f : α → Option (List β)) : Option (List β) := (cp2Go f xs).bind fun zs => if szOk zs.length then some zs else none
def gxO (stop : Bool) (c : α → Option Bool) (f : α → Option Bool) : List α → Option Bool
  | [] => some (!stop)
  | a :: r => (c a).bind fun b => match b with
    | true => (f a).bind fun k => if k == stop then some stop else gxO stop c f r
    | false => gxO stop c f r
def allO (xs : List α) (f : α → Option Bool) : Option Bool := gxO false (fun _ => some true) f xs
def anyO (xs : List α) (f : α → Option Bool) : Option Bool := gxO true (fun _ => some true) f xs
/-! loops -/
inductive Ctl (σ β : Type) where
  | nx (s : σ)
  | br (s : σ)
  | rt (b : β)
def foldO (xs : List α) (s : β) (f : α → β → Option β) : Option β := match xs with
  | [] => some s
  | a :: r => (f a s).bind fun s' => foldO r s' f
def loopO (xs : List α) (s : β) (f : α → β → Option (Ctl β γ)) : Option (Ctl β γ) := match xs with
  | [] => some (.nx s)
  | a :: r => (f a s).bind fun c => match c with
    | .nx s' => loopO r s' f
    | .br s' => some (.nx s')
    | .rt b => some (.rt b)
def whlO (n : Nat) (s : β) (c : β → Option Bool) (f : β → Option (Ctl β γ)) : Option (Ctl β γ) := match n with
  | 0 => none
  | n + 1 => (c s).bind fun b => match b with
    | false => some (.nx s)
    | true => (f s).bind fun k => match k with
      | .nx s' => whlO n s' c f
      | .br s' => some (.nx s')
      | .rt b => some (.rt b)
/-- behind a loop -/
def Ctl.go (c : Ctl β γ) (r : γ → Option δ) (n : β → Option δ) : Option δ := match c with
  | .nx s => n s
  | .br s => n s
  | .rt b => r b
end
end WM

/-! ## part U: the evaluator on typed things, rule by rule -/
namespace WM
open PySem PySem.Spec PyProof.Rows L2
section
variable {G : Gt} {Φ : Phi} {W : Nat} {ρ ρ' : List Sl}
abbrev jV (G : Gt) (Φ : Phi) (ρ : List Sl) (e : E) (d : D) : Prop := ev G Φ e false ρ = some (.d d)
abbrev jF (G : Gt) (Φ : Phi) (ρ : List Sl) (e : E) (xs : List D) : Prop := ev G Φ e false ρ = some (.f xs)
abbrev jB (G : Gt) (Φ : Phi) (ρ : List Sl) (e : E) (xs : List D) : Prop := ev G Φ e false ρ = some (.b xs)
def jD (G : Gt) (Φ : Phi) (ρ : List Sl) (e : E) (d : D) : Prop := ∃ r, ev G Φ e false ρ = some r ∧ r.toD = d
def jS (G : Gt) (Φ : Phi) (ρ : List Sl) (e : E) (d : D) : Prop := ∃ r, ev G Φ e false ρ = some r ∧ r.share = some d
/-- a truth value, as a value (false) or as a test (true) -/
abbrev jM (G : Gt) (Φ : Phi) (ρ : List Sl) (m : Bool) (e : E) (p : Bool) : Prop := ev G Φ e m ρ = some (.d (.bool p))
abbrev jI (G : Gt) (Φ : Phi) (ρ : List Sl) (it : It) (xs : List D) : Prop := evIt G Φ it ρ = some xs
def jDs (G : Gt) (Φ : Phi) (ρ : List Sl) (es : Es) (ds : List D) : Prop := ∃ rs, evs G Φ es ρ = some rs ∧ rs.map R.toD = ds
def jSs (G : Gt) (Φ : Phi) (ρ : List Sl) (es : Es) (ds : List D) : Prop := ∃ rs, evs G Φ es ρ = some rs ∧ shareAll rs = some ds
abbrev jO (G : Gt) (Φ : Phi) (ρ : List Sl) (o : Oe) (i : Option Int) : Prop := evo G Φ o ρ = some i
abbrev jA (G : Gt) (Φ : Phi) (ρ : List Sl) (m : Bool) (es : Es) (p : Bool) : Prop := andV G Φ es m ρ = some (.d (.bool p))
abbrev jR (G : Gt) (Φ : Phi) (ρ : List Sl) (m : Bool) (es : Es) (p : Bool) : Prop := orV G Φ es m ρ = some (.d (.bool p))
variable {α β γ δ : Type} {e : α → D} {f : β → D} {g : γ → D} {h' : δ → D} {a b c x y z : E} {es : Es} {d d' : D} {xs ys : List D} {i : Nat} {u v w : Int} {l l' : List Nat} {p q k m : Bool}

/-! coercions -/
theorem DV (h : jV G Φ ρ a d) : jD G Φ ρ a d := ⟨_, h, rfl⟩
theorem DVb (h : jM G Φ ρ false a p) : jD G Φ ρ a (eB p) := ⟨_, h, rfl⟩
theorem SVb (h : jM G Φ ρ false a p) : jS G Φ ρ a (eB p) := ⟨_, h, rfl⟩
theorem DF (h : jF G Φ ρ a xs) : jD G Φ ρ a (.list xs) := ⟨_, h, rfl⟩
theorem DB (h : jB G Φ ρ a xs) : jD G Φ ρ a (.list xs) := ⟨_, h, rfl⟩
theorem SV (h : jV G Φ ρ a d) : jS G Φ ρ a d := ⟨_, h, rfl⟩
theorem SF (h : jF G Φ ρ a xs) : jS G Φ ρ a (.list xs) := ⟨_, h, rfl⟩
/-! leaves -/
theorem q_va (h : ρ[i]? = some (.va d)) : jV G Φ ρ (.var i) d := ev_va h
theorem q_ow (h : ρ[i]? = some (.ow xs)) : jB G Φ ρ (.var i) xs := ev_ow h
theorem q_lk (h : ρ[i]? = some (.lk xs)) : jB G Φ ρ (.var i) xs := ev_lk h
theorem q_rd (h : ρ[i]? = some (.rd xs)) : jB G Φ ρ (.var i) xs := ev_rd h
theorem q_cI : jV G Φ ρ (.cst (.int u)) (eI u) := rfl
theorem q_cN : jV G Φ ρ (.cst .none) .none := rfl
theorem q_cB : jV G Φ ρ (.cst (.bool p)) (eB p) := rfl
theorem q_cS {t : Str} (h : cs t = l) : jV G Φ ρ (.cst (.str t)) (eS l) := by
  subst h
  show _ = some (R.d (Tx (cs t)))
  exact ev_cstS
theorem q_glb {n : Str} (h : G.gl[i]? = some (n, d)) : jV G Φ ρ (.glb i) d := ev_glb h
theorem q_glS {n t : Str} (h : G.gl[i]? = some (n, .str t)) (h2 : cs t = l) : jV G Φ ρ (.glb i) (eS l) := by
  subst h2
  show _ = some (R.d (.str (mkS (cs t))))
  rw [mkS_cs]
  exact ev_glb h
/-! rows of expressions -/
theorem Dn : jDs G Φ ρ .nil [] := ⟨[], evs_nil, rfl⟩
theorem Dc {ds : List D} (h1 : jD G Φ ρ a d) (h2 : jDs G Φ ρ es ds) : jDs G Φ ρ (.cons a es) (d :: ds) := by
  obtain ⟨r, e1, rfl⟩ := h1
  obtain ⟨rs, e2, rfl⟩ := h2
  exact ⟨r :: rs, evs_cons e1 e2, rfl⟩
theorem Sn : jSs G Φ ρ .nil [] := ⟨[], evs_nil, rfl⟩
theorem Sc {ds : List D} (h1 : jS G Φ ρ a d) (h2 : jSs G Φ ρ es ds) : jSs G Φ ρ (.cons a es) (d :: ds) := by
  obtain ⟨r, e1, s1⟩ := h1
  obtain ⟨rs, e2, s2⟩ := h2
  exact ⟨r :: rs, evs_cons e1 e2, by simp only [shareAll, s1, s2, Option.bind_some, Option.map_some]⟩
theorem q_tup {ds : List D} (h : jSs G Φ ρ es ds) : jV G Φ ρ (.tup es) (.tuple ds) := by
  obtain ⟨rs, e1, s1⟩ := h
  exact ev_tup e1 s1
theorem q_lst {ds : List D} (h : jSs G Φ ρ es ds) : jF G Φ ρ (.lst es) ds := by
  obtain ⟨rs, e1, s1⟩ := h
  exact ev_lst e1 s1
/-! arithmetic -/
theorem toD_I {r : R} {i : Int} (h : r.toD = eI i) : r = .d (.int i) := by
  cases r with
  | d x => exact congrArg R.d h
  | f x => cases h
  | b x => cases h
  | fd x => cases h
  | bd x => cases h
theorem toD_S {r : R} {l : List Nat} (h : r.toD = eS l) : r = .d (Tx l) := by
  cases r with
  | d x => exact congrArg R.d h
  | f x => cases h
  | b x => cases h
  | fd x => cases h
  | bd x => cases h
theorem toD_B {r : R} {i : Bool} (h : r.toD = eB i) : r = .d (.bool i) := by
  cases r with
  | d x => exact congrArg R.d h
  | f x => cases h
  | b x => cases h
  | fd x => cases h
  | bd x => cases h
theorem toD_T {r : R} {ds : List D} (h : r.toD = .tuple ds) : r = .d (.tuple ds) := by
  cases r with
  | d x => exact congrArg R.d h
  | f x => cases h
  | b x => cases h
  | fd x => cases h
  | bd x => cases h
theorem VD_I (h : jD G Φ ρ a (eI u)) : jV G Φ ρ a (eI u) := by
  obtain ⟨r, e, t⟩ := h; cases toD_I t; exact e
theorem VD_S (h : jD G Φ ρ a (eS l)) : jV G Φ ρ a (eS l) := by
  obtain ⟨r, e, t⟩ := h; cases toD_S t; exact e
theorem q_add (h1 : jV G Φ ρ a (eI u)) (h2 : jV G Φ ρ b (eI v)) : jV G Φ ρ (.bin .Add a b) (eI (u + v)) := ev_bin h1 h2 rfl
theorem q_sub (h1 : jV G Φ ρ a (eI u)) (h2 : jV G Φ ρ b (eI v)) : jV G Φ ρ (.bin .Sub a b) (eI (u - v)) := ev_bin h1 h2 rfl
theorem q_mulL (h1 : jV G Φ ρ a (eI u)) (h2 : jV G Φ ρ b (eI v)) (h : intOk u = true) : jV G Φ ρ (.bin .Mult a b) (eI (u * v)) := ev_bin h1 h2 (by
  show (if intOk u || intOk v then some (R.d (.int (u * v))) else none) = _
  rw [h, Bool.true_or, if_pos rfl]; rfl)
theorem q_mulR (h1 : jV G Φ ρ a (eI u)) (h2 : jV G Φ ρ b (eI v)) (h : intOk v = true) : jV G Φ ρ (.bin .Mult a b) (eI (u * v)) := ev_bin h1 h2 (by
  show (if intOk u || intOk v then some (R.d (.int (u * v))) else none) = _
  rw [h, Bool.or_true, if_pos rfl]; rfl)
theorem q_mul (h1 : jV G Φ ρ a (eI u)) (h2 : jV G Φ ρ b (eI v)) (h : mulO u v = some w) : jV G Φ ρ (.bin .Mult a b) (eI w) := ev_bin h1 h2 (by
  unfold mulO at h
  split at h
  · rename_i hz
    cases h
    show (if intOk u || intOk v then some (R.d (.int (u * v))) else none) = _
    rw [if_pos hz]; rfl
  · cases h)
theorem q_div (h1 : jV G Φ ρ a (eI u)) (h2 : jV G Φ ρ b (eI v)) (h : (decide (0 < v) && decide (v < 1073741824)) = true) : jV G Φ ρ (.bin .FloorDiv a b) (eI (u / v)) := ev_bin h1 h2 (by
  show (if decide (0 < v) && decide (v < 1073741824) then some (R.d (.int (u / v))) else none) = _
  rw [if_pos h]; rfl)
theorem q_divO (h1 : jV G Φ ρ a (eI u)) (h2 : jV G Φ ρ b (eI v)) (h : dvO u v = some w) : jV G Φ ρ (.bin .FloorDiv a b) (eI w) := by
  unfold dvO at h
  split at h
  · rename_i hz; cases h; exact q_div h1 h2 hz
  · cases h
theorem q_mod (h1 : jV G Φ ρ a (eI u)) (h2 : jV G Φ ρ b (eI v)) (h : decide (0 < v) = true) : jV G Φ ρ (.bin .Mod a b) (eI (u % v)) := ev_bin h1 h2 (by
  show (if decide (0 < v) then some (R.d (.int (u % v))) else none) = _
  rw [if_pos h]; rfl)
theorem q_modO (h1 : jV G Φ ρ a (eI u)) (h2 : jV G Φ ρ b (eI v)) (h : mdO u v = some w) : jV G Φ ρ (.bin .Mod a b) (eI w) := by
  unfold mdO at h
  split at h
  · rename_i hz; cases h; exact q_mod h1 h2 hz
  · cases h
theorem q_pow (h1 : jV G Φ ρ a (eI u)) (h2 : jV G Φ ρ b (eI v)) (h : pwO u v = some w) : jV G Φ ρ (.bin .Pow a b) (eI w) := ev_bin h1 h2 (by
  unfold pwO at h
  split at h
  · rename_i hz
    cases h
    show (if decide (0 ≤ v) && decide (v ≤ 1000000) && decide (u.natAbs < 2 ^ 64) then some (R.d (.int (u ^ v.toNat))) else none) = _
    rw [if_pos hz]; rfl
  · cases h)
theorem q_neg (h1 : jV G Φ ρ a (eI u)) : jV G Φ ρ (.neg a) (eI (-u)) := ev_neg h1
theorem q_addS {r : List Nat} (h1 : jV G Φ ρ a (eS l)) (h2 : jV G Φ ρ b (eS l')) (h : adO l l' = some r) : jV G Φ ρ (.bin .Add a b) (eS r) := by
  unfold adO at h
  split at h
  · rename_i hz; cases h; exact ev_bin h1 h2 (bn_addT (of_decide_eq_true hz))
  · cases h
theorem q_addT {s t r : List α} (h1 : jV G Φ ρ a (eT e s)) (h2 : jV G Φ ρ b (eT e t)) (h : adO s t = some r) : jV G Φ ρ (.bin .Add a b) (eT e r) := by
  unfold adO at h
  split at h
  · rename_i hz; cases h
    have := ev_bin h1 h2 (bn_addTu (by rw [List.length_map, List.length_map]; exact of_decide_eq_true hz))
    rw [← List.map_append] at this
    exact this
  · cases h
theorem q_addL {s t r : List α} (h1 : jD G Φ ρ a (eL e s)) (h2 : jD G Φ ρ b (eL e t)) (h : adO s t = some r) : jF G Φ ρ (.bin .Add a b) (r.map e) := by
  obtain ⟨r1, e1, t1⟩ := h1
  obtain ⟨r2, e2, t2⟩ := h2
  unfold adO at h
  split at h
  · rename_i hz; cases h
    rw [List.map_append]
    exact ev_bin e1 e2 (bn_addL t1 t2 (by rw [List.length_map, List.length_map]; exact of_decide_eq_true hz))
  · cases h
theorem q_mulS {r : List Nat} (h1 : jV G Φ ρ a (eS l)) (h2 : jV G Φ ρ b (eI u)) (h : muO l u = some r) : jV G Φ ρ (.bin .Mult a b) (eS r) := ev_bin h1 h2 (by
  unfold muO at h
  split at h
  · rename_i hz; cases h
    show (if szOk ((mkS l).length * u.toNat) && decide (u < 2 ^ 62) && decide (-(2 ^ 62) < u) then some (R.d (.str (mkS (List.replicate u.toNat (cs (mkS l))).flatten))) else none) = _
    rw [len_mkS, if_pos hz, cs_mkS]; rfl
  · cases h)
theorem flat_map {s : List α} (n : Nat) : (List.replicate n (s.map e)).flatten = ((List.replicate n s).flatten).map e := by
  rw [List.map_flatten, List.map_replicate]
theorem q_mulLs {s r : List α} (h1 : jF G Φ ρ a (s.map e)) (h2 : jV G Φ ρ b (eI u)) (h : muO s u = some r) : jF G Φ ρ (.bin .Mult a b) (r.map e) := ev_bin h1 h2 (by
  unfold muO at h
  split at h
  · rename_i hz; cases h
    show (if szOk ((s.map e).length * u.toNat) && decide (u < 2 ^ 62) && decide (-(2 ^ 62) < u) then some (R.f (List.replicate u.toNat (s.map e)).flatten) else none) = _
    rw [List.length_map, if_pos hz, flat_map]
  · cases h)
theorem q_mulT {s r : List α} (h1 : jV G Φ ρ a (eT e s)) (h2 : jV G Φ ρ b (eI u)) (h : muTO s u = some r) : jV G Φ ρ (.bin .Mult a b) (eT e r) := ev_bin h1 h2 (by
  unfold muTO at h
  split at h
  · rename_i hz; cases h
    show (if !(s.map e).isEmpty && decide ((s.map e).length ≤ 1000) && decide (2 ≤ u) && decide (u ≤ 1000) then some (R.d (.tuple (List.replicate u.toNat (s.map e)).flatten)) else none) = _
    rw [List.length_map, List.isEmpty_map, if_pos hz, flat_map]; rfl
  · cases h)
/-! truth -/
theorem q_inv (h : jM G Φ ρ m a p) : jM G Φ ρ m (.inv a) (!p) := ev_inv h
def leafE : E → Bool
  | .inv _ => false
  | .cmp _ _ _ => false
  | .chn _ _ _ _ _ => false
  | .and _ => false
  | .or _ => false
  | .ife _ _ _ => false
  | .lc _ _ _ _ _ => false
  | .lc2 _ _ _ _ _ _ _ => false
  | .gx _ _ _ _ _ _ => false
  | _ => true
theorem leaf_fin (h : leafE a = true) : ev G Φ a true ρ = fin true (ev G Φ a false ρ) := by
  cases a <;> simp only [leafE, Bool.false_eq_true] at h <;> simp only [ev, fin] <;> rfl
theorem t_leaf (hl : leafE a = true) (h : jD G Φ ρ a d) (ht : tru d = some p) : jM G Φ ρ true a p := by
  obtain ⟨r, e1, rfl⟩ := h
  show ev G Φ a true ρ = _
  rw [leaf_fin hl, e1]
  simp only [fin, Option.bind_some, ht, Option.map_some]
theorem tr_I : tru (eI u) = some (decide (u ≠ 0)) := tr_int
theorem tr_S : tru (eS l) = some (decide (l ≠ [])) := by
  show tru (.str (mkS l)) = _
  cases l <;> rfl
theorem tr_T {s : List α} : tru (eT e s) = some (decide (s ≠ [])) := by cases s <;> rfl
theorem tr_L {s : List α} : tru (eL e s) = some (decide (s ≠ [])) := by cases s <;> rfl
theorem tr_B : tru (eB p) = some p := rfl
theorem q_cmp {o : CmpOp} (h1 : jD G Φ ρ a d) (h2 : jD G Φ ρ b d') (h : cmpD o d d' = some p) : jM G Φ ρ m (.cmp o a b) p := by
  obtain ⟨r1, e1, rfl⟩ := h1
  obtain ⟨r2, e2, rfl⟩ := h2
  exact ev_cmp e1 e2 h
theorem q_chn {o o' : CmpOp} {d'' : D} (h1 : jD G Φ ρ a d) (h2 : jD G Φ ρ b d') (h3 : jD G Φ ρ c d'') (h : cmpD o d d' = some p) (h' : cmpD o' d' d'' = some q) : jM G Φ ρ m (.chn o o' a b c) (p && q) := by
  obtain ⟨r1, e1, rfl⟩ := h1
  obtain ⟨r2, e2, rfl⟩ := h2
  obtain ⟨r3, e3, rfl⟩ := h3
  exact ev_chn e1 e2 h (fun _ => e3) (fun _ => h')
section
variable [DecidableEq α] {n : Nat} {s t : α} {ss tt : List α}
theorem k_eq [DE n e] [VE e] (h : n ≤ 59 := by decide) : cmpD .Eq (e s) (e t) = some (decide (s = t)) := by
  simp only [cmpD, DE.okD h, Bool.and_self, if_true, VE.eqv]
theorem k_ne [DE n e] [VE e] (h : n ≤ 59 := by decide) : cmpD .NotEq (e s) (e t) = some (!decide (s = t)) := by
  simp only [cmpD, DE.okD h, Bool.and_self, if_true, VE.eqv]
theorem k_lt [DE n e] [AE e] (h : n ≤ 59 := by decide) : cmpD .Lt (e s) (e t) = some (ltE e s t) := by
  simp only [cmpD, DE.okD h, AE.al, AE.nn, Bool.and_self, Bool.not_false, if_true]; rfl
theorem k_gt [DE n e] [AE e] (h : n ≤ 59 := by decide) : cmpD .Gt (e s) (e t) = some (ltE e t s) := by
  simp only [cmpD, DE.okD h, AE.al, AE.nn, Bool.and_self, Bool.not_false, if_true]; rfl
theorem k_le [DE n e] [AE e] (h : n ≤ 59 := by decide) : cmpD .LtE (e s) (e t) = some (!ltE e t s) := by
  simp only [cmpD, DE.okD h, AE.al, AE.nn, Bool.and_self, Bool.not_false, if_true]; rfl
theorem k_ge [DE n e] [AE e] (h : n ≤ 59 := by decide) : cmpD .GtE (e s) (e t) = some (!ltE e s t) := by
  simp only [cmpD, DE.okD h, AE.al, AE.nn, Bool.and_self, Bool.not_false, if_true]; rfl
theorem any_enc [VE e] (ss : List α) (t : α) : ((ss.map e).any fun z => PyData.eqv z (e t)) = memB t ss := any_gen e VE.eqv ss t
theorem k_inT [DE n e] [VE e] (h : n ≤ 59 := by decide) : cmpD .In (e s) (eT e ss) = some (memB s ss) := by
  show cmpD .In (e s) (.tuple (ss.map e)) = _
  simp only [cmpD, DE.okD h, okD_tup, DE.ok59 h, Bool.and_self, if_true, any_enc]
theorem k_inL [DE n e] [VE e] (h : n ≤ 59 := by decide) : cmpD .In (e s) (eL e ss) = some (memB s ss) := by
  show cmpD .In (e s) (.list (ss.map e)) = _
  simp only [cmpD, DE.okD h, okD_lst, DE.ok59 h, Bool.and_self, if_true, any_enc]
theorem k_niT [DE n e] [VE e] (h : n ≤ 59 := by decide) : cmpD .NotIn (e s) (eT e ss) = some (!memB s ss) := by
  show cmpD .NotIn (e s) (.tuple (ss.map e)) = _
  simp only [cmpD, DE.okD h, okD_tup, DE.ok59 h, Bool.and_self, if_true, any_enc]
theorem k_niL [DE n e] [VE e] (h : n ≤ 59 := by decide) : cmpD .NotIn (e s) (eL e ss) = some (!memB s ss) := by
  show cmpD .NotIn (e s) (.list (ss.map e)) = _
  simp only [cmpD, DE.okD h, okD_lst, DE.ok59 h, Bool.and_self, if_true, any_enc]
end
theorem k_ltI : cmpD .Lt (eI u) (eI v) = some (decide (u < v)) := cm_ltI
theorem k_gtI : cmpD .Gt (eI u) (eI v) = some (decide (v < u)) := cm_gtI
theorem k_leI : cmpD .LtE (eI u) (eI v) = some (decide (u ≤ v)) := cm_leI
theorem k_geI : cmpD .GtE (eI u) (eI v) = some (decide (v ≤ u)) := cm_geI
theorem sub_iff (c z : List Nat) : isSub c z = true ↔ c <:+: z := by
  unfold isSub
  rw [List.any_eq_true]
  constructor
  · rintro ⟨i, _, h⟩
    have h := of_decide_eq_true h
    refine ⟨z.take i, (z.drop i).drop c.length, ?_⟩
    have e : z.drop i = c ++ (z.drop i).drop c.length := by
      conv => lhs; rw [← List.take_append_drop c.length (z.drop i), h]
    rw [List.append_assoc, ← e, List.take_append_drop]
  · rintro ⟨a, b, rfl⟩
    refine ⟨a.length, List.mem_range.mpr (by simp only [List.length_append]; omega), decide_eq_true ?_⟩
    rw [List.append_assoc, List.drop_left, List.take_left]
theorem sub_one {z : List Nat} (k : Nat) : isSub [k] z = decide (k ∈ z) := by
  refine Bool.eq_iff_iff.mpr ?_
  rw [sub_iff, decide_eq_true_eq]
  constructor
  · rintro ⟨a, b, rfl⟩
    simp
  · intro h
    obtain ⟨a, b, rfl⟩ := List.append_of_mem h
    exact ⟨a, b, by simp⟩
theorem k_inS : cmpD .In (eS l) (eS l') = some (isSub l l') := by
  match l with
  | [] => rfl
  | [k] => rw [sub_one]; rfl
  | a :: b :: r => rfl
theorem k_niS : cmpD .NotIn (eS l) (eS l') = some (!isSub l l') := by
  match l with
  | [] => rfl
  | [k] => rw [sub_one]; rfl
  | a :: b :: r => rfl
theorem k_is [NN e] {o : Option α} : cmpD .Is (eO e o) .none = some o.isNone := by
  cases o with
  | none => rfl
  | some x => show some (isNone (e x)) = _; rw [NN.nn]; rfl
theorem k_isn [NN e] {o : Option α} : cmpD .IsNot (eO e o) .none = some (!o.isNone) := by
  cases o with
  | none => rfl
  | some x => show some (!isNone (e x)) = _; rw [NN.nn]; rfl
theorem k_is0 (h : isNone d = p) : cmpD .Is d .none = some p := by rw [← h]; rfl
theorem k_isn0 (h : isNone d = p) : cmpD .IsNot d .none = some (!p) := by rw [← h]; rfl
/-! and, or -/
theorem q_and (h : jA G Φ ρ m es p) : jM G Φ ρ m (.and es) p := ev_and h
theorem q_or (h : jR G Φ ρ m es p) : jM G Φ ρ m (.or es) p := ev_or h
theorem a_one (h : jM G Φ ρ m a p) : jA G Φ ρ m (.cons a .nil) p := and_one h
theorem r_one (h : jM G Φ ρ m a p) : jR G Φ ρ m (.cons a .nil) p := or_one h
theorem a_cons (h : jM G Φ ρ m a p) (h2 : jA G Φ ρ m (.cons b es) q) : jA G Φ ρ m (.cons a (.cons b es)) (p && q) := and_cons h fun _ => h2
theorem r_cons (h : jM G Φ ρ m a p) (h2 : jR G Φ ρ m (.cons b es) q) : jR G Φ ρ m (.cons a (.cons b es)) (p || q) := or_cons h fun _ => h2
/-- the rest may fail -/
theorem a_consO {X : Option Bool} (h : jM G Φ ρ m a p) (hq : (if p = true then X else some false) = some q) (h2 : ∀ v, X = some v → jA G Φ ρ m (.cons b es) v) : jA G Φ ρ m (.cons a (.cons b es)) q := by
  cases p with
  | true => 
    have := and_cons h (q := q) fun _ => h2 q hq
    simpa using this
  | false =>
    have hq : some false = some q := hq
    cases hq
    exact and_cons h (q := true) fun z => by cases z
theorem r_consO {X : Option Bool} (h : jM G Φ ρ m a p) (hq : (if p = true then some true else X) = some q) (h2 : ∀ v, X = some v → jR G Φ ρ m (.cons b es) v) : jR G Φ ρ m (.cons a (.cons b es)) q := by
  cases p with
  | false =>
    have := or_cons h (q := q) fun _ => h2 q hq
    simpa using this
  | true =>
    have hq : some true = some q := hq
    cases hq
    exact or_cons h (q := true) fun z => by cases z
theorem q_ifeO {X Y : Option α} {v : α} (hc : jM G Φ ρ true c p) (h : (if p = true then X else Y) = some v) (h1 : ∀ v, X = some v → jV G Φ ρ a (e v)) (h2 : ∀ v, Y = some v → jV G Φ ρ b (e v)) : jV G Φ ρ (.ife c a b) (e v) := by
  cases p with
  | true => exact ev_ife hc (fun _ => h1 v h) (y := .d .none) fun z => by cases z
  | false => exact ev_ife hc (x := .d .none) (fun z => by cases z) fun _ => h2 v h
theorem q_ife {v w : α} (hc : jM G Φ ρ true c p) (h1 : jV G Φ ρ a (e v)) (h2 : jV G Φ ρ b (e w)) : jV G Φ ρ (.ife c a b) (e (if p = true then v else w)) := by
  cases p with
  | true => exact ev_ife hc (fun _ => h1) (y := .d .none) fun z => by cases z
  | false => exact ev_ife hc (x := .d .none) (fun z => by cases z) fun _ => h2
theorem q_ifeF {X Y : Option (List α)} {v : List α} (hc : jM G Φ ρ true c p) (h : (if p = true then X else Y) = some v) (h1 : ∀ v, X = some v → jF G Φ ρ a (v.map e)) (h2 : ∀ v, Y = some v → jF G Φ ρ b (v.map e)) : jF G Φ ρ (.ife c a b) (v.map e) := by
  cases p with
  | true => exact ev_ife hc (fun _ => h1 v h) (y := .d .none) fun z => by cases z
  | false => exact ev_ife hc (x := .d .none) (fun z => by cases z) fun _ => h2 v h
/-! places and parts -/
theorem atI_map (s : List α) (k : Int) : atI (s.map e) k = (atI s k).map e := by
  unfold atI
  rw [List.length_map]
  cases ixN s.length k with
  | none => rfl
  | some n => simp only [Option.bind_some, List.getElem?_map]
theorem q_ixL {s : List α} {r : α} (h1 : jD G Φ ρ a (eL e s)) (h2 : jV G Φ ρ b (eI u)) (h : atI s u = some r) : jV G Φ ρ (.ix a b) (e r) := by
  obtain ⟨r1, e1, t1⟩ := h1
  refine ev_ix e1 h2 ?_
  rw [t1]
  show atI (s.map e) u = _
  rw [atI_map, h]; rfl
theorem q_ixT {s : List α} {r : α} (h1 : jV G Φ ρ a (eT e s)) (h2 : jV G Φ ρ b (eI u)) (h : atI s u = some r) : jV G Φ ρ (.ix a b) (e r) := by
  refine ev_ix h1 h2 ?_
  show atI (s.map e) u = _
  rw [atI_map, h]; rfl
theorem q_ixS {r : List Nat} (h1 : jV G Φ ρ a (eS l)) (h2 : jV G Φ ρ b (eI u)) (h : atI (chs l) u = some r) : jV G Φ ρ (.ix a b) (eS r) := by
  refine ev_ix h1 h2 ?_
  show (atI (cs (mkS l)) u).map (fun c => PyData.str (mkS [c])) = _
  rw [cs_mkS]
  unfold chs at h
  have e2 : atI (l.map fun c => [c]) u = (atI l u).map fun c => [c] := by
    unfold atI
    rw [List.length_map]
    cases ixN l.length u with
    | none => rfl
    | some n => simp only [Option.bind_some, List.getElem?_map]
  rw [e2] at h
  obtain ⟨k, hk, rfl⟩ := Option.map_eq_some_iff.mp h
  rw [hk]; rfl
/-- a written tuple of two, three, four -/
theorem q_ixE (w : D) (h1 : jV G Φ ρ a w) (h2 : jV G Φ ρ b (eI u)) (h : (match w with | .tuple xs => atI xs u | _ => none) = some d) : jV G Φ ρ (.ix a b) d := by
  cases w with
  | tuple xs => exact ev_ix h1 h2 h
  | _ => cases h
theorem q_ixD (h1 : jV G Φ ρ a (.tuple xs)) (h2 : jV G Φ ρ b (eI u)) (h : atI xs u = some d) : jV G Φ ρ (.ix a b) d := ev_ix h1 h2 h
theorem cutL_map (s : List α) (lo hi : Option Int) : cutL (s.map e) lo hi = (cutL s lo hi).map e := by
  unfold cutL
  rw [List.length_map, List.map_take, List.map_drop]
theorem o_no : jO G Φ ρ .no none := evo_no
theorem o_so (h : jV G Φ ρ a (eI u)) : jO G Φ ρ (.so a) (some u) := evo_so h
theorem q_slL {s : List α} {lo hi : Oe} {u v : Option Int} (h1 : jD G Φ ρ a (eL e s)) (h2 : jO G Φ ρ lo u) (h3 : jO G Φ ρ hi v) : jF G Φ ρ (.sl a lo hi) ((cutL s u v).map e) := by
  obtain ⟨r1, e1, t1⟩ := h1
  refine ev_sl e1 h2 h3 ?_
  rw [t1, ← cutL_map]; rfl
theorem q_slT {s : List α} {lo hi : Oe} {u v : Option Int} (h1 : jV G Φ ρ a (eT e s)) (h2 : jO G Φ ρ lo u) (h3 : jO G Φ ρ hi v) : jV G Φ ρ (.sl a lo hi) (eT e (cutL s u v)) := by
  refine ev_sl h1 h2 h3 ?_
  show some (R.d (.tuple (cutL (s.map e) u v))) = _
  rw [cutL_map]; rfl
theorem q_slS {lo hi : Oe} {u v : Option Int} (h1 : jV G Φ ρ a (eS l)) (h2 : jO G Φ ρ lo u) (h3 : jO G Φ ρ hi v) : jV G Φ ρ (.sl a lo hi) (eS (cutL l u v)) := by
  refine ev_sl h1 h2 h3 ?_
  show some (R.d (.str (mkS (cutL (cs (mkS l)) u v)))) = _
  rw [cs_mkS]; rfl
theorem q_rvL {s : List α} (h1 : jD G Φ ρ a (eL e s)) : jF G Φ ρ (.rev a) (s.reverse.map e) := by
  obtain ⟨r1, e1, t1⟩ := h1
  refine ev_rev e1 ?_
  rw [t1, List.map_reverse]; rfl
theorem q_rvT {s : List α} (h1 : jV G Φ ρ a (eT e s)) : jV G Φ ρ (.rev a) (eT e s.reverse) := by
  refine ev_rev h1 ?_
  show some (R.d (.tuple (s.map e).reverse)) = _
  rw [← List.map_reverse]; rfl
theorem q_rvS (h1 : jV G Φ ρ a (eS l)) : jV G Φ ρ (.rev a) (eS l.reverse) := by
  refine ev_rev h1 ?_
  show some (R.d (.str (mkS (cs (mkS l)).reverse))) = _
  rw [cs_mkS]; rfl
/-! calls -/
theorem q_callV {n : Nat} {ds : List D} (h1 : jDs G Φ ρ es ds) (h : Φ n ds = some (.d d)) : jV G Φ ρ (.call n es) d := by
  obtain ⟨rs, e1, rfl⟩ := h1
  exact ev_callD e1 h
theorem q_callF {n : Nat} {ds : List D} (h1 : jDs G Φ ρ es ds) (h : Φ n ds = some (.f xs)) : jF G Φ ρ (.call n es) xs := by
  obtain ⟨rs, e1, rfl⟩ := h1
  exact ev_callF e1 h
/-! built-ins -/
theorem q_lnL {s : List α} (h1 : jD G Φ ρ a (eL e s)) : jV G Φ ρ (.b1 .len a) (eI s.length) := by
  obtain ⟨r1, e1, t1⟩ := h1
  refine ev_b1 e1 ?_
  rw [t1]
  show some (R.d (.int ((s.map e).length : Nat))) = _
  rw [List.length_map]; rfl
theorem q_lnT {s : List α} (h1 : jV G Φ ρ a (eT e s)) : jV G Φ ρ (.b1 .len a) (eI s.length) := by
  refine ev_b1 h1 ?_
  show some (R.d (.int ((s.map e).length : Nat))) = _
  rw [List.length_map]; rfl
theorem q_lnS (h1 : jV G Φ ρ a (eS l)) : jV G Φ ρ (.b1 .len a) (eI l.length) := by
  refine ev_b1 h1 ?_
  show some (R.d (.int ((mkS l).length : Nat))) = _
  rw [len_mkS]; rfl
theorem q_tuL {s : List α} (h1 : jD G Φ ρ a (eL e s)) : jV G Φ ρ (.b1 .tuple a) (eT e s) := by
  obtain ⟨r1, e1, t1⟩ := h1
  refine ev_b1 e1 ?_
  rw [t1]; rfl
theorem q_tuT {s : List α} (h1 : jV G Φ ρ a (eT e s)) : jV G Φ ρ (.b1 .tuple a) (eT e s) := ev_b1 h1 rfl
theorem q_liL {s : List α} (h1 : jD G Φ ρ a (eL e s)) : jF G Φ ρ (.b1 .list a) (s.map e) := by
  obtain ⟨r1, e1, t1⟩ := h1
  refine ev_b1 e1 ?_
  rw [t1]; rfl
theorem q_liT {s : List α} (h1 : jV G Φ ρ a (eT e s)) : jF G Φ ρ (.b1 .list a) (s.map e) := ev_b1 h1 rfl
theorem chs_map : (chs l).map eS = l.map fun c => PyData.str (mkS [c]) := by
  unfold chs
  rw [List.map_map]; rfl
theorem q_liS (h1 : jV G Φ ρ a (eS l)) : jF G Φ ρ (.b1 .list a) ((chs l).map eS) := by
  refine ev_b1 h1 ?_
  rw [chs_map]
  show some (R.f ((cs (mkS l)).map fun c => PyData.str (mkS [c]))) = _
  rw [cs_mkS]
theorem q_abs (h1 : jV G Φ ρ a (eI u)) : jV G Φ ρ (.b1 .abs a) (eI (if u < 0 then -u else u)) := ev_b1 h1 rfl
theorem q_int (h1 : jV G Φ ρ a (eI u)) : jV G Φ ρ (.b1 .int a) (eI u) := ev_b1 h1 rfl
theorem ints_enc (s : List Int) : intsOf (s.map eI) = some s := by
  induction s with
  | nil => rfl
  | cons i r ih => show (intsOf (r.map eI)).map (i :: ·) = _; rw [ih]; rfl
theorem bools_enc (s : List Bool) : boolsOf (s.map eB) = some s := by
  induction s with
  | nil => rfl
  | cons i r ih => show (boolsOf (r.map eB)).map (i :: ·) = _; rw [ih]; rfl
theorem strs_enc (s : List (List Nat)) : strsOf (s.map eS) = some s := by
  induction s with
  | nil => rfl
  | cons i r ih =>
    show (strsOf (r.map eS)).map (cs (mkS i) :: ·) = _
    rw [ih, cs_mkS]; rfl
theorem q_sum {s : List Int} (h1 : jD G Φ ρ a (eL eI s)) : jV G Φ ρ (.b1 .sum a) (eI s.sum) := by
  obtain ⟨r1, e1, t1⟩ := h1
  refine ev_b1 e1 ?_
  rw [t1]
  show (intsOf (s.map eI)).map _ = _
  rw [ints_enc]; rfl
theorem q_all {s : List Bool} (h1 : jD G Φ ρ a (eL eB s)) : jV G Φ ρ (.b1 .all a) (eB (s.all id)) := by
  obtain ⟨r1, e1, t1⟩ := h1
  refine ev_b1 e1 ?_
  rw [t1]
  show (boolsOf (s.map eB)).map _ = _
  rw [bools_enc]; rfl
theorem q_any {s : List Bool} (h1 : jD G Φ ρ a (eL eB s)) : jV G Φ ρ (.b1 .any a) (eB (s.any id)) := by
  obtain ⟨r1, e1, t1⟩ := h1
  refine ev_b1 e1 ?_
  rw [t1]
  show (boolsOf (s.map eB)).map _ = _
  rw [bools_enc]; rfl
theorem ordAll_enc {n : Nat} [DE n e] [AE e] (h : n ≤ 59) (s : List α) : ordAll (s.map e) = true := by
  unfold ordAll
  simp only [List.all_eq_true, Bool.and_eq_true]
  intro x hx
  obtain ⟨i, _, rfl⟩ := List.mem_map.mp hx
  refine ⟨⟨DE.okD h i, by rw [AE.nn]; rfl⟩, fun y hy => ?_⟩
  obtain ⟨j, _, rfl⟩ := List.mem_map.mp hy
  exact AE.al i j
theorem foldl_enc (F : D → D → D) (F' : α → α → α) (h : ∀ a b, F (e a) (e b) = e (F' a b)) : ∀ (s : List α) (x : α), (s.map e).foldl F (e x) = e (s.foldl F' x)
  | [], x => rfl
  | y :: s, x => by rw [List.map_cons, List.foldl_cons, List.foldl_cons, h, foldl_enc F F' h s]
theorem mx_enc {s : List α} {r x : α} {t : List α} (hs : s = x :: t) (h : mxO e s = some r) : PySem.W.maxD (e x) (t.map e) = e r := by
  subst hs
  simp only [mxO] at h
  cases h
  unfold PySem.W.maxD
  refine foldl_enc _ (fun a y => if ltE e a y then y else a) (fun a b => ?_) t x
  unfold ltE
  split <;> rfl
theorem mn_enc {s : List α} {r x : α} {t : List α} (hs : s = x :: t) (h : mnO e s = some r) : PySem.W.minD (e x) (t.map e) = e r := by
  subst hs
  simp only [mnO] at h
  cases h
  unfold PySem.W.minD
  refine foldl_enc _ (fun a y => if ltE e y a then y else a) (fun a b => ?_) t x
  unfold ltE
  split <;> rfl
theorem q_maxL {n : Nat} [DE n e] [AE e] {s : List α} {r : α} (h1 : jD G Φ ρ a (eL e s)) (h : mxO e s = some r) (hn : n ≤ 59 := by decide) : jV G Φ ρ (.b1 .max a) (e r) := by
  obtain ⟨r1, e1, t1⟩ := h1
  refine ev_b1 e1 ?_
  rw [t1]
  cases s with
  | nil => cases h
  | cons x t =>
    show (if ordAll ((x :: t).map e) then some (R.d (PySem.W.maxD (e x) (t.map e))) else none) = _
    rw [ordAll_enc hn, if_pos rfl, mx_enc rfl h]
theorem q_maxT {n : Nat} [DE n e] [AE e] {s : List α} {r : α} (h1 : jV G Φ ρ a (eT e s)) (h : mxO e s = some r) (hn : n ≤ 59 := by decide) : jV G Φ ρ (.b1 .max a) (e r) := by
  refine ev_b1 h1 ?_
  cases s with
  | nil => cases h
  | cons x t =>
    show (if ordAll ((x :: t).map e) then some (R.d (PySem.W.maxD (e x) (t.map e))) else none) = _
    rw [ordAll_enc hn, if_pos rfl, mx_enc rfl h]
theorem q_minL {n : Nat} [DE n e] [AE e] {s : List α} {r : α} (h1 : jD G Φ ρ a (eL e s)) (h : mnO e s = some r) (hn : n ≤ 59 := by decide) : jV G Φ ρ (.b1 .min a) (e r) := by
  obtain ⟨r1, e1, t1⟩ := h1
  refine ev_b1 e1 ?_
  rw [t1]
  cases s with
  | nil => cases h
  | cons x t =>
    show (if ordAll ((x :: t).map e) then some (R.d (PySem.W.minD (e x) (t.map e))) else none) = _
    rw [ordAll_enc hn, if_pos rfl, mn_enc rfl h]
theorem q_minT {n : Nat} [DE n e] [AE e] {s : List α} {r : α} (h1 : jV G Φ ρ a (eT e s)) (h : mnO e s = some r) (hn : n ≤ 59 := by decide) : jV G Φ ρ (.b1 .min a) (e r) := by
  refine ev_b1 h1 ?_
  cases s with
  | nil => cases h
  | cons x t =>
    show (if ordAll ((x :: t).map e) then some (R.d (PySem.W.minD (e x) (t.map e))) else none) = _
    rw [ordAll_enc hn, if_pos rfl, mn_enc rfl h]
/-- what is sorted, turned to a set, walked -/
def jK (G : Gt) (Φ : Phi) (ρ : List Sl) (a : E) (xs : List D) : Prop := ∃ r, ev G Φ a false ρ = some r ∧ itemsD r.toD = some xs
theorem KL {s : List α} (h : jD G Φ ρ a (eL e s)) : jK G Φ ρ a (s.map e) := by
  obtain ⟨r, e1, t⟩ := h
  exact ⟨r, e1, by rw [t]; rfl⟩
theorem KT {s : List α} (h : jV G Φ ρ a (eT e s)) : jK G Φ ρ a (s.map e) := ⟨_, h, rfl⟩
theorem KS (h : jV G Φ ρ a (eS l)) : jK G Φ ρ a ((chs l).map eS) := ⟨_, h, by
  rw [chs_map]
  show some ((cs (mkS l)).map fun c => PyData.str (mkS [c])) = _
  rw [cs_mkS]⟩
theorem sortD_enc (s : List α) : sortD (s.map e) = (sortE e s).map e := by
  rw [sortD]
  exact (List.map_mergeSort (f := e) (r := fun a b => !ltE e b a) (s := fun a b => !PySem.W.dataLt b a) fun a _ b _ => rfl).symm
theorem q_so {n : Nat} [DE n e] [AE e] {s r : List α} (h1 : jK G Φ ρ a (s.map e)) (h : soO e s = some r) (hn : n ≤ 59 := by decide) : jF G Φ ρ (.b1 .sorted a) (r.map e) := by
  obtain ⟨r1, e1, t1⟩ := h1
  refine ev_b1 e1 ?_
  rw [so_eq t1]
  simp only [sortB, t1, Option.bind_some]
  unfold soO at h
  split at h
  · rename_i hz
    cases h
    rw [Bool.and_eq_true] at hz
    rw [ordAll_enc hn, hz.1, List.length_map, hz.2, sortD_enc]
    rfl
  · cases h
theorem dedD_enc [DecidableEq α] [VE e] (s : List α) : dedD (s.map e) = (ded s).map e := dedD_map e VE.eqv s
theorem q_ss [DecidableEq α] [VE e] {s r : List α} (h1 : jK G Φ ρ a (s.map e)) (h : ssO e s = some r) : jF G Φ ρ (.b1 .sset a) (r.map e) := by
  obtain ⟨r1, e1, t1⟩ := h1
  refine ev_b1 e1 ?_
  simp only [b1D, t1, Option.bind_some]
  unfold ssO at h
  split at h
  · rename_i hz
    cases h
    rw [if_pos hz, dedD_enc, sortD_enc]
  · cases h
theorem q_mn2S {x y : List Nat} (h1 : jV G Φ ρ a (eS x)) (h2 : jV G Φ ρ b (eS y)) : jV G Φ ρ (.b2 .min2 a b) (eS (if decide (y < x) = true then y else x)) := by
  refine ev_b2 h1 h2 ?_
  show some (R.d (.str (if decide (cs (mkS y) < cs (mkS x)) = true then mkS y else mkS x))) = _
  rw [cs_mkS, cs_mkS]
  split <;> rfl
theorem q_ls [DecidableEq α] [VE e] {s : List α} (h1 : jK G Φ ρ a (s.map e)) (h : lsO e s = some u) : jV G Φ ρ (.b1 .lset a) (eI u) := by
  obtain ⟨r1, e1, t1⟩ := h1
  refine ev_b1 e1 ?_
  simp only [b1D, t1, Option.bind_some]
  unfold lsO at h
  split at h
  · rename_i hz
    cases h
    rw [if_pos hz, dedD_enc, List.length_map]; rfl
  · rename_i hz
    split at h
    · rename_i hu
      cases h
      rw [if_neg hz, if_pos hu, dedD_enc, List.length_map]; rfl
    · cases h
theorem q_mx2 (h1 : jV G Φ ρ a (eI u)) (h2 : jV G Φ ρ b (eI v)) : jV G Φ ρ (.b2 .max2 a b) (eI (max u v)) := by
  refine ev_b2 h1 h2 ?_
  show some (R.d (.int (if v > u then v else u))) = _
  congr 3
  show _ = max u v
  omega
theorem q_mn2 (h1 : jV G Φ ρ a (eI u)) (h2 : jV G Φ ρ b (eI v)) : jV G Φ ρ (.b2 .min2 a b) (eI (min u v)) := by
  refine ev_b2 h1 h2 ?_
  show some (R.d (.int (if v < u then v else u))) = _
  congr 3
  show _ = min u v
  omega
theorem q_gcd (h1 : jV G Φ ρ a (eI u)) (h2 : jV G Φ ρ b (eI v)) : jV G Φ ρ (.b2 .gcd a b) (eI (Nat.gcd u.natAbs v.natAbs)) := ev_b2 h1 h2 rfl
theorem q_isi {t : Ty} (h1 : jD G Φ ρ a d) (h : isiD t d = p) : jV G Φ ρ (.isi a t) (eB p) := by
  obtain ⟨r1, e1, t1⟩ := h1
  exact ev_isi e1 (by rw [t1]; exact h)
theorem q_jnL {s : List (List Nat)} {r : List Nat} (h1 : jV G Φ ρ a (eS l)) (h2 : jD G Φ ρ b (eL eS s)) (h : jnO l s = some r) : jV G Φ ρ (.m1 .join a b) (eS r) := by
  obtain ⟨r1, e1, t1⟩ := h2
  refine ev_m1 h1 e1 ?_
  unfold jnO at h
  split at h
  · rename_i hz
    cases h
    rw [t1]
    show ((strsOf (s.map eS)).bind fun ls => if szOk ((ls.map List.length).sum + (mkS l).length * ls.length) then some (R.d (.str (mkS (joinL (cs (mkS l)) ls)))) else none) = _
    rw [strs_enc, Option.bind_some, len_mkS, if_pos hz, cs_mkS]; rfl
  · cases h
theorem q_jnT {s : List (List Nat)} {r : List Nat} (h1 : jV G Φ ρ a (eS l)) (h2 : jV G Φ ρ b (eT eS s)) (h : jnO l s = some r) : jV G Φ ρ (.m1 .join a b) (eS r) := by
  refine ev_m1 h1 h2 ?_
  unfold jnO at h
  split at h
  · rename_i hz
    cases h
    show ((strsOf (s.map eS)).bind fun ls => if szOk ((ls.map List.length).sum + (mkS l).length * ls.length) then some (R.d (.str (mkS (joinL (cs (mkS l)) ls)))) else none) = _
    rw [strs_enc, Option.bind_some, len_mkS, if_pos hz, cs_mkS]; rfl
  · cases h
theorem q_sw (h1 : jV G Φ ρ a (eS l)) (h2 : jV G Φ ρ b (eS l')) : jV G Φ ρ (.m1 .startswith a b) (eB (prefL l' l)) := ev_m1 h1 h2 rfl
theorem q_ew (h1 : jV G Φ ρ a (eS l)) (h2 : jV G Φ ρ b (eS l')) : jV G Φ ρ (.m1 .endswith a b) (eB (endB l l')) := ev_m1 h1 h2 rfl
theorem q_ix [DecidableEq α] {n : Nat} [DE n e] [VE e] {s : List α} {t : α} (h1 : jD G Φ ρ a (eL e s)) (h2 : jD G Φ ρ b (e t)) (h : ixO s t = some u) (hn : n ≤ 59 := by decide) : jV G Φ ρ (.m1 .index a b) (eI u) := by
  obtain ⟨r1, e1, t1⟩ := h1
  obtain ⟨r2, e2, t2⟩ := h2
  refine ev_m1 e1 e2 ?_
  rw [t1, t2]
  show (if okD (.list (s.map e)) && okD (e t) then (findD (e t) (s.map e)).map fun (k : Nat) => R.d (.int (k : Int)) else none) = _
  rw [okD_lst, DE.ok59 hn, DE.okD hn t, Bool.and_self, if_pos rfl]
  unfold findD PySem.SeqAt.dataPlace
  unfold ixO at h
  obtain ⟨k, hk, rfl⟩ := Option.map_eq_some_iff.mp h
  rw [List.findIdx?_map]
  have : ((fun y => PyData.eqv y (e t)) ∘ e) = fun x => decide (x = t) := by
    funext x; exact VE.eqv x t
  rw [this, hk]; rfl
theorem q_tc {x y : List Nat} (h1 : jV G Φ ρ a (eS x)) (h2 : jV G Φ ρ b (eS y)) (h : tcO x y = some u) : jV G Φ ρ (.m1 .tcount a b) (eI u) := by
  refine ev_m1 h1 h2 ?_
  cases y with
  | nil => cases h
  | cons c r =>
    cases r with
    | nil => cases h; rfl
    | cons d r => cases h
theorem q_ti {x y : List Nat} (h1 : jV G Φ ρ a (eS x)) (h2 : jV G Φ ρ b (eS y)) (h : tiO x y = some u) : jV G Φ ρ (.m1 .tindex a b) (eI u) := by
  refine ev_m1 h1 h2 ?_
  cases y with
  | nil => cases h
  | cons c r =>
    cases r with
    | nil =>
      have h : (if c ∈ x then some ((x.idxOf c : Nat) : Int) else none) = some u := h
      split at h
      · rename_i hc
        cases h
        show (if c ∈ cs (mkS x) then _ else _) = _
        rw [if_pos (by rw [cs_mkS]; exact hc)]
        rfl
      · cases h
    | cons d r => cases h
theorem q_ct [DecidableEq α] {n : Nat} [DE n e] [VE e] {s : List α} {t : α} (h1 : jD G Φ ρ a (eL e s)) (h2 : jD G Φ ρ b (e t)) (hn : n ≤ 59 := by decide) : jV G Φ ρ (.m1 .count a b) (eI (ctF s t)) := by
  obtain ⟨r1, e1, t1⟩ := h1
  obtain ⟨r2, e2, t2⟩ := h2
  refine ev_m1 e1 e2 ?_
  rw [t1, t2]
  show (if okD (.list (s.map e)) && okD (e t) then some (R.d (.int ((s.map e).countP fun z => PyData.eqv z (e t) : Nat))) else none) = _
  rw [okD_lst, DE.ok59 hn, DE.okD hn t, Bool.and_self, if_pos rfl, List.countP_map]
  have : ((fun y => PyData.eqv y (e t)) ∘ e) = fun x => decide (x = t) := by
    funext x; exact VE.eqv x t
  rw [this]; rfl
end
end WM

/-! ## part V: comprehensions and statements on typed things -/
namespace WM
open PySem PySem.Spec PyProof.Rows L2
section
variable {G : Gt} {Φ : Phi} {W : Nat} {ρ ρ0 ρ' : List Sl}
variable {α β γ δ σ : Type} {e : α → D} {f : β → D} {g : γ → D} {a b c x y z : E} {es ifs : Es} {d d' : D} {xs ys : List D} {i j : Nat} {u v w : Int} {l l' : List Nat} {p q m : Bool} {t t2 : Tg} {it it2 : It} {own : List (Str × Nat)}
/-! what is walked -/
theorem i_B (h : jB G Φ ρ (.var i) xs) : jI G Φ ρ (.e (.var i)) xs := it_e h rfl
theorem i_F (h : jF G Φ ρ a xs) : jI G Φ ρ (.e a) xs := it_e h rfl
theorem i_T {s : List α} (h : jV G Φ ρ a (eT e s)) : jI G Φ ρ (.e a) (s.map e) := it_e h rfl
theorem i_L {s : List α} (h : jV G Φ ρ a (eL e s)) : jI G Φ ρ (.e a) (s.map e) := it_e h rfl
theorem i_S (h : jV G Φ ρ a (eS l)) : jI G Φ ρ (.e a) ((chs l).map eS) := it_e h (by
  rw [chs_map]
  show some ((cs (mkS l)).map fun c => PyData.str (mkS [c])) = _
  rw [cs_mkS])
theorem i_rg1 {s : List Int} (h1 : jV G Φ ρ a (eI u)) (h : rg1 u = some s) : jI G Φ ρ (.rg1 a) (s.map eI) := by
  unfold rg1 at h
  split at h
  · rename_i hz
    cases h
    show evIt G Φ (.rg1 a) ρ = _
    simp only [evIt, h1, Option.bind_some, R.toD, eI, hz, if_true]
    unfold rangeL rgF
    rw [List.map_map]
    refine congrArg some (List.map_congr_left fun k _ => ?_)
    show PyData.int (0 + (k : Int)) = PyData.int k
    rw [Int.zero_add]
  · cases h
theorem i_rg2 {s : List Int} (h1 : jV G Φ ρ a (eI u)) (h2 : jV G Φ ρ b (eI v)) (h : rg2 u v = some s) : jI G Φ ρ (.rg2 a b) (s.map eI) := by
  unfold rg2 at h
  split at h
  · rename_i hz
    cases h
    show evIt G Φ (.rg2 a b) ρ = _
    simp only [evIt, h1, h2, Option.bind_some, R.toD, eI, hz, if_true]
    unfold rangeL rgF2
    rw [List.map_map]
    rfl
  · cases h
theorem i_rg3 {s : List Int} (h1 : jV G Φ ρ a (eI u)) (h2 : jV G Φ ρ b (eI v)) (h3 : jV G Φ ρ c (eI w)) (h : rg3 u v w = some s) : jI G Φ ρ (.rg3 a b c) (s.map eI) := by
  unfold rg3 at h
  split at h
  · rename_i hz
    cases h
    show evIt G Φ (.rg3 a b c) ρ = _
    simp only [evIt, h1, h2, h3, Option.bind_some, R.toD, eI, hz, if_true]
    unfold rangeC rgF3
    rw [List.map_map]
    rfl
  · cases h
def jZ (G : Gt) (Φ : Phi) (ρ : List Sl) (a : E) (xs : List D) : Prop := ∃ r, ev G Φ a false ρ = some r ∧ itL a r = some xs
theorem ZB (h : jB G Φ ρ (.var i) xs) : jZ G Φ ρ (.var i) xs := ⟨_, h, rfl⟩
theorem ZF (h : jF G Φ ρ a xs) : jZ G Φ ρ a xs := ⟨_, h, rfl⟩
theorem ZL {s : List α} (h : jV G Φ ρ a (eL e s)) : jZ G Φ ρ a (s.map e) := ⟨_, h, rfl⟩
theorem pairL_enc : ∀ (s : List α) (t : List β), pairL (s.map e) (t.map f) = (s.zip t).map (eP e f)
  | [], _ => by simp [pairL]
  | _ :: _, [] => by simp [pairL]
  | a :: s, b :: t => by rw [List.map_cons, List.map_cons, pairL, pairL_enc s t]; rfl
theorem i_zpL {s : List α} {t : List β} (h1 : jZ G Φ ρ a (s.map e)) (h2 : jZ G Φ ρ b (t.map f)) : jI G Φ ρ (.zp a b) ((s.zip t).map (eP e f)) := by
  obtain ⟨r1, e1, t1⟩ := h1
  obtain ⟨r2, e2, t2⟩ := h2
  show evIt G Φ (.zp a b) ρ = _
  simp only [evIt, e1, e2, Option.bind_some]
  have : zipB a r1 b r2 = (itL a r1).bind fun xs => (itL b r2).map fun ys => pairL xs ys := by
    cases r1 with
    | d y =>
      cases y with
      | list ys => rfl
      | _ => cases t1
    | f ys => rfl
    | b ys => rfl
    | fd ys => cases t1
    | bd ys => cases t1
  rw [this, t1, t2, Option.bind_some, Option.map_some, pairL_enc]
theorem i_zpT {s : List α} {t : List β} (h1 : jV G Φ ρ a (eT e s)) (h2 : jV G Φ ρ b (eT f t)) : jI G Φ ρ (.zp a b) ((s.zip t).map (eP e f)) := by
  show evIt G Φ (.zp a b) ρ = _
  simp only [evIt, h1, h2, Option.bind_some]
  show some (pairL (s.map e) (t.map f)) = _
  rw [pairL_enc]
theorem i_zpS (h1 : jV G Φ ρ a (eS l)) (h2 : jV G Φ ρ b (eS l')) : jI G Φ ρ (.zp a b) (((chs l).zip (chs l')).map (eP eS eS)) := by
  show evIt G Φ (.zp a b) ρ = _
  simp only [evIt, h1, h2, Option.bind_some]
  show some (pairL ((cs (mkS l)).map fun c => .str (mkS [c])) ((cs (mkS l')).map fun c => .str (mkS [c]))) = _
  rw [cs_mkS, cs_mkS, ← chs_map, ← chs_map, pairL_enc]
theorem enumL_enc : ∀ (s : List α) (n : Nat), enumL n (s.map e) = (s.zipIdx n).map fun p => eP eI e ((p.2 : Int), p.1)
  | [], _ => rfl
  | a :: s, n => by rw [List.map_cons, enumL, enumL_enc s, List.zipIdx_cons, List.map_cons]; rfl
theorem i_en {s : List α} (h1 : jZ G Φ ρ a (s.map e)) : jI G Φ ρ (.en a) ((enF s).map (eP eI e)) := by
  obtain ⟨r1, e1, t1⟩ := h1
  show evIt G Φ (.en a) ρ = _
  simp only [evIt, e1, Option.bind_some, t1, Option.map_some, enumL_enc]
  unfold enF
  rw [List.map_map]; rfl
/-! targets -/
theorem g_nm {s : Sl} (h0 : ρ[i]? = some s) (n : nlk s = true) : asgD (.nm i) d ρ = some (ρ.set i (.va d)) := asgD_va h0 n rfl
theorem g_tp2 {s s' : Sl} {pr : α × β} (h0 : ρ[i]? = some s) (n : nlk s = true) (h1 : (ρ.set i (.va (e pr.1)))[j]? = some s') (n' : nlk s' = true) : asgD (.tp [i, j]) (eP e f pr) ρ = some ((ρ.set i (.va (e pr.1))).set j (.va (f pr.2))) := asgD_tp2 h0 n h1 n'
theorem g_tp3 {k : Nat} {s s' s'' : Sl} {pr : α × β × γ} (h0 : ρ[i]? = some s) (n : nlk s = true) (h1 : (ρ.set i (.va (e pr.1)))[j]? = some s') (n' : nlk s' = true) (h2 : ((ρ.set i (.va (e pr.1))).set j (.va (f pr.2.1)))[k]? = some s'') (n'' : nlk s'' = true) : asgD (.tp [i, j, k]) (eP3 e f g pr) ρ = some (((ρ.set i (.va (e pr.1))).set j (.va (f pr.2.1))).set k (.va (g pr.2.2))) := by
  show setsS ρ [i, j, k] [e pr.1, f pr.2.1, g pr.2.2] = _
  simp only [setsS, setS_nlk h0 n, setS_nlk h1 n', setS_nlk h2 n'', Option.bind_some]
/-! comprehensions -/
theorem cp_go {cc : α → Option Bool} {ff : α → Option β} {P : List Sl → Option Bool} {Q : List Sl → Option R} : ∀ {s : List α} {r : List β},
    (∀ a ∈ s, ∃ ρ1, asgD t (e a) ρ0 = some ρ1 ∧ (∀ b, cc a = some b → P ρ1 = some b) ∧ ∀ b, ff a = some b → ∃ x, Q ρ1 = some x ∧ x.share = some (f b)) → cpGo cc ff s = some r → lcRun t ρ0 P Q (s.map e) = some (r.map f)
  | [], r, _, h => by cases h; rfl
  | a :: s, r, hs, h => by
    obtain ⟨ρ1, h1, h2, h3⟩ := hs a List.mem_cons_self
    simp only [cpGo] at h
    obtain ⟨b, hb, h⟩ := Option.bind_eq_some_iff.mp h
    simp only [List.map_cons, lcRun, h1, h2 b hb, Option.bind_some]
    cases b with
    | true =>
      obtain ⟨y, hy, h⟩ := Option.bind_eq_some_iff.mp h
      obtain ⟨r', hr, rfl⟩ := Option.map_eq_some_iff.mp h
      obtain ⟨x, hx, sx⟩ := h3 y hy
      simp only [hx, sx, Option.bind_some, cp_go (fun b hb => hs b (List.mem_cons_of_mem _ hb)) hr, Option.map_some, List.map_cons]
    | false => exact cp_go (fun b hb => hs b (List.mem_cons_of_mem _ hb)) h
theorem lcO_iff {cc : α → Option Bool} {ff : α → Option β} {s : List α} {r : List β} (h : lcO s cc ff = some r) : szOk s.length = true ∧ cpGo cc ff s = some r := by
  unfold lcO at h
  split at h
  · rename_i hz; exact ⟨hz, h⟩
  · cases h
theorem q_lc {s : List α} {ff : α → Option β} {r : List β} (hi : jI G Φ ρ it (s.map e)) (hw : wipeS ρ (own.map (·.2)) = some ρ0) (h : mapO s ff = some r)
    (hf : ∀ a ∈ s, ∃ ρ1, asgD t (e a) ρ0 = some ρ1 ∧ ∀ b, ff a = some b → jS G Φ ρ1 x (f b)) : jF G Φ ρ (.lc own t it .nil x) (r.map f) := by
  obtain ⟨hz, h⟩ := lcO_iff h
  refine ev_lc hi hw (by rw [List.length_map]; exact of_decide_eq_true hz) (cp_go (fun a ha => ?_) h)
  obtain ⟨ρ1, k1, k2⟩ := hf a ha
  exact ⟨ρ1, k1, fun b hb => (by cases hb; rfl), fun b hb => k2 b hb⟩
theorem q_lcF {s : List α} {cc : α → Option Bool} {ff : α → Option β} {r : List β} (hi : jI G Φ ρ it (s.map e)) (hw : wipeS ρ (own.map (·.2)) = some ρ0) (h : lcO s cc ff = some r)
    (hf : ∀ a ∈ s, ∃ ρ1, asgD t (e a) ρ0 = some ρ1 ∧ (∀ b, cc a = some b → jM G Φ ρ1 true y b) ∧ ∀ b, ff a = some b → jS G Φ ρ1 x (f b)) : jF G Φ ρ (.lc own t it (.cons y .nil) x) (r.map f) := by
  obtain ⟨hz, h⟩ := lcO_iff h
  refine ev_lc hi hw (by rw [List.length_map]; exact of_decide_eq_true hz) (cp_go (fun a ha => ?_) h)
  obtain ⟨ρ1, k1, k3, k2⟩ := hf a ha
  exact ⟨ρ1, k1, fun b hb => by simp only [tvs, k3 b hb, asB], fun b hb => k2 b hb⟩
/-- the inner clause of two -/
theorem q_in {s : List α} {ff : α → Option β} {r : List β} (h : cpGo (fun _ => some true) ff s = some r) (hf : ∀ a ∈ s, ∃ ρ1, asgD t (e a) ρ0 = some ρ1 ∧ ∀ b, ff a = some b → jS G Φ ρ1 x (f b)) :
    lcRun t ρ0 (fun ρ => tvs G Φ .nil ρ) (fun ρ => ev G Φ x false ρ) (s.map e) = some (r.map f) := by
  refine cp_go (fun a ha => ?_) h
  obtain ⟨ρ1, k1, k2⟩ := hf a ha
  exact ⟨ρ1, k1, fun b hb => (by cases hb; rfl), fun b hb => k2 b hb⟩
theorem q_inF {s : List α} {cc : α → Option Bool} {ff : α → Option β} {r : List β} (h : cpGo cc ff s = some r) (hf : ∀ a ∈ s, ∃ ρ1, asgD t (e a) ρ0 = some ρ1 ∧ (∀ b, cc a = some b → jM G Φ ρ1 true y b) ∧ ∀ b, ff a = some b → jS G Φ ρ1 x (f b)) :
    lcRun t ρ0 (fun ρ => tvs G Φ (.cons y .nil) ρ) (fun ρ => ev G Φ x false ρ) (s.map e) = some (r.map f) := by
  refine cp_go (fun a ha => ?_) h
  obtain ⟨ρ1, k1, k3, k2⟩ := hf a ha
  exact ⟨ρ1, k1, fun b hb => by simp only [tvs, k3 b hb, asB], fun b hb => k2 b hb⟩
theorem q_lc2 {s : List α} {ff : α → Option (List β)} {r : List β} (hi : jI G Φ ρ it (s.map e)) (hw : wipeS ρ (own.map (·.2)) = some ρ0) (h : lc2O s ff = some r)
    (hf : ∀ a ∈ s, ∃ ρ1 ρ2, asgD t (e a) ρ0 = some ρ1 ∧ wipeS ρ1 t2.slots = some ρ2 ∧ ∀ zs, ff a = some zs → ∃ ys, evIt G Φ it2 ρ1 = some ys ∧ lcRun t2 ρ2 (fun ρ => tvs G Φ ifs ρ) (fun ρ => ev G Φ x false ρ) ys = some (zs.map f)) :
    jF G Φ ρ (.lc2 own t it t2 it2 ifs x) (r.map f) := by
  unfold lc2O at h
  obtain ⟨zs, hz, h⟩ := Option.bind_eq_some_iff.mp h
  split at h
  · rename_i sz
    cases h
    have go : ∀ {s : List α} {r : List β}, (∀ a ∈ s, ∃ ρ1 ρ2, asgD t (e a) ρ0 = some ρ1 ∧ wipeS ρ1 t2.slots = some ρ2 ∧ ∀ zs, ff a = some zs → ∃ ys, evIt G Φ it2 ρ1 = some ys ∧ lcRun t2 ρ2 (fun ρ => tvs G Φ ifs ρ) (fun ρ => ev G Φ x false ρ) ys = some (zs.map f)) → cp2Go ff s = some r →
        lc2Run t ρ0 (fun ρ => evIt G Φ it2 ρ) t2.slots t2 (fun ρ => tvs G Φ ifs ρ) (fun ρ => ev G Φ x false ρ) (s.map e) = some (r.map f) := by
      intro s
      induction s with
      | nil => intro r _ h; cases h; rfl
      | cons a s ih =>
        intro r hs h
        simp only [cp2Go] at h
        obtain ⟨ys1, h1, h⟩ := Option.bind_eq_some_iff.mp h
        obtain ⟨r', hr, rfl⟩ := Option.map_eq_some_iff.mp h
        obtain ⟨ρ1, ρ2, k1, k2, k3⟩ := hs a List.mem_cons_self
        obtain ⟨ys, k4, k5⟩ := k3 ys1 h1
        simp only [List.map_cons, lc2Run, k1, k2, k4, k5, Option.bind_some, ih (fun b hb => hs b (List.mem_cons_of_mem _ hb)) hr, Option.map_some, List.map_append]
    show ev G Φ (.lc2 own t it t2 it2 ifs x) false ρ = _
    simp only [ev, fin, show evIt G Φ it ρ = _ from hi, hw, Option.bind_some, go hf hz, List.length_map, sz, if_true]
  · cases h
theorem gx_go {stop : Bool} {cc ff : α → Option Bool} {P : List Sl → Option Bool} {Q : List Sl → Option R} : ∀ {s : List α} {r : Bool},
    (∀ a ∈ s, ∃ ρ1, asgD t (e a) ρ0 = some ρ1 ∧ (∀ b, cc a = some b → P ρ1 = some b) ∧ ∀ b, ff a = some b → Q ρ1 = some (.d (.bool b))) → gxO stop cc ff s = some r → gxRun stop t ρ0 P Q (s.map e) = some r
  | [], r, _, h => h
  | a :: s, r, hs, h => by
    obtain ⟨ρ1, h1, h2, h3⟩ := hs a List.mem_cons_self
    simp only [gxO] at h
    obtain ⟨b, hb, h⟩ := Option.bind_eq_some_iff.mp h
    simp only [List.map_cons, gxRun, h1, h2 b hb, Option.bind_some]
    cases b with
    | true =>
      obtain ⟨y, hy, h⟩ := Option.bind_eq_some_iff.mp h
      simp only [h3 y hy, asB, Option.bind_some]
      split at h
      · rename_i z; rw [if_pos z]; exact h
      · rename_i z; rw [if_neg z]; exact gx_go (fun b hb => hs b (List.mem_cons_of_mem _ hb)) h
    | false => exact gx_go (fun b hb => hs b (List.mem_cons_of_mem _ hb)) h
theorem q_gxall {s : List α} {ff : α → Option Bool} {r : Bool} (hi : jI G Φ ρ it (s.map e)) (hw : wipeS ρ (own.map (·.2)) = some ρ0) (h : allO s ff = some r)
    (hf : ∀ a ∈ s, ∃ ρ1, asgD t (e a) ρ0 = some ρ1 ∧ ∀ b, ff a = some b → jM G Φ ρ1 false x b) : jM G Φ ρ m (.gx .all own t it .nil x) r := by
  show ev G Φ _ m ρ = _
  simp only [ev, show evIt G Φ it ρ = _ from hi, hw, Option.bind_some]
  rw [gx_go (fun a ha => ?_) h]
  · cases m <;> rfl
  · obtain ⟨ρ1, k1, k2⟩ := hf a ha
    exact ⟨ρ1, k1, fun b hb => (by cases hb; rfl), fun b hb => k2 b hb⟩
theorem q_gxany {s : List α} {ff : α → Option Bool} {r : Bool} (hi : jI G Φ ρ it (s.map e)) (hw : wipeS ρ (own.map (·.2)) = some ρ0) (h : anyO s ff = some r)
    (hf : ∀ a ∈ s, ∃ ρ1, asgD t (e a) ρ0 = some ρ1 ∧ ∀ b, ff a = some b → jM G Φ ρ1 false x b) : jM G Φ ρ m (.gx .any own t it .nil x) r := by
  show ev G Φ _ m ρ = _
  simp only [ev, show evIt G Φ it ρ = _ from hi, hw, Option.bind_some]
  rw [gx_go (fun a ha => ?_) h]
  · cases m <;> rfl
  · obtain ⟨ρ1, k1, k2⟩ := hf a ha
    exact ⟨ρ1, k1, fun b hb => (by cases hb; rfl), fun b hb => k2 b hb⟩
theorem q_gxallF {s : List α} {cc ff : α → Option Bool} {r : Bool} (hi : jI G Φ ρ it (s.map e)) (hw : wipeS ρ (own.map (·.2)) = some ρ0) (h : gxO false cc ff s = some r)
    (hf : ∀ a ∈ s, ∃ ρ1, asgD t (e a) ρ0 = some ρ1 ∧ (∀ b, cc a = some b → jM G Φ ρ1 true y b) ∧ ∀ b, ff a = some b → jM G Φ ρ1 false x b) : jM G Φ ρ m (.gx .all own t it (.cons y .nil) x) r := by
  show ev G Φ _ m ρ = _
  simp only [ev, show evIt G Φ it ρ = _ from hi, hw, Option.bind_some]
  rw [gx_go (fun a ha => ?_) h]
  · cases m <;> rfl
  · obtain ⟨ρ1, k1, k3, k2⟩ := hf a ha
    exact ⟨ρ1, k1, fun b hb => (by simp only [tvs, k3 b hb, asB]), fun b hb => k2 b hb⟩
theorem q_gxanyF {s : List α} {cc ff : α → Option Bool} {r : Bool} (hi : jI G Φ ρ it (s.map e)) (hw : wipeS ρ (own.map (·.2)) = some ρ0) (h : gxO true cc ff s = some r)
    (hf : ∀ a ∈ s, ∃ ρ1, asgD t (e a) ρ0 = some ρ1 ∧ (∀ b, cc a = some b → jM G Φ ρ1 true y b) ∧ ∀ b, ff a = some b → jM G Φ ρ1 false x b) : jM G Φ ρ m (.gx .any own t it (.cons y .nil) x) r := by
  show ev G Φ _ m ρ = _
  simp only [ev, show evIt G Φ it ρ = _ from hi, hw, Option.bind_some]
  rw [gx_go (fun a ha => ?_) h]
  · cases m <;> rfl
  · obtain ⟨ρ1, k1, k3, k2⟩ := hf a ha
    exact ⟨ρ1, k1, fun b hb => (by simp only [tvs, k3 b hb, asB]), fun b hb => k2 b hb⟩
/-! statements -/
def setO (s : List α) (k : Int) (v : α) : Option (List α) := (ixN s.length k).map fun n => s.set n v
def rmO [DecidableEq α] (s : List α) (v : α) : Option (List α) := if v ∈ s then some (s.erase v) else none
variable {P : Out → Prop} {ss sa sb : Ss}
theorem r_va {s : Sl} (h1 : jV G Φ ρ a d) (h0 : ρ[i]? = some s) (n : nlk s = true) (h : Run G Φ W ss (ρ.set i (.va d)) P) : Run G Φ W (.cons (.asg (.nm i) a) ss) ρ P := run_va h1 h0 n h
theorem r_ow {s : Sl} (h1 : jF G Φ ρ a xs) (h0 : ρ[i]? = some s) (n : nlk s = true) (h : Run G Φ W ss (ρ.set i (.ow xs)) P) : Run G Φ W (.cons (.asg (.nm i) a) ss) ρ P := run_ow h1 h0 n h
theorem r_mov {s : Sl} (hj : ρ[j]? = some (.ow xs)) (ne : decide (i = j) = false) (h0 : ρ[i]? = some s) (n : nlk s = true) (h : Run G Φ W ss ((ρ.set i (.ow xs)).set j .no) P) : Run G Φ W (.cons (.asg (.nm i) (.var j)) ss) ρ P :=
  run_mov hj (of_decide_eq_false ne) (setS_nlk h0 n) h
theorem r_tp {is : List Nat} {ds : List D} (h1 : jV G Φ ρ a (.tuple ds)) (h2 : asgD (.tp is) (.tuple ds) ρ = some ρ') (h : Run G Φ W ss ρ' P) : Run G Φ W (.cons (.asg (.tp is) a) ss) ρ P := run_asg h1 h2 h
theorem r_augA (h0 : ρ[i]? = some (.va (eI u))) (h1 : jV G Φ ρ a (eI v)) (h : Run G Φ W ss (ρ.set i (.va (eI (u + v)))) P) : Run G Φ W (.cons (.aug i .Add a) ss) ρ P := run_aug h0 h1 rfl rfl h
theorem r_augS (h0 : ρ[i]? = some (.va (eI u))) (h1 : jV G Φ ρ a (eI v)) (h : Run G Φ W ss (ρ.set i (.va (eI (u - v)))) P) : Run G Φ W (.cons (.aug i .Sub a) ss) ρ P := run_aug h0 h1 rfl rfl h
theorem r_augA2 {u v w : Int} (h0 : ρ[i]? = some (.va (eI u))) (h1 : jV G Φ ρ a (eI v)) (hw : some (u + v) = some w) (h : Run G Φ W ss (ρ.set i (.va (eI w))) P) : Run G Φ W (.cons (.aug i .Add a) ss) ρ P := by
  cases hw; exact r_augA h0 h1 h
theorem r_augS2 {u v w : Int} (h0 : ρ[i]? = some (.va (eI u))) (h1 : jV G Φ ρ a (eI v)) (hw : some (u - v) = some w) (h : Run G Φ W ss (ρ.set i (.va (eI w))) P) : Run G Φ W (.cons (.aug i .Sub a) ss) ρ P := by
  cases hw; exact r_augS h0 h1 h
theorem r_augM (h0 : ρ[i]? = some (.va (eI u))) (h1 : jV G Φ ρ a (eI v)) (hw : mulO u v = some w) (h : Run G Φ W ss (ρ.set i (.va (eI w))) P) : Run G Φ W (.cons (.aug i .Mult a) ss) ρ P := run_aug h0 h1 (by
  unfold mulO at hw
  split at hw
  · rename_i hz
    cases hw
    show (if intOk u || intOk v then some (PyData.int (u * v)) else none) = _
    rw [if_pos hz]; rfl
  · cases hw) rfl h
theorem r_augT {r : List Nat} (h0 : ρ[i]? = some (.va (eS l))) (h1 : jV G Φ ρ a (eS l')) (hw : adO l l' = some r) (h : Run G Φ W ss (ρ.set i (.va (eS r))) P) : Run G Φ W (.cons (.aug i .Add a) ss) ρ P := by
  unfold adO at hw
  split at hw
  · rename_i hz
    cases hw
    exact run_aug h0 h1 (aug_T (of_decide_eq_true hz)) rfl h
  · cases hw
theorem r_seti {s r : List α} {vv : α} (h0 : ρ[i]? = some (.ow (s.map e))) (h1 : jS G Φ ρ a (e vv)) (h2 : jV G Φ ρ b (eI u)) (hw : setO s u vv = some r) (h : Run G Φ W ss (ρ.set i (.ow (r.map e))) P) : Run G Φ W (.cons (.seti i b a) ss) ρ P := by
  obtain ⟨r1, e1, t1⟩ := h1
  unfold setO at hw
  obtain ⟨n, hn, rfl⟩ := Option.map_eq_some_iff.mp hw
  refine run_step ?_ h
  simp only [ex, e1, t1, h0, show ev G Φ b false ρ = _ from h2, Option.bind_some, R.toD, eI, List.length_map, hn, Option.map_some]
  rw [List.map_set]
theorem r_app {s r : List α} {vv : α} (h0 : ρ[i]? = some (.ow (s.map e))) (h1 : jS G Φ ρ a (e vv)) (hw : apO s vv = some r) (h : Run G Φ W ss (ρ.set i (.ow (r.map e))) P) : Run G Φ W (.cons (.app i a) ss) ρ P := by
  obtain ⟨r1, e1, t1⟩ := h1
  unfold apO at hw
  split at hw
  · rename_i hz
    cases hw
    refine run_app h0 e1 t1 (by rw [List.length_map]; exact of_decide_eq_true hz) rfl ?_
    rw [List.map_append] at h
    exact h
  · cases hw
theorem r_ext {s t r : List α} (h0 : ρ[i]? = some (.ow (s.map e))) (h1 : jS G Φ ρ a (eL e t)) (hw : adO s t = some r) (h : Run G Φ W ss (ρ.set i (.ow (r.map e))) P) : Run G Φ W (.cons (.ext i a) ss) ρ P := by
  obtain ⟨r1, e1, t1⟩ := h1
  unfold adO at hw
  split at hw
  · rename_i hz
    cases hw
    refine run_step ?_ h
    have hz2 : szOk ((s.map e).length + (t.map e).length) = true := by rw [List.length_map, List.length_map]; exact hz
    simp only [ex, h0, e1, t1, Option.bind_some, Option.getD_some, eL, hz2, if_true, List.map_append]
  · cases hw
theorem r_rem [DecidableEq α] {n : Nat} [DE n e] [VE e] {s r : List α} {vv : α} (h0 : ρ[i]? = some (.ow (s.map e))) (h1 : jD G Φ ρ a (e vv)) (hw : rmO s vv = some r) (h : Run G Φ W ss (ρ.set i (.ow (r.map e))) P) (hn : n ≤ 59 := by decide) : Run G Φ W (.cons (.rem i a) ss) ρ P := by
  obtain ⟨r1, e1, t1⟩ := h1
  unfold rmO at hw
  split at hw
  · rename_i hm
    cases hw
    refine run_step ?_ h
    have k : (okD (e vv) && okD (.list (s.map e))) = true := by rw [DE.okD hn vv, okD_lst, DE.ok59 hn]; rfl
    have hf : findD (e vv) (s.map e) = some (s.idxOf vv) := by
      unfold findD PySem.SeqAt.dataPlace
      rw [List.findIdx?_map]
      have : ((fun y => PyData.eqv y (e vv)) ∘ e) = fun a => a == vv := by
        funext a
        show PyData.eqv (e a) (e vv) = _
        rw [VE.eqv]
        exact Bool.eq_iff_iff.mpr (by simp)
      rw [this, List.findIdx?_eq_some_iff_findIdx_eq]
      exact ⟨List.idxOf_lt_length_iff.mpr hm, rfl⟩
    have e2 : (s.map e).eraseIdx (s.idxOf vv) = (s.erase vv).map e := by
      rw [eraseIdx_map', List.erase_eq_eraseIdx_of_idxOf rfl]
    simp only [ex, h0, e1, Option.bind_some, t1, k, if_true, hf, Option.map_some, e2]
  · cases hw
theorem r_ite {X Y : Option α} {vv : α} (hc : jM G Φ ρ true c p) (h : (if p = true then X else Y) = some vv) (h1 : X = some vv → Run G Φ W sa ρ (Then G Φ W ss P)) (h2 : Y = some vv → Run G Φ W sb ρ (Then G Φ W ss P)) : Run G Φ W (.cons (.ite c sa sb) ss) ρ P := by
  cases p with
  | true => exact run_ite hc (fun _ => h1 h) fun z => by cases z
  | false => exact run_ite hc (fun z => by cases z) fun _ => h2 h
@[reducible] def JoP (J : List Sl → Prop) : Out → Prop
  | .next ρ => J ρ
  | _ => False
theorem run_joi {s : S} (J : List Sl → Prop) (h1 : Run G Φ W (.cons s .nil) ρ (JoP J)) (h2 : ∀ ρ', J ρ' → Run G Φ W ss ρ' P) : Run G Φ W (.cons s ss) ρ P := by
  refine run_mid J ?_ h2
  obtain ⟨o, k1, k2⟩ := h1
  refine ⟨o, k1, ?_⟩
  cases o with
  | next ρ' => exact ⟨ρ', rfl, k2⟩
  | _ => exact k2.elim
/-- both ways come together -/
theorem r_iteJ {X Y : Option α} {vv : α} (J : List Sl → Prop) (hc : jM G Φ ρ true c p) (h : (if p = true then X else Y) = some vv) (h1 : X = some vv → Run G Φ W sa ρ (JoP J)) (h2 : Y = some vv → Run G Φ W sb ρ (JoP J)) (hn : ∀ ρ', J ρ' → Run G Φ W ss ρ' P) : Run G Φ W (.cons (.ite c sa sb) ss) ρ P := by
  refine run_joi J (r_ite hc h (fun z => ?_) fun z => ?_) hn
  · obtain ⟨o, k1, k2⟩ := h1 z
    refine ⟨o, k1, ?_⟩
    cases o with
    | next ρ' => exact run_nil k2
    | _ => exact k2.elim
  · obtain ⟨o, k1, k2⟩ := h2 z
    refine ⟨o, k1, ?_⟩
    cases o with
    | next ρ' => exact run_nil k2
    | _ => exact k2.elim
@[reducible] def FoP (I : σ → List Sl → Prop) (s : σ) : Out → Prop
  | .next ρ => I s ρ
  | .cnt ρ => I s ρ
  | _ => False
theorem r_fold {s : List α} {s0 s1 : σ} {fn : α → σ → Option σ} (I : σ → List Sl → Prop) (hi : jI G Φ ρ it (s.map e)) (hF : foldO s s0 fn = some s1) (h0 : I s0 (lockS it.locks ρ))
    (hs : ∀ a ∈ s, ∀ x y ρ1, I x ρ1 → fn a x = some y → ∃ ρ2, asgD t (e a) ρ1 = some ρ2 ∧ Run G Φ W sa ρ2 (FoP I y)) (hn : ∀ ρ1, I s1 ρ1 → Run G Φ W ss (unlockS (unl it ρ) ρ1) P) : Run G Φ W (.cons (.loop t it sa) ss) ρ P := by
  refine run_loop hi ?_
  have go : ∀ {s : List α} {s0 : σ} {ρ : List Sl}, (∀ a ∈ s, ∀ x y ρ1, I x ρ1 → fn a x = some y → ∃ ρ2, asgD t (e a) ρ1 = some ρ2 ∧ Run G Φ W sa ρ2 (FoP I y)) → I s0 ρ → foldO s s0 fn = some s1 → ∃ ρ', forRun (fun x ρ => (asgD t x ρ).bind fun ρ' => exs G Φ W sa ρ') (s.map e) ρ = some (.next ρ') ∧ I s1 ρ' := by
    intro s
    induction s with
    | nil => intro s0 ρ _ h0 h; cases h; exact ⟨ρ, rfl, h0⟩
    | cons a s ih =>
      intro s0 ρ hs h0 h
      simp only [foldO] at h
      obtain ⟨y, hy, h⟩ := Option.bind_eq_some_iff.mp h
      obtain ⟨ρ2, k1, o, k2, k3⟩ := hs a List.mem_cons_self s0 y ρ h0 hy
      have ih := fun ρ' (i : I y ρ') => ih (ρ := ρ') (fun b hb => hs b (List.mem_cons_of_mem _ hb)) i h
      cases o with
      | next ρ' =>
        obtain ⟨ρ'', e1, e2⟩ := ih ρ' k3
        exact ⟨ρ'', by simp only [List.map_cons, forRun, k1, k2, Option.bind_some]; exact e1, e2⟩
      | cnt ρ' =>
        obtain ⟨ρ'', e1, e2⟩ := ih ρ' k3
        exact ⟨ρ'', by simp only [List.map_cons, forRun, k1, k2, Option.bind_some]; exact e1, e2⟩
      | brk _ => exact k3.elim
      | ret _ => exact k3.elim
  obtain ⟨ρ', e1, e2⟩ := go hs h0 hF
  exact ⟨_, e1, hn ρ' e2⟩
@[reducible] def BodyP (I : σ → List Sl → Prop) (Q : β → R → Prop) (c : Ctl σ β) : Out → Prop
  | .next ρ => match c with | .nx s => I s ρ | _ => False
  | .cnt ρ => match c with | .nx s => I s ρ | _ => False
  | .brk ρ => match c with | .br s => I s ρ | _ => False
  | .ret r => match c with | .rt b => Q b r | _ => False
theorem r_loop {s : List α} {s0 : σ} {fn : α → σ → Option (Ctl σ β)} {cc : Ctl σ β} {kr : β → Option γ} {kn : σ → Option γ} {vv : γ} (I : σ → List Sl → Prop) (Q : β → R → Prop) (hi : jI G Φ ρ it (s.map e)) (hF : loopO s s0 fn = some cc) (hg : cc.go kr kn = some vv) (h0 : I s0 (lockS it.locks ρ))
    (hs : ∀ a ∈ s, ∀ x y ρ1, I x ρ1 → fn a x = some y → ∃ ρ2, asgD t (e a) ρ1 = some ρ2 ∧ Run G Φ W sa ρ2 (BodyP I Q y)) (hr : ∀ b r, kr b = some vv → Q b r → P (.ret r)) (hn : ∀ x ρ1, kn x = some vv → I x ρ1 → Run G Φ W ss (unlockS (unl it ρ) ρ1) P) : Run G Φ W (.cons (.loop t it sa) ss) ρ P := by
  refine run_loop hi ?_
  have go : ∀ {s : List α} {s0 : σ} {ρ : List Sl}, (∀ a ∈ s, ∀ x y ρ1, I x ρ1 → fn a x = some y → ∃ ρ2, asgD t (e a) ρ1 = some ρ2 ∧ Run G Φ W sa ρ2 (BodyP I Q y)) → I s0 ρ → loopO s s0 fn = some cc → ∃ o, forRun (fun x ρ => (asgD t x ρ).bind fun ρ' => exs G Φ W sa ρ') (s.map e) ρ = some o ∧ match o with | .next ρ' => ∃ x, cc = .nx x ∧ I x ρ' | .ret r => ∃ b, cc = .rt b ∧ Q b r | _ => False := by
    intro s
    induction s with
    | nil => intro s0 ρ _ h0 h; cases h; exact ⟨.next ρ, rfl, s0, rfl, h0⟩
    | cons a s ih =>
      intro s0 ρ hs h0 h
      simp only [loopO] at h
      obtain ⟨y, hy, h⟩ := Option.bind_eq_some_iff.mp h
      obtain ⟨ρ2, k1, o, k2, k3⟩ := hs a List.mem_cons_self s0 y ρ h0 hy
      have ih := fun x ρ' (i : I x ρ') h => ih (s0 := x) (ρ := ρ') (fun b hb => hs b (List.mem_cons_of_mem _ hb)) i h
      cases o with
      | next ρ' =>
        cases y with
        | nx x =>
          obtain ⟨o, e1, e2⟩ := ih x ρ' k3 h
          exact ⟨o, by simp only [List.map_cons, forRun, k1, k2, Option.bind_some]; exact e1, e2⟩
        | _ => exact k3.elim
      | cnt ρ' =>
        cases y with
        | nx x =>
          obtain ⟨o, e1, e2⟩ := ih x ρ' k3 h
          exact ⟨o, by simp only [List.map_cons, forRun, k1, k2, Option.bind_some]; exact e1, e2⟩
        | _ => exact k3.elim
      | brk ρ' =>
        cases y with
        | br x =>
          cases h
          exact ⟨.next ρ', by simp only [List.map_cons, forRun, k1, k2, Option.bind_some], x, rfl, k3⟩
        | _ => exact k3.elim
      | ret r =>
        cases y with
        | rt b =>
          cases h
          exact ⟨.ret r, by simp only [List.map_cons, forRun, k1, k2, Option.bind_some], b, rfl, k3⟩
        | _ => exact k3.elim
  obtain ⟨o, e1, e2⟩ := go hs h0 hF
  cases o with
  | next ρ' =>
    obtain ⟨x, rfl, i⟩ := e2
    exact ⟨_, e1, hn x ρ' hg i⟩
  | ret r =>
    obtain ⟨b, rfl, i⟩ := e2
    exact ⟨_, e1, hr b r hg i⟩
  | brk _ => exact e2.elim
  | cnt _ => exact e2.elim
theorem r_whl {s0 : σ} {ct : σ → Option Bool} {fn : σ → Option (Ctl σ β)} {cc : Ctl σ β} {kr : β → Option γ} {kn : σ → Option γ} {vv : γ} (I : σ → List Sl → Prop) (Q : β → R → Prop) (hF : whlO W s0 ct fn = some cc) (hg : cc.go kr kn = some vv) (h0 : I s0 ρ)
    (ht : ∀ x b ρ1, I x ρ1 → ct x = some b → jM G Φ ρ1 true c b) (hs : ∀ x y ρ1, I x ρ1 → fn x = some y → Run G Φ W sa ρ1 (BodyP I Q y)) (hr : ∀ b r, kr b = some vv → Q b r → P (.ret r)) (hn : ∀ x ρ1, kn x = some vv → I x ρ1 → Run G Φ W ss ρ1 P) : Run G Φ W (.cons (.whl c sa) ss) ρ P := by
  have go : ∀ (n : Nat) {s0 : σ} {ρ : List Sl}, I s0 ρ → whlO n s0 ct fn = some cc → ∃ o, whlRun (fun ρ => tv G Φ c ρ) (fun ρ => exs G Φ W sa ρ) n ρ = some o ∧ match o with | .next ρ' => ∃ x, cc = .nx x ∧ I x ρ' | .ret r => ∃ b, cc = .rt b ∧ Q b r | _ => False := by
    intro n
    induction n with
    | zero => intro s0 ρ _ h; cases h
    | succ n ih =>
      intro s0 ρ h0 h
      simp only [whlO] at h
      obtain ⟨b, hb, h⟩ := Option.bind_eq_some_iff.mp h
      have hb := tv_of (ht s0 b ρ h0 hb)
      cases b with
      | false =>
        cases h
        exact ⟨.next ρ, by simp only [whlRun, hb, Option.bind_some], s0, rfl, h0⟩
      | true =>
        obtain ⟨y, hy, h⟩ := Option.bind_eq_some_iff.mp h
        obtain ⟨o, k2, k3⟩ := hs s0 y ρ h0 hy
        cases o with
        | next ρ' =>
          cases y with
          | nx x =>
            obtain ⟨o, e1, e2⟩ := ih k3 h
            exact ⟨o, by simp only [whlRun, hb, k2, Option.bind_some]; exact e1, e2⟩
          | _ => exact k3.elim
        | cnt ρ' =>
          cases y with
          | nx x =>
            obtain ⟨o, e1, e2⟩ := ih k3 h
            exact ⟨o, by simp only [whlRun, hb, k2, Option.bind_some]; exact e1, e2⟩
          | _ => exact k3.elim
        | brk ρ' =>
          cases y with
          | br x =>
            cases h
            exact ⟨.next ρ', by simp only [whlRun, hb, k2, Option.bind_some], x, rfl, k3⟩
          | _ => exact k3.elim
        | ret r =>
          cases y with
          | rt b =>
            cases h
            exact ⟨.ret r, by simp only [whlRun, hb, k2, Option.bind_some], b, rfl, k3⟩
          | _ => exact k3.elim
  obtain ⟨o, e1, e2⟩ := go W h0 hF
  cases o with
  | next ρ' =>
    obtain ⟨x, rfl, i⟩ := e2
    exact run_step (ρ' := ρ') (by simp only [ex]; exact e1) (hn x ρ' hg i)
  | ret r =>
    obtain ⟨b, rfl, i⟩ := e2
    exact ⟨.ret r, by simp only [exs, ex, e1, Option.bind_some], hr b r hg i⟩
  | brk _ => exact e2.elim
  | cnt _ => exact e2.elim
theorem r_retV (h1 : jV G Φ ρ a d) (h : P (.ret (.d d))) : Run G Φ W (.cons (.ret a) ss) ρ P := run_ret h1 rfl h
theorem r_retF (h1 : jF G Φ ρ a xs) (h : P (.ret (.f xs))) : Run G Φ W (.cons (.ret a) ss) ρ P := run_ret h1 rfl h
theorem r_retB (h1 : ρ[i]? = some (.ow xs)) (h : P (.ret (.f xs))) : Run G Φ W (.cons (.ret (.var i)) ss) ρ P := run_ret (ev_ow h1) (by simp only [retR, h1]) h
theorem bd {α β : Type} {x : Option α} {k : α → Option β} {v : β} (h : x.bind k = some v) : ∃ a, x = some a ∧ k a = some v := Option.bind_eq_some_iff.mp h
end
end WM
namespace WM
open PySem PySem.Spec PyProof.Rows L2
section
variable {G : Gt} {Φ : Phi} {W : Nat} {ρ ρ0 ρ' : List Sl} {α β γ δ : Type} {e : α → D} {f : β → D} {g : γ → D} {h' : δ → D} {a b c x y z : E} {xs ys : List D} {i j k : Nat}
theorem cO {v : α} (h : jV G Φ ρ a (e v)) : jV G Φ ρ a (eO e (some v)) := h
theorem cN (h : jV G Φ ρ a .none) : jV G Φ ρ a (eO e none) := h
theorem cU {o : Option α} {v : α} (h : jV G Φ ρ a (eO e o)) (hv : o = some v) : jV G Φ ρ a (e v) := by subst hv; exact h
theorem cE {t v : α} (h : jV G Φ ρ a (e t)) (hv : some t = some v) : jV G Φ ρ a (e v) := by cases hv; exact h
theorem cEF {t v : List α} (h : jF G Φ ρ a (t.map e)) (hv : some t = some v) : jF G Φ ρ a (v.map e) := by cases hv; exact h
theorem DFt {s : List α} (h : jF G Φ ρ a (s.map e)) : jD G Φ ρ a (eL e s) := DF h
theorem DBt {s : List α} (h : jB G Φ ρ a (s.map e)) : jD G Φ ρ a (eL e s) := DB h
theorem SFt {s : List α} (h : jF G Φ ρ a (s.map e)) : jS G Φ ρ a (eL e s) := SF h
theorem mkT {s : List α} {ds : List D} (h : jV G Φ ρ a (.tuple ds)) (hd : s.map e = ds) : jV G Φ ρ a (eT e s) := by subst hd; exact h
theorem mkL {s : List α} {ds : List D} (h : jF G Φ ρ a ds) (hd : s.map e = ds) : jF G Φ ρ a (s.map e) := by subst hd; exact h
theorem mkP2 {v : α} {w : β} (h : jV G Φ ρ a (.tuple [e v, f w])) : jV G Φ ρ a (eP e f (v, w)) := h
theorem mkP3 {v : α} {w : β} {u : γ} (h : jV G Φ ρ a (.tuple [e v, f w, g u])) : jV G Φ ρ a (eP3 e f g (v, w, u)) := h
theorem mkP4 {v : α} {w : β} {u : γ} {t : δ} (h : jV G Φ ρ a (.tuple [e v, f w, g u, h' t])) : jV G Φ ρ a (eP4 e f g h' (v, w, u, t)) := h
theorem wipe_thr {s s' s'' : Sl} (hk : ρ[k]? = some s'') (pk : plainSl (some s'') = true) (hj : (ρ.set k .no)[j]? = some s') (pj : plainSl (some s') = true) (hi : ((ρ.set k .no).set j .no)[i]? = some s) (pi : plainSl (some s) = true) : wipeS ρ [i, j, k] = some (((ρ.set k .no).set j .no).set i .no) := by
  simp only [wipeS, Option.bind_some, hk, pk, hj, pj, hi, pi, if_true]
variable {P : Out → Prop} {ss : Ss}
theorem r_retBk (h1 : ρ[i]? = some (.lk xs)) (h : P (.ret (.f xs))) : Run G Φ W (.cons (.ret (.var i)) ss) ρ P := run_ret (ev_lk h1) (by simp only [retR, h1]) h
end
/-! strict equality of plain data, as the laws' _law_is tells it -/
mutual
def eqS : D → D → Bool
  | .none, .none => true
  | .bool a, .bool b => decide (a = b)
  | .int a, .int b => decide (a = b)
  | .str a, .str b => decide (cs a = cs b)
  | .tuple xs, .tuple ys => eqSAll xs ys
  | _, _ => false
def eqSAll : List D → List D → Bool
  | [], [] => true
  | x :: xs, y :: ys => eqS x y && eqSAll xs ys
  | _, _ => false
end
class XE {α : Type} [DecidableEq α] (e : α → D) : Prop where
  eqs : ∀ a b, eqS (e a) (e b) = decide (a = b)
section
variable {α β γ δ : Type}
instance : XE eI := ⟨fun a b => by simp only [eI, eqS]⟩
instance : XE eB := ⟨fun a b => by simp only [eB, eqS]⟩
instance : XE eS := ⟨fun a b => by
  simp only [eS, eqS, cs_mkS]
  exact decide_eq_decide.mpr Iff.rfl⟩
theorem eqSAll_enc [DecidableEq α] {e : α → D} [XE e] : ∀ s t : List α, eqSAll (s.map e) (t.map e) = decide (s = t)
  | [], [] => by simp [eqSAll]
  | [], _ :: _ => by simp [eqSAll]
  | _ :: _, [] => by simp [eqSAll]
  | a :: s, b :: t => by
    rw [List.map_cons, List.map_cons, eqSAll, XE.eqs, eqSAll_enc s t, ← Bool.decide_and]
    simp only [List.cons.injEq]
instance [DecidableEq α] {e : α → D} [XE e] : XE (eT e) := ⟨fun a b => by
  show eqS (.tuple (a.map e)) (.tuple (b.map e)) = _
  rw [eqS]; exact eqSAll_enc a b⟩
theorem eqS_noneL {d : D} (h : isNone d = false) : eqS .none d = false := by
  cases d <;> first | (simp only [eqS]; done) | cases h
theorem eqS_noneR {d : D} (h : isNone d = false) : eqS d .none = false := by
  cases d <;> first | (simp only [eqS]; done) | cases h
instance [DecidableEq α] {e : α → D} [XE e] [NN e] : XE (eO e) := ⟨fun a b => by
  cases a with
  | none => cases b with
    | none => simp [eO, eqS]
    | some y => simp only [eO, eqS_noneL (NN.nn y)]; simp
  | some x => cases b with
    | none => simp only [eO, eqS_noneR (NN.nn x)]; simp
    | some y => simp only [eO, XE.eqs, Option.some.injEq]⟩
instance [DecidableEq α] [DecidableEq β] {e : α → D} {f : β → D} [XE e] [XE f] : XE (eP e f) := ⟨fun a b => by
  show eqS (.tuple [e a.1, f a.2]) (.tuple [e b.1, f b.2]) = _
  simp only [eqS, eqSAll, XE.eqs, Bool.and_true, ← Bool.decide_and, Prod.ext_iff]⟩
instance [DecidableEq α] [DecidableEq β] [DecidableEq γ] {e : α → D} {f : β → D} {g : γ → D} [XE e] [XE f] [XE g] : XE (eP3 e f g) := ⟨fun a b => by
  show eqS (.tuple [e a.1, f a.2.1, g a.2.2]) (.tuple [e b.1, f b.2.1, g b.2.2]) = _
  simp only [eqS, eqSAll, XE.eqs, Bool.and_true, ← Bool.decide_and, Prod.ext_iff]⟩
instance [DecidableEq α] [DecidableEq β] [DecidableEq γ] [DecidableEq δ] {e : α → D} {f : β → D} {g : γ → D} {h : δ → D} [XE e] [XE f] [XE g] [XE h] : XE (eP4 e f g h) := ⟨fun a b => by
  show eqS (.tuple [e a.1, f a.2.1, g a.2.2.1, h a.2.2.2]) (.tuple [e b.1, f b.2.1, g b.2.2.1, h b.2.2.2]) = _
  simp only [eqS, eqSAll, XE.eqs, Bool.and_true, ← Bool.decide_and, Prod.ext_iff]⟩
/-- what _law_is tells -/
def isF [DecidableEq α] (e : α → D) (a b : α) : Option Bool := if isP 6 (e a) && isP 6 (e b) then some (decide (a = b)) else none
/-- the body of _law_is_integer, of _law_is -/
def fIsInt : Fn := { np := 1, nl := 1, body := .cons (.ret (.and (.cons (.isi (.var 0) .int) (.cons (.inv (.isi (.var 0) .bool)) .nil)))) .nil }
end
end WM
namespace WM
open PySem PySem.Spec PyProof.Rows L2
/-! ### typed dicts -/
section
variable {κ ν : Type}
def en2 (e : κ → D) (f : ν → D) (m : List (κ × ν)) : List (D × D) := m.map fun p => (e p.1, f p.2)
def eM (e : κ → D) (f : ν → D) : List (κ × ν) → D := fun m => .dict (en2 e f m)
def getM [DecidableEq κ] (m : List (κ × ν)) (k : κ) : Option ν := (m.find? fun p => decide (p.1 = k)).map (·.2)
def putM [DecidableEq κ] (m : List (κ × ν)) (k : κ) (v : ν) : List (κ × ν) := if m.any (fun p => decide (p.1 = k)) then m.map fun p => if p.1 = k then (p.1, v) else p else m ++ [(k, v)]
def ptO [DecidableEq κ] (m : List (κ × ν)) (k : κ) (v : ν) : Option (List (κ × ν)) := if szOk (m.length + 1) then some (putM m k v) else none
def soM (e : κ → D) (m : List (κ × ν)) : Option (List κ) := if (((m.map (·.1)).map e).all isI || ((m.map (·.1)).map e).all isS) && decide (m.length < 64) then some (sortE e (m.map (·.1))) else none
/-- what may be a key -/
class KE (e : κ → D) : Prop where
  key : ∀ a, isKey (e a) = true
instance : KE eI := ⟨fun _ => rfl⟩
instance : KE eS := ⟨fun _ => rfl⟩
variable {e : κ → D} {f : ν → D}
theorem lookD_enc [DecidableEq κ] [VE e] (k : κ) : ∀ m : List (κ × ν), lookD (en2 e f m) (e k) = (getM m k).map f
  | [] => rfl
  | p :: r => by
    have ih := lookD_enc k r
    unfold lookD getM en2 at *
    rw [List.map_cons]
    by_cases h : p.1 = k
    · rw [List.find?_cons_of_pos (by simp only [VE.eqv, decide_eq_true_eq]; exact h), List.find?_cons_of_pos (by simpa using h)]
      rfl
    · rw [List.find?_cons_of_neg (by simp only [VE.eqv, decide_eq_true_eq]; exact h), List.find?_cons_of_neg (by simpa using h)]
      exact ih
theorem putD_enc [DecidableEq κ] [VE e] (m : List (κ × ν)) (k : κ) (v : ν) : putD (en2 e f m) (e k) (f v) = en2 e f (putM m k v) := by
  have ha : (en2 e f m).any (fun p => PyData.eqv p.1 (e k)) = m.any fun p => decide (p.1 = k) := by
    unfold en2
    rw [List.any_map]
    congr 1
    funext p
    exact VE.eqv p.1 k
  unfold putD putM
  rw [ha]
  split
  · unfold en2
    rw [List.map_map, List.map_map]
    refine List.map_congr_left fun p _ => ?_
    simp only [Function.comp, VE.eqv, decide_eq_true_eq]
    split <;> rfl
  · unfold en2
    rw [List.map_append]; rfl
variable {G : Gt} {Φ : Phi} {W : Nat} {ρ : List Sl} {a b c : E} {es : Es} {i j n : Nat} {kvs : List (D × D)} {m m' : List (κ × ν)} {k : κ} {v : ν}
abbrev jFd (G : Gt) (Φ : Phi) (ρ : List Sl) (e : E) (kvs : List (D × D)) : Prop := ev G Φ e false ρ = some (.fd kvs)
abbrev jBd (G : Gt) (Φ : Phi) (ρ : List Sl) (e : E) (kvs : List (D × D)) : Prop := ev G Φ e false ρ = some (.bd kvs)
theorem q_od (h : ρ[i]? = some (.od kvs)) : jBd G Φ ρ (.var i) kvs := by
  show ev G Φ (.var i) false ρ = _
  simp only [ev, h, fin]
theorem q_rdd (h : ρ[i]? = some (.rdd kvs)) : jBd G Φ ρ (.var i) kvs := by
  show ev G Φ (.var i) false ρ = _
  simp only [ev, h, fin]
theorem DFDt (h : jFd G Φ ρ a (en2 e f m)) : jD G Φ ρ a (eM e f m) := ⟨_, h, rfl⟩
theorem DBDt (h : jBd G Φ ρ a (en2 e f m)) : jD G Φ ρ a (eM e f m) := ⟨_, h, rfl⟩
theorem q_dnew : jFd G Φ ρ .dnew (en2 e f []) := rfl
theorem q_ddp [KE e] (h1 : jV G Φ ρ a (e k)) (h2 : jS G Φ ρ b (f v)) : jFd G Φ ρ (.ddp a b) (en2 e f [(k, v)]) := by
  obtain ⟨r, e1, s1⟩ := h2
  show ev G Φ (.ddp a b) false ρ = _
  simp only [ev, fin, show ev G Φ a false ρ = _ from h1, e1, s1, Option.bind_some, R.toD, KE.key, if_true]
  rfl
theorem toD_M {r : R} {m : List (κ × ν)} (h : r.toD = eM e f m) : r.toD = .dict (en2 e f m) := h
theorem q_ixM [DecidableEq κ] [VE e] [KE e] (h1 : jD G Φ ρ a (eM e f m)) (h2 : jV G Φ ρ b (e k)) (h : getM m k = some v) : jV G Φ ρ (.ix a b) (f v) := by
  obtain ⟨r, e1, t1⟩ := h1
  refine ev_ix e1 h2 ?_
  rw [toD_M t1]
  show (if isKey (e k) then lookD (en2 e f m) (e k) else none) = _
  rw [if_pos (KE.key k), lookD_enc, h]; rfl
theorem k_inM [DecidableEq κ] [VE e] [KE e] : cmpD .In (e k) (eM e f m) = some (getM m k).isSome := by
  show (if isKey (e k) then some (lookD (en2 e f m) (e k)).isSome else none) = _
  rw [if_pos (KE.key k), lookD_enc, Option.isSome_map]
theorem k_niM [DecidableEq κ] [VE e] [KE e] : cmpD .NotIn (e k) (eM e f m) = some (!(getM m k).isSome) := by
  show (if isKey (e k) then some (!(lookD (en2 e f m) (e k)).isSome) else none) = _
  rw [if_pos (KE.key k), lookD_enc, Option.isSome_map]
theorem q_dg1 [DecidableEq κ] [VE e] [KE e] (h1 : jD G Φ ρ a (eM e f m)) (h2 : jV G Φ ρ b (e k)) : jV G Φ ρ (.dg1 a b) (eO f (getM m k)) := by
  obtain ⟨r, e1, t1⟩ := h1
  show ev G Φ (.dg1 a b) false ρ = _
  simp only [ev, fin, e1, show ev G Φ b false ρ = _ from h2, Option.bind_some, toD_M t1, toD_d, KE.key, if_true, lookD_enc]
  cases getM m k <;> rfl
theorem q_dg2 [DecidableEq κ] [VE e] [KE e] (h1 : jD G Φ ρ a (eM e f m)) (h2 : jV G Φ ρ b (e k)) (h3 : jV G Φ ρ c (f v)) : jV G Φ ρ (.dg2 a b c) (f ((getM m k).getD v)) := by
  obtain ⟨r, e1, t1⟩ := h1
  show ev G Φ (.dg2 a b c) false ρ = _
  simp only [ev, fin, e1, show ev G Φ b false ρ = _ from h2, show ev G Φ c false ρ = _ from h3, Option.bind_some, toD_M t1, toD_d, KE.key, if_true, lookD_enc]
  cases getM m k <;> rfl
theorem q_dg2N [DecidableEq κ] [VE e] [KE e] (h1 : jD G Φ ρ a (eM e f m)) (h2 : jV G Φ ρ b (e k)) (h3 : jV G Φ ρ c .none) : jV G Φ ρ (.dg2 a b c) (eO f (getM m k)) := by
  obtain ⟨r, e1, t1⟩ := h1
  show ev G Φ (.dg2 a b c) false ρ = _
  simp only [ev, fin, e1, show ev G Φ b false ρ = _ from h2, show ev G Φ c false ρ = _ from h3, Option.bind_some, toD_M t1, toD_d, KE.key, if_true, lookD_enc]
  cases getM m k <;> rfl
theorem q_lnM (h1 : jD G Φ ρ a (eM e f m)) : jV G Φ ρ (.b1 .len a) (eI m.length) := by
  obtain ⟨r1, e1, t1⟩ := h1
  refine ev_b1 e1 ?_
  rw [toD_M t1]
  show some (R.d (.int ((en2 e f m).length : Nat))) = _
  unfold en2
  rw [List.length_map]; rfl
theorem q_soM {r : List κ} (h1 : jD G Φ ρ a (eM e f m)) (h : soM e m = some r) : jF G Φ ρ (.b1 .sorted a) (r.map e) := by
  obtain ⟨r1, e1, t1⟩ := h1
  refine ev_b1 e1 ?_
  rw [toD_M t1]
  unfold soM at h
  split at h
  · rename_i hz
    cases h
    have e2 : (en2 e f m).map (·.1) = (m.map (·.1)).map e := by
      unfold en2
      rw [List.map_map, List.map_map]; rfl
    show (if (((en2 e f m).map (·.1)).all isI || ((en2 e f m).map (·.1)).all isS) && decide ((en2 e f m).length < 64) then some (R.f (sortD ((en2 e f m).map (·.1)))) else none) = _
    rw [e2, show (en2 e f m).length = m.length by unfold en2; rw [List.length_map], if_pos hz, sortD_enc]
  · cases h
theorem q_callFd {ds : List D} (h1 : jDs G Φ ρ es ds) (h : Φ n ds = some (.fd kvs)) : jFd G Φ ρ (.call n es) kvs := by
  obtain ⟨rs, e1, rfl⟩ := h1
  show ev G Φ (.call n es) false ρ = _
  simp only [ev, fin, e1, h, Option.bind_some]
theorem cEFd {t : List (κ × ν)} (h : jFd G Φ ρ a (en2 e f t)) (hv : some t = some m) : jFd G Φ ρ a (en2 e f m) := by cases hv; exact h
variable {P : Out → Prop} {ss : Ss}
theorem r_od {s : Sl} (h1 : jFd G Φ ρ a kvs) (h0 : ρ[i]? = some s) (nk : nlk s = true) (h : Run G Φ W ss (ρ.set i (.od kvs)) P) : Run G Φ W (.cons (.asg (.nm i) a) ss) ρ P :=
  run_asg (r := .fd kvs) h1 (setS_nlk h0 nk) h
theorem r_movD {s : Sl} (hj : ρ[j]? = some (.od kvs)) (ne : decide (i = j) = false) (h0 : ρ[i]? = some s) (nk : nlk s = true) (h : Run G Φ W ss ((ρ.set i (.od kvs)).set j .no) P) : Run G Φ W (.cons (.asg (.nm i) (.var j)) ss) ρ P := by
  refine run_step ?_ h
  have e1 : ev G Φ (.var j) false ρ = some (.bd kvs) := q_od hj
  simp only [ex, e1, asgM, movR, hj, if_neg (of_decide_eq_false ne), setS_nlk h0 nk, Option.bind_some, Option.map_some]
theorem r_setd [DecidableEq κ] [VE e] [KE e] (h0 : ρ[i]? = some (.od (en2 e f m))) (h1 : jS G Φ ρ a (f v)) (h2 : jV G Φ ρ b (e k)) (hw : ptO m k v = some m') (h : Run G Φ W ss (ρ.set i (.od (en2 e f m'))) P) : Run G Φ W (.cons (.seti i b a) ss) ρ P := by
  obtain ⟨r1, e1, t1⟩ := h1
  unfold ptO at hw
  split at hw
  · rename_i hz
    cases hw
    refine run_step ?_ h
    have hz2 : (isKey (e k) && szOk ((en2 e f m).length + 1)) = true := by
      unfold en2
      rw [KE.key, List.length_map, hz]; rfl
    simp only [ex, e1, t1, h0, show ev G Φ b false ρ = _ from h2, Option.bind_some, R.toD, hz2, if_true, putD_enc]
  · cases hw
theorem r_retFd (h1 : jFd G Φ ρ a kvs) (h : P (.ret (.fd kvs))) : Run G Φ W (.cons (.ret a) ss) ρ P := run_ret h1 rfl h
theorem r_retBd (h1 : ρ[i]? = some (.od kvs)) (h : P (.ret (.fd kvs))) : Run G Φ W (.cons (.ret (.var i)) ss) ρ P := run_ret (q_od (G := G) (Φ := Φ) h1) (by simp only [retR, h1]) h
end
end WM

/-! ## part W: what all laws share -/
namespace WM
open PySem PySem.Spec PyProof.Rows L2
def fIs (K J : Nat) : Fn := { np := 2, nl := 3, body := .cons (.ite (.cmp .Is (.var 1) (.cst .none)) (.cons (.ret (.cmp .Is (.var 0) (.cst .none))) .nil) (.nil)) (.cons (.ite (.isi (.var 1) .bool) (.cons (.ret (.and (.cons (.isi (.var 0) .bool) (.cons (.cmp .Eq (.var 0) (.var 1)) .nil)))) .nil) (.nil)) (.cons (.ite (.isi (.var 1) .int) (.cons (.ret (.and (.cons (.call J (.cons (.var 0) .nil)) (.cons (.cmp .Eq (.var 0) (.var 1)) .nil)))) .nil) (.nil)) (.cons (.ite (.isi (.var 1) .str) (.cons (.ret (.and (.cons (.isi (.var 0) .str) (.cons (.cmp .Eq (.var 0) (.var 1)) .nil)))) .nil) (.nil)) (.cons (.ite (.or (.cons (.inv (.isi (.var 0) .tuple)) (.cons (.cmp .NotEq (.b1 .len (.var 0)) (.b1 .len (.var 1))) .nil))) (.cons (.ret (.cst (.bool false))) .nil) (.nil)) (.cons (.ret (.b1 .all (.lc [("at", 2)] (.nm 2) (.rg1 (.b1 .len (.var 1))) (.nil) (.call K (.cons (.ix (.var 0) (.var 2)) (.cons (.ix (.var 1) (.var 2)) .nil)))))) .nil))))) }
def isIn : D → Bool
  | .int _ => true
  | _ => false
section
variable {G : Gt} {T : List Fn} {W K J : Nat}
theorem isint_gen (hJ : T[J]? = some fIsInt) (d : D) (hd : ∀ xs, d ≠ .list xs) (hd2 : ∀ xs, d ≠ .dict xs) (n : Nat) : call G T W (n + 1) J [d] = some (.d (.bool (isIn d))) := by
  refine call_run (fn := fIsInt) hJ rfl ?_
  cases d with
  | list xs => exact (hd xs rfl).elim
  | int i =>
    show Run _ _ _ fIsInt.body [.va (.int i)] _
    simp only [fIsInt]
    exact run_ret (r := .d (.bool true)) (by simp -implicitDefEqProofs (disch := first | omega | (simp only [List.length_append, List.length_take, List.length_drop, List.length_cons, List.length_nil, List.length_reverse, List.length_map, List.length_range]; omega)) only [E_var, E_cstI, E_cstN, E_cstB, E_cstS, E_glb, E_tup, E_lst, E_bin, E_neg, E_inv, E_cmp, E_chn, E_and, E_or, A_one, A_cons, O_one, O_cons, E_ife, E_ix, E_sl, E_rev, E_call, E_b1, E_b2, E_isi, E_m1, T_var, T_cst, T_glb, T_tup, T_lst, T_bin, T_ix, T_sl, T_call, T_b1, T_b2, T_isi, T_m1, truR_b, truR_i, truR_n, truR_t, truR_u, truR_l, truR_f, truR_o, V_nil, V_cons, Q_no, Q_so, oiR_i, slV_va, slV_ow, slV_lk, slV_rd, negR_i, asB_b, thenB_b, elseB_b, thenB_t, thenB_f, elseB_t, elseB_f, iteR_t, iteR_f, iteR_i, iteR_T, notBR_d, notBR_f, toD_d, toD_f, toD_b, share_d, share_f, SA_nil, SA_cons, bn_add, bn_sub, bn_mod, bn_div, bn_mulR, bn_mulL, bn_addT, bn_mulTn, bn_mulT2, pw18, pw20, Int.natAbs_natCast, List.length_map, cm_eqI, cm_neI, cm_ltI, cm_gtI, cm_leI, cm_geI, cm_eqT, cm_neT, cm_eqB, cm_neB, cm_isN, cm_isnN, cm_inI, cm_inT, cm_ninI, cm_ninT, cm_eqUT, cm_neUT, cm_eqLT, cm_inUT, al_m, an_m, ss_tx, rv_u, rv_l, cm_inLU, cm_ninLU, ix_u0, ix_u1, nmod, ndiv, ncast, ncast0, Int.toNat_natCast, isN_n, isN_i, isN_s, isN_b, isN_u, isN_l, sl_to, sl_from, sl_mid, sl_toL, sl_fromL, sl_midL, sl_toU, sl_fromU, sl_midU, rv_tx, ln_tx, ln_lst, ln_l, ln_u, ab_int, in_int, tu_lst, tu_tup, li_lst, li_tup, mx2, mn2, gc2, tr_int, isiD, ix_int, ix_intU, ix_md, ix_tx, Option.bind_some, Option.map_some, List.map_cons, List.map_nil, List.getElem?_cons_zero, List.getElem?_cons_succ, Bool.not_true, Bool.not_false, Bool.not_not, Bool.true_and, Bool.and_true, Bool.false_and, Bool.and_false, Bool.or_true, Bool.true_or, Bool.or_false, Bool.false_or]) rfl rfl
  | none =>
    show Run _ _ _ fIsInt.body [.va .none] _
    simp only [fIsInt]
    exact run_ret (r := .d (.bool false)) (by simp -implicitDefEqProofs (disch := first | omega | (simp only [List.length_append, List.length_take, List.length_drop, List.length_cons, List.length_nil, List.length_reverse, List.length_map, List.length_range]; omega)) only [E_var, E_cstI, E_cstN, E_cstB, E_cstS, E_glb, E_tup, E_lst, E_bin, E_neg, E_inv, E_cmp, E_chn, E_and, E_or, A_one, A_cons, O_one, O_cons, E_ife, E_ix, E_sl, E_rev, E_call, E_b1, E_b2, E_isi, E_m1, T_var, T_cst, T_glb, T_tup, T_lst, T_bin, T_ix, T_sl, T_call, T_b1, T_b2, T_isi, T_m1, truR_b, truR_i, truR_n, truR_t, truR_u, truR_l, truR_f, truR_o, V_nil, V_cons, Q_no, Q_so, oiR_i, slV_va, slV_ow, slV_lk, slV_rd, negR_i, asB_b, thenB_b, elseB_b, thenB_t, thenB_f, elseB_t, elseB_f, iteR_t, iteR_f, iteR_i, iteR_T, notBR_d, notBR_f, toD_d, toD_f, toD_b, share_d, share_f, SA_nil, SA_cons, bn_add, bn_sub, bn_mod, bn_div, bn_mulR, bn_mulL, bn_addT, bn_mulTn, bn_mulT2, pw18, pw20, Int.natAbs_natCast, List.length_map, cm_eqI, cm_neI, cm_ltI, cm_gtI, cm_leI, cm_geI, cm_eqT, cm_neT, cm_eqB, cm_neB, cm_isN, cm_isnN, cm_inI, cm_inT, cm_ninI, cm_ninT, cm_eqUT, cm_neUT, cm_eqLT, cm_inUT, al_m, an_m, ss_tx, rv_u, rv_l, cm_inLU, cm_ninLU, ix_u0, ix_u1, nmod, ndiv, ncast, ncast0, Int.toNat_natCast, isN_n, isN_i, isN_s, isN_b, isN_u, isN_l, sl_to, sl_from, sl_mid, sl_toL, sl_fromL, sl_midL, sl_toU, sl_fromU, sl_midU, rv_tx, ln_tx, ln_lst, ln_l, ln_u, ab_int, in_int, tu_lst, tu_tup, li_lst, li_tup, mx2, mn2, gc2, tr_int, isiD, ix_int, ix_intU, ix_md, ix_tx, Option.bind_some, Option.map_some, List.map_cons, List.map_nil, List.getElem?_cons_zero, List.getElem?_cons_succ, Bool.not_true, Bool.not_false, Bool.not_not, Bool.true_and, Bool.and_true, Bool.false_and, Bool.and_false, Bool.or_true, Bool.true_or, Bool.or_false, Bool.false_or]) rfl rfl
  | bool b =>
    show Run _ _ _ fIsInt.body [.va (.bool b)] _
    simp only [fIsInt]
    exact run_ret (r := .d (.bool false)) (by simp -implicitDefEqProofs (disch := first | omega | (simp only [List.length_append, List.length_take, List.length_drop, List.length_cons, List.length_nil, List.length_reverse, List.length_map, List.length_range]; omega)) only [E_var, E_cstI, E_cstN, E_cstB, E_cstS, E_glb, E_tup, E_lst, E_bin, E_neg, E_inv, E_cmp, E_chn, E_and, E_or, A_one, A_cons, O_one, O_cons, E_ife, E_ix, E_sl, E_rev, E_call, E_b1, E_b2, E_isi, E_m1, T_var, T_cst, T_glb, T_tup, T_lst, T_bin, T_ix, T_sl, T_call, T_b1, T_b2, T_isi, T_m1, truR_b, truR_i, truR_n, truR_t, truR_u, truR_l, truR_f, truR_o, V_nil, V_cons, Q_no, Q_so, oiR_i, slV_va, slV_ow, slV_lk, slV_rd, negR_i, asB_b, thenB_b, elseB_b, thenB_t, thenB_f, elseB_t, elseB_f, iteR_t, iteR_f, iteR_i, iteR_T, notBR_d, notBR_f, toD_d, toD_f, toD_b, share_d, share_f, SA_nil, SA_cons, bn_add, bn_sub, bn_mod, bn_div, bn_mulR, bn_mulL, bn_addT, bn_mulTn, bn_mulT2, pw18, pw20, Int.natAbs_natCast, List.length_map, cm_eqI, cm_neI, cm_ltI, cm_gtI, cm_leI, cm_geI, cm_eqT, cm_neT, cm_eqB, cm_neB, cm_isN, cm_isnN, cm_inI, cm_inT, cm_ninI, cm_ninT, cm_eqUT, cm_neUT, cm_eqLT, cm_inUT, al_m, an_m, ss_tx, rv_u, rv_l, cm_inLU, cm_ninLU, ix_u0, ix_u1, nmod, ndiv, ncast, ncast0, Int.toNat_natCast, isN_n, isN_i, isN_s, isN_b, isN_u, isN_l, sl_to, sl_from, sl_mid, sl_toL, sl_fromL, sl_midL, sl_toU, sl_fromU, sl_midU, rv_tx, ln_tx, ln_lst, ln_l, ln_u, ab_int, in_int, tu_lst, tu_tup, li_lst, li_tup, mx2, mn2, gc2, tr_int, isiD, ix_int, ix_intU, ix_md, ix_tx, Option.bind_some, Option.map_some, List.map_cons, List.map_nil, List.getElem?_cons_zero, List.getElem?_cons_succ, Bool.not_true, Bool.not_false, Bool.not_not, Bool.true_and, Bool.and_true, Bool.false_and, Bool.and_false, Bool.or_true, Bool.true_or, Bool.or_false, Bool.false_or]) rfl rfl
  | str z =>
    show Run _ _ _ fIsInt.body [.va (.str z)] _
    simp only [fIsInt]
    exact run_ret (r := .d (.bool false)) (by simp -implicitDefEqProofs (disch := first | omega | (simp only [List.length_append, List.length_take, List.length_drop, List.length_cons, List.length_nil, List.length_reverse, List.length_map, List.length_range]; omega)) only [E_var, E_cstI, E_cstN, E_cstB, E_cstS, E_glb, E_tup, E_lst, E_bin, E_neg, E_inv, E_cmp, E_chn, E_and, E_or, A_one, A_cons, O_one, O_cons, E_ife, E_ix, E_sl, E_rev, E_call, E_b1, E_b2, E_isi, E_m1, T_var, T_cst, T_glb, T_tup, T_lst, T_bin, T_ix, T_sl, T_call, T_b1, T_b2, T_isi, T_m1, truR_b, truR_i, truR_n, truR_t, truR_u, truR_l, truR_f, truR_o, V_nil, V_cons, Q_no, Q_so, oiR_i, slV_va, slV_ow, slV_lk, slV_rd, negR_i, asB_b, thenB_b, elseB_b, thenB_t, thenB_f, elseB_t, elseB_f, iteR_t, iteR_f, iteR_i, iteR_T, notBR_d, notBR_f, toD_d, toD_f, toD_b, share_d, share_f, SA_nil, SA_cons, bn_add, bn_sub, bn_mod, bn_div, bn_mulR, bn_mulL, bn_addT, bn_mulTn, bn_mulT2, pw18, pw20, Int.natAbs_natCast, List.length_map, cm_eqI, cm_neI, cm_ltI, cm_gtI, cm_leI, cm_geI, cm_eqT, cm_neT, cm_eqB, cm_neB, cm_isN, cm_isnN, cm_inI, cm_inT, cm_ninI, cm_ninT, cm_eqUT, cm_neUT, cm_eqLT, cm_inUT, al_m, an_m, ss_tx, rv_u, rv_l, cm_inLU, cm_ninLU, ix_u0, ix_u1, nmod, ndiv, ncast, ncast0, Int.toNat_natCast, isN_n, isN_i, isN_s, isN_b, isN_u, isN_l, sl_to, sl_from, sl_mid, sl_toL, sl_fromL, sl_midL, sl_toU, sl_fromU, sl_midU, rv_tx, ln_tx, ln_lst, ln_l, ln_u, ab_int, in_int, tu_lst, tu_tup, li_lst, li_tup, mx2, mn2, gc2, tr_int, isiD, ix_int, ix_intU, ix_md, ix_tx, Option.bind_some, Option.map_some, List.map_cons, List.map_nil, List.getElem?_cons_zero, List.getElem?_cons_succ, Bool.not_true, Bool.not_false, Bool.not_not, Bool.true_and, Bool.and_true, Bool.false_and, Bool.and_false, Bool.or_true, Bool.true_or, Bool.or_false, Bool.false_or]) rfl rfl
  | tuple xs =>
    show Run _ _ _ fIsInt.body [.va (.tuple xs)] _
    simp only [fIsInt]
    exact run_ret (r := .d (.bool false)) (by simp -implicitDefEqProofs (disch := first | omega | (simp only [List.length_append, List.length_take, List.length_drop, List.length_cons, List.length_nil, List.length_reverse, List.length_map, List.length_range]; omega)) only [E_var, E_cstI, E_cstN, E_cstB, E_cstS, E_glb, E_tup, E_lst, E_bin, E_neg, E_inv, E_cmp, E_chn, E_and, E_or, A_one, A_cons, O_one, O_cons, E_ife, E_ix, E_sl, E_rev, E_call, E_b1, E_b2, E_isi, E_m1, T_var, T_cst, T_glb, T_tup, T_lst, T_bin, T_ix, T_sl, T_call, T_b1, T_b2, T_isi, T_m1, truR_b, truR_i, truR_n, truR_t, truR_u, truR_l, truR_f, truR_o, V_nil, V_cons, Q_no, Q_so, oiR_i, slV_va, slV_ow, slV_lk, slV_rd, negR_i, asB_b, thenB_b, elseB_b, thenB_t, thenB_f, elseB_t, elseB_f, iteR_t, iteR_f, iteR_i, iteR_T, notBR_d, notBR_f, toD_d, toD_f, toD_b, share_d, share_f, SA_nil, SA_cons, bn_add, bn_sub, bn_mod, bn_div, bn_mulR, bn_mulL, bn_addT, bn_mulTn, bn_mulT2, pw18, pw20, Int.natAbs_natCast, List.length_map, cm_eqI, cm_neI, cm_ltI, cm_gtI, cm_leI, cm_geI, cm_eqT, cm_neT, cm_eqB, cm_neB, cm_isN, cm_isnN, cm_inI, cm_inT, cm_ninI, cm_ninT, cm_eqUT, cm_neUT, cm_eqLT, cm_inUT, al_m, an_m, ss_tx, rv_u, rv_l, cm_inLU, cm_ninLU, ix_u0, ix_u1, nmod, ndiv, ncast, ncast0, Int.toNat_natCast, isN_n, isN_i, isN_s, isN_b, isN_u, isN_l, sl_to, sl_from, sl_mid, sl_toL, sl_fromL, sl_midL, sl_toU, sl_fromU, sl_midU, rv_tx, ln_tx, ln_lst, ln_l, ln_u, ab_int, in_int, tu_lst, tu_tup, li_lst, li_tup, mx2, mn2, gc2, tr_int, isiD, ix_int, ix_intU, ix_md, ix_tx, Option.bind_some, Option.map_some, List.map_cons, List.map_nil, List.getElem?_cons_zero, List.getElem?_cons_succ, Bool.not_true, Bool.not_false, Bool.not_not, Bool.true_and, Bool.and_true, Bool.false_and, Bool.and_false, Bool.or_true, Bool.true_or, Bool.or_false, Bool.false_or]) rfl rfl
  | dict xs => exact (hd2 xs rfl).elim
theorem isP_nl {k : Nat} {d : D} (h : isP k d = true) : ∀ xs, d ≠ .list xs := fun xs e => by
  subst e
  cases k <;> simp [isP] at h
theorem isP_nd {k : Nat} {d : D} (h : isP k d = true) : ∀ xs, d ≠ .dict xs := fun xs e => by
  subst e
  cases k <;> simp [isP] at h
theorem eqSAll_get : ∀ xs ys : List D, xs.length = ys.length → eqSAll xs ys = (List.range ys.length).all fun i => eqS (xs.getD i .none) (ys.getD i .none)
  | [], [], _ => by simp [eqSAll]
  | x :: xs, y :: ys, h => by
    have ih := eqSAll_get xs ys (by simpa using h)
    rw [eqSAll, ih, List.length_cons, List.range_succ_eq_map, List.all_cons, List.all_map]
    rfl
theorem eqSAll_len : ∀ xs ys : List D, xs.length ≠ ys.length → eqSAll xs ys = false
  | [], [], h => (h rfl).elim
  | [], _ :: _, _ => by simp [eqSAll]
  | _ :: _, [], _ => by simp [eqSAll]
  | x :: xs, y :: ys, h => by
    rw [eqSAll, eqSAll_len xs ys (by simpa using h), Bool.and_false]
theorem is_gen (hK : T[K]? = some (fIs K J)) (hJ : T[J]? = some fIsInt) : ∀ (k : Nat) (d d' : D), isP k d = true → isP k d' = true → ∀ n, call G T W (n + k + 2) K [d, d'] = some (.d (.bool (eqS d d')))
  | k, d, d', h, h', n => by
    have hd := isP_nl h
    have hd2 := isP_nd h
    have hi := isint_gen (G := G) (W := W) hJ d hd hd2
    have hi := hi (n + k)
    have sh : ∀ e : D, (∀ xs, e ≠ .list xs) → (∀ xs, e ≠ .dict xs) → argS e = .va e := fun e he he2 => by
      cases e with
      | list xs => exact (he xs rfl).elim
      | dict xs => exact (he2 xs rfl).elim
      | _ => rfl
    refine call_run (fn := fIs K J) hK rfl ?_
    show Run _ _ _ (fIs K J).body [argS d, argS d', .no] _
    rw [sh d hd hd2, sh d' (isP_nl h') (isP_nd h')]
    simp only [fIs]
    cases d' with
    | list xs => exact (isP_nl h' xs rfl).elim
    | dict xs => exact (isP_nd h' xs rfl).elim
    | none =>
      refine run_if (p := true) (by simp -implicitDefEqProofs (disch := first | omega | (simp only [List.length_append, List.length_take, List.length_drop, List.length_cons, List.length_nil, List.length_reverse, List.length_map, List.length_range]; omega)) only [E_var, E_cstI, E_cstN, E_cstB, E_cstS, E_glb, E_tup, E_lst, E_bin, E_neg, E_inv, E_cmp, E_chn, E_and, E_or, A_one, A_cons, O_one, O_cons, E_ife, E_ix, E_sl, E_rev, E_call, E_b1, E_b2, E_isi, E_m1, T_var, T_cst, T_glb, T_tup, T_lst, T_bin, T_ix, T_sl, T_call, T_b1, T_b2, T_isi, T_m1, truR_b, truR_i, truR_n, truR_t, truR_u, truR_l, truR_f, truR_o, V_nil, V_cons, Q_no, Q_so, oiR_i, slV_va, slV_ow, slV_lk, slV_rd, negR_i, asB_b, thenB_b, elseB_b, thenB_t, thenB_f, elseB_t, elseB_f, iteR_t, iteR_f, iteR_i, iteR_T, notBR_d, notBR_f, toD_d, toD_f, toD_b, share_d, share_f, SA_nil, SA_cons, bn_add, bn_sub, bn_mod, bn_div, bn_mulR, bn_mulL, bn_addT, bn_mulTn, bn_mulT2, pw18, pw20, Int.natAbs_natCast, List.length_map, cm_eqI, cm_neI, cm_ltI, cm_gtI, cm_leI, cm_geI, cm_eqT, cm_neT, cm_eqB, cm_neB, cm_isN, cm_isnN, cm_inI, cm_inT, cm_ninI, cm_ninT, cm_eqUT, cm_neUT, cm_eqLT, cm_inUT, al_m, an_m, ss_tx, rv_u, rv_l, cm_inLU, cm_ninLU, ix_u0, ix_u1, nmod, ndiv, ncast, ncast0, Int.toNat_natCast, isN_n, isN_i, isN_s, isN_b, isN_u, isN_l, sl_to, sl_from, sl_mid, sl_toL, sl_fromL, sl_midL, sl_toU, sl_fromU, sl_midU, rv_tx, ln_tx, ln_lst, ln_l, ln_u, ab_int, in_int, tu_lst, tu_tup, li_lst, li_tup, mx2, mn2, gc2, tr_int, isiD, ix_int, ix_intU, ix_md, ix_tx, Option.bind_some, Option.map_some, List.map_cons, List.map_nil, List.getElem?_cons_zero, List.getElem?_cons_succ, Bool.not_true, Bool.not_false, Bool.not_not, Bool.true_and, Bool.and_true, Bool.false_and, Bool.and_false, Bool.or_true, Bool.true_or, Bool.or_false, Bool.false_or]) (fun _ => ?_) fun z => by cases z
      have e : isNone d = eqS d .none := by cases d <;> first | rfl | simp [eqS, isNone]
      exact run_ret (r := .d (.bool (isNone d))) (by simp -implicitDefEqProofs (disch := first | omega | (simp only [List.length_append, List.length_take, List.length_drop, List.length_cons, List.length_nil, List.length_reverse, List.length_map, List.length_range]; omega)) only [E_var, E_cstI, E_cstN, E_cstB, E_cstS, E_glb, E_tup, E_lst, E_bin, E_neg, E_inv, E_cmp, E_chn, E_and, E_or, A_one, A_cons, O_one, O_cons, E_ife, E_ix, E_sl, E_rev, E_call, E_b1, E_b2, E_isi, E_m1, T_var, T_cst, T_glb, T_tup, T_lst, T_bin, T_ix, T_sl, T_call, T_b1, T_b2, T_isi, T_m1, truR_b, truR_i, truR_n, truR_t, truR_u, truR_l, truR_f, truR_o, V_nil, V_cons, Q_no, Q_so, oiR_i, slV_va, slV_ow, slV_lk, slV_rd, negR_i, asB_b, thenB_b, elseB_b, thenB_t, thenB_f, elseB_t, elseB_f, iteR_t, iteR_f, iteR_i, iteR_T, notBR_d, notBR_f, toD_d, toD_f, toD_b, share_d, share_f, SA_nil, SA_cons, bn_add, bn_sub, bn_mod, bn_div, bn_mulR, bn_mulL, bn_addT, bn_mulTn, bn_mulT2, pw18, pw20, Int.natAbs_natCast, List.length_map, cm_eqI, cm_neI, cm_ltI, cm_gtI, cm_leI, cm_geI, cm_eqT, cm_neT, cm_eqB, cm_neB, cm_isN, cm_isnN, cm_inI, cm_inT, cm_ninI, cm_ninT, cm_eqUT, cm_neUT, cm_eqLT, cm_inUT, al_m, an_m, ss_tx, rv_u, rv_l, cm_inLU, cm_ninLU, ix_u0, ix_u1, nmod, ndiv, ncast, ncast0, Int.toNat_natCast, isN_n, isN_i, isN_s, isN_b, isN_u, isN_l, sl_to, sl_from, sl_mid, sl_toL, sl_fromL, sl_midL, sl_toU, sl_fromU, sl_midU, rv_tx, ln_tx, ln_lst, ln_l, ln_u, ab_int, in_int, tu_lst, tu_tup, li_lst, li_tup, mx2, mn2, gc2, tr_int, isiD, ix_int, ix_intU, ix_md, ix_tx, Option.bind_some, Option.map_some, List.map_cons, List.map_nil, List.getElem?_cons_zero, List.getElem?_cons_succ, Bool.not_true, Bool.not_false, Bool.not_not, Bool.true_and, Bool.and_true, Bool.false_and, Bool.and_false, Bool.or_true, Bool.true_or, Bool.or_false, Bool.false_or]) rfl (by rw [e]; rfl)
    | bool b =>
      refine run_ifF (by simp -implicitDefEqProofs (disch := first | omega | (simp only [List.length_append, List.length_take, List.length_drop, List.length_cons, List.length_nil, List.length_reverse, List.length_map, List.length_range]; omega)) only [E_var, E_cstI, E_cstN, E_cstB, E_cstS, E_glb, E_tup, E_lst, E_bin, E_neg, E_inv, E_cmp, E_chn, E_and, E_or, A_one, A_cons, O_one, O_cons, E_ife, E_ix, E_sl, E_rev, E_call, E_b1, E_b2, E_isi, E_m1, T_var, T_cst, T_glb, T_tup, T_lst, T_bin, T_ix, T_sl, T_call, T_b1, T_b2, T_isi, T_m1, truR_b, truR_i, truR_n, truR_t, truR_u, truR_l, truR_f, truR_o, V_nil, V_cons, Q_no, Q_so, oiR_i, slV_va, slV_ow, slV_lk, slV_rd, negR_i, asB_b, thenB_b, elseB_b, thenB_t, thenB_f, elseB_t, elseB_f, iteR_t, iteR_f, iteR_i, iteR_T, notBR_d, notBR_f, toD_d, toD_f, toD_b, share_d, share_f, SA_nil, SA_cons, bn_add, bn_sub, bn_mod, bn_div, bn_mulR, bn_mulL, bn_addT, bn_mulTn, bn_mulT2, pw18, pw20, Int.natAbs_natCast, List.length_map, cm_eqI, cm_neI, cm_ltI, cm_gtI, cm_leI, cm_geI, cm_eqT, cm_neT, cm_eqB, cm_neB, cm_isN, cm_isnN, cm_inI, cm_inT, cm_ninI, cm_ninT, cm_eqUT, cm_neUT, cm_eqLT, cm_inUT, al_m, an_m, ss_tx, rv_u, rv_l, cm_inLU, cm_ninLU, ix_u0, ix_u1, nmod, ndiv, ncast, ncast0, Int.toNat_natCast, isN_n, isN_i, isN_s, isN_b, isN_u, isN_l, sl_to, sl_from, sl_mid, sl_toL, sl_fromL, sl_midL, sl_toU, sl_fromU, sl_midU, rv_tx, ln_tx, ln_lst, ln_l, ln_u, ab_int, in_int, tu_lst, tu_tup, li_lst, li_tup, mx2, mn2, gc2, tr_int, isiD, ix_int, ix_intU, ix_md, ix_tx, Option.bind_some, Option.map_some, List.map_cons, List.map_nil, List.getElem?_cons_zero, List.getElem?_cons_succ, Bool.not_true, Bool.not_false, Bool.not_not, Bool.true_and, Bool.and_true, Bool.false_and, Bool.and_false, Bool.or_true, Bool.true_or, Bool.or_false, Bool.false_or]) (run_if (p := true) (by simp -implicitDefEqProofs (disch := first | omega | (simp only [List.length_append, List.length_take, List.length_drop, List.length_cons, List.length_nil, List.length_reverse, List.length_map, List.length_range]; omega)) only [E_var, E_cstI, E_cstN, E_cstB, E_cstS, E_glb, E_tup, E_lst, E_bin, E_neg, E_inv, E_cmp, E_chn, E_and, E_or, A_one, A_cons, O_one, O_cons, E_ife, E_ix, E_sl, E_rev, E_call, E_b1, E_b2, E_isi, E_m1, T_var, T_cst, T_glb, T_tup, T_lst, T_bin, T_ix, T_sl, T_call, T_b1, T_b2, T_isi, T_m1, truR_b, truR_i, truR_n, truR_t, truR_u, truR_l, truR_f, truR_o, V_nil, V_cons, Q_no, Q_so, oiR_i, slV_va, slV_ow, slV_lk, slV_rd, negR_i, asB_b, thenB_b, elseB_b, thenB_t, thenB_f, elseB_t, elseB_f, iteR_t, iteR_f, iteR_i, iteR_T, notBR_d, notBR_f, toD_d, toD_f, toD_b, share_d, share_f, SA_nil, SA_cons, bn_add, bn_sub, bn_mod, bn_div, bn_mulR, bn_mulL, bn_addT, bn_mulTn, bn_mulT2, pw18, pw20, Int.natAbs_natCast, List.length_map, cm_eqI, cm_neI, cm_ltI, cm_gtI, cm_leI, cm_geI, cm_eqT, cm_neT, cm_eqB, cm_neB, cm_isN, cm_isnN, cm_inI, cm_inT, cm_ninI, cm_ninT, cm_eqUT, cm_neUT, cm_eqLT, cm_inUT, al_m, an_m, ss_tx, rv_u, rv_l, cm_inLU, cm_ninLU, ix_u0, ix_u1, nmod, ndiv, ncast, ncast0, Int.toNat_natCast, isN_n, isN_i, isN_s, isN_b, isN_u, isN_l, sl_to, sl_from, sl_mid, sl_toL, sl_fromL, sl_midL, sl_toU, sl_fromU, sl_midU, rv_tx, ln_tx, ln_lst, ln_l, ln_u, ab_int, in_int, tu_lst, tu_tup, li_lst, li_tup, mx2, mn2, gc2, tr_int, isiD, ix_int, ix_intU, ix_md, ix_tx, Option.bind_some, Option.map_some, List.map_cons, List.map_nil, List.getElem?_cons_zero, List.getElem?_cons_succ, Bool.not_true, Bool.not_false, Bool.not_not, Bool.true_and, Bool.and_true, Bool.false_and, Bool.and_false, Bool.or_true, Bool.true_or, Bool.or_false, Bool.false_or]) (fun _ => ?_) fun z => by cases z)
      cases d with
      | bool a => exact run_ret (r := .d (.bool (decide (a = b)))) (by simp -implicitDefEqProofs (disch := first | omega | (simp only [List.length_append, List.length_take, List.length_drop, List.length_cons, List.length_nil, List.length_reverse, List.length_map, List.length_range]; omega)) only [E_var, E_cstI, E_cstN, E_cstB, E_cstS, E_glb, E_tup, E_lst, E_bin, E_neg, E_inv, E_cmp, E_chn, E_and, E_or, A_one, A_cons, O_one, O_cons, E_ife, E_ix, E_sl, E_rev, E_call, E_b1, E_b2, E_isi, E_m1, T_var, T_cst, T_glb, T_tup, T_lst, T_bin, T_ix, T_sl, T_call, T_b1, T_b2, T_isi, T_m1, truR_b, truR_i, truR_n, truR_t, truR_u, truR_l, truR_f, truR_o, V_nil, V_cons, Q_no, Q_so, oiR_i, slV_va, slV_ow, slV_lk, slV_rd, negR_i, asB_b, thenB_b, elseB_b, thenB_t, thenB_f, elseB_t, elseB_f, iteR_t, iteR_f, iteR_i, iteR_T, notBR_d, notBR_f, toD_d, toD_f, toD_b, share_d, share_f, SA_nil, SA_cons, bn_add, bn_sub, bn_mod, bn_div, bn_mulR, bn_mulL, bn_addT, bn_mulTn, bn_mulT2, pw18, pw20, Int.natAbs_natCast, List.length_map, cm_eqI, cm_neI, cm_ltI, cm_gtI, cm_leI, cm_geI, cm_eqT, cm_neT, cm_eqB, cm_neB, cm_isN, cm_isnN, cm_inI, cm_inT, cm_ninI, cm_ninT, cm_eqUT, cm_neUT, cm_eqLT, cm_inUT, al_m, an_m, ss_tx, rv_u, rv_l, cm_inLU, cm_ninLU, ix_u0, ix_u1, nmod, ndiv, ncast, ncast0, Int.toNat_natCast, isN_n, isN_i, isN_s, isN_b, isN_u, isN_l, sl_to, sl_from, sl_mid, sl_toL, sl_fromL, sl_midL, sl_toU, sl_fromU, sl_midU, rv_tx, ln_tx, ln_lst, ln_l, ln_u, ab_int, in_int, tu_lst, tu_tup, li_lst, li_tup, mx2, mn2, gc2, tr_int, isiD, ix_int, ix_intU, ix_md, ix_tx, Option.bind_some, Option.map_some, List.map_cons, List.map_nil, List.getElem?_cons_zero, List.getElem?_cons_succ, Bool.not_true, Bool.not_false, Bool.not_not, Bool.true_and, Bool.and_true, Bool.false_and, Bool.and_false, Bool.or_true, Bool.true_or, Bool.or_false, Bool.false_or]) rfl (by simp only [eqS]; rfl)
      | list xs => exact (hd xs rfl).elim
      | dict xs => exact (hd2 xs rfl).elim
      | _ => exact run_ret (r := .d (.bool false)) (by simp -implicitDefEqProofs (disch := first | omega | (simp only [List.length_append, List.length_take, List.length_drop, List.length_cons, List.length_nil, List.length_reverse, List.length_map, List.length_range]; omega)) only [E_var, E_cstI, E_cstN, E_cstB, E_cstS, E_glb, E_tup, E_lst, E_bin, E_neg, E_inv, E_cmp, E_chn, E_and, E_or, A_one, A_cons, O_one, O_cons, E_ife, E_ix, E_sl, E_rev, E_call, E_b1, E_b2, E_isi, E_m1, T_var, T_cst, T_glb, T_tup, T_lst, T_bin, T_ix, T_sl, T_call, T_b1, T_b2, T_isi, T_m1, truR_b, truR_i, truR_n, truR_t, truR_u, truR_l, truR_f, truR_o, V_nil, V_cons, Q_no, Q_so, oiR_i, slV_va, slV_ow, slV_lk, slV_rd, negR_i, asB_b, thenB_b, elseB_b, thenB_t, thenB_f, elseB_t, elseB_f, iteR_t, iteR_f, iteR_i, iteR_T, notBR_d, notBR_f, toD_d, toD_f, toD_b, share_d, share_f, SA_nil, SA_cons, bn_add, bn_sub, bn_mod, bn_div, bn_mulR, bn_mulL, bn_addT, bn_mulTn, bn_mulT2, pw18, pw20, Int.natAbs_natCast, List.length_map, cm_eqI, cm_neI, cm_ltI, cm_gtI, cm_leI, cm_geI, cm_eqT, cm_neT, cm_eqB, cm_neB, cm_isN, cm_isnN, cm_inI, cm_inT, cm_ninI, cm_ninT, cm_eqUT, cm_neUT, cm_eqLT, cm_inUT, al_m, an_m, ss_tx, rv_u, rv_l, cm_inLU, cm_ninLU, ix_u0, ix_u1, nmod, ndiv, ncast, ncast0, Int.toNat_natCast, isN_n, isN_i, isN_s, isN_b, isN_u, isN_l, sl_to, sl_from, sl_mid, sl_toL, sl_fromL, sl_midL, sl_toU, sl_fromU, sl_midU, rv_tx, ln_tx, ln_lst, ln_l, ln_u, ab_int, in_int, tu_lst, tu_tup, li_lst, li_tup, mx2, mn2, gc2, tr_int, isiD, ix_int, ix_intU, ix_md, ix_tx, Option.bind_some, Option.map_some, List.map_cons, List.map_nil, List.getElem?_cons_zero, List.getElem?_cons_succ, Bool.not_true, Bool.not_false, Bool.not_not, Bool.true_and, Bool.and_true, Bool.false_and, Bool.and_false, Bool.or_true, Bool.true_or, Bool.or_false, Bool.false_or]) rfl (by simp only [eqS]; rfl)
    | int b =>
      refine run_ifF (by simp -implicitDefEqProofs (disch := first | omega | (simp only [List.length_append, List.length_take, List.length_drop, List.length_cons, List.length_nil, List.length_reverse, List.length_map, List.length_range]; omega)) only [E_var, E_cstI, E_cstN, E_cstB, E_cstS, E_glb, E_tup, E_lst, E_bin, E_neg, E_inv, E_cmp, E_chn, E_and, E_or, A_one, A_cons, O_one, O_cons, E_ife, E_ix, E_sl, E_rev, E_call, E_b1, E_b2, E_isi, E_m1, T_var, T_cst, T_glb, T_tup, T_lst, T_bin, T_ix, T_sl, T_call, T_b1, T_b2, T_isi, T_m1, truR_b, truR_i, truR_n, truR_t, truR_u, truR_l, truR_f, truR_o, V_nil, V_cons, Q_no, Q_so, oiR_i, slV_va, slV_ow, slV_lk, slV_rd, negR_i, asB_b, thenB_b, elseB_b, thenB_t, thenB_f, elseB_t, elseB_f, iteR_t, iteR_f, iteR_i, iteR_T, notBR_d, notBR_f, toD_d, toD_f, toD_b, share_d, share_f, SA_nil, SA_cons, bn_add, bn_sub, bn_mod, bn_div, bn_mulR, bn_mulL, bn_addT, bn_mulTn, bn_mulT2, pw18, pw20, Int.natAbs_natCast, List.length_map, cm_eqI, cm_neI, cm_ltI, cm_gtI, cm_leI, cm_geI, cm_eqT, cm_neT, cm_eqB, cm_neB, cm_isN, cm_isnN, cm_inI, cm_inT, cm_ninI, cm_ninT, cm_eqUT, cm_neUT, cm_eqLT, cm_inUT, al_m, an_m, ss_tx, rv_u, rv_l, cm_inLU, cm_ninLU, ix_u0, ix_u1, nmod, ndiv, ncast, ncast0, Int.toNat_natCast, isN_n, isN_i, isN_s, isN_b, isN_u, isN_l, sl_to, sl_from, sl_mid, sl_toL, sl_fromL, sl_midL, sl_toU, sl_fromU, sl_midU, rv_tx, ln_tx, ln_lst, ln_l, ln_u, ab_int, in_int, tu_lst, tu_tup, li_lst, li_tup, mx2, mn2, gc2, tr_int, isiD, ix_int, ix_intU, ix_md, ix_tx, Option.bind_some, Option.map_some, List.map_cons, List.map_nil, List.getElem?_cons_zero, List.getElem?_cons_succ, Bool.not_true, Bool.not_false, Bool.not_not, Bool.true_and, Bool.and_true, Bool.false_and, Bool.and_false, Bool.or_true, Bool.true_or, Bool.or_false, Bool.false_or]) (run_ifF (by simp -implicitDefEqProofs (disch := first | omega | (simp only [List.length_append, List.length_take, List.length_drop, List.length_cons, List.length_nil, List.length_reverse, List.length_map, List.length_range]; omega)) only [E_var, E_cstI, E_cstN, E_cstB, E_cstS, E_glb, E_tup, E_lst, E_bin, E_neg, E_inv, E_cmp, E_chn, E_and, E_or, A_one, A_cons, O_one, O_cons, E_ife, E_ix, E_sl, E_rev, E_call, E_b1, E_b2, E_isi, E_m1, T_var, T_cst, T_glb, T_tup, T_lst, T_bin, T_ix, T_sl, T_call, T_b1, T_b2, T_isi, T_m1, truR_b, truR_i, truR_n, truR_t, truR_u, truR_l, truR_f, truR_o, V_nil, V_cons, Q_no, Q_so, oiR_i, slV_va, slV_ow, slV_lk, slV_rd, negR_i, asB_b, thenB_b, elseB_b, thenB_t, thenB_f, elseB_t, elseB_f, iteR_t, iteR_f, iteR_i, iteR_T, notBR_d, notBR_f, toD_d, toD_f, toD_b, share_d, share_f, SA_nil, SA_cons, bn_add, bn_sub, bn_mod, bn_div, bn_mulR, bn_mulL, bn_addT, bn_mulTn, bn_mulT2, pw18, pw20, Int.natAbs_natCast, List.length_map, cm_eqI, cm_neI, cm_ltI, cm_gtI, cm_leI, cm_geI, cm_eqT, cm_neT, cm_eqB, cm_neB, cm_isN, cm_isnN, cm_inI, cm_inT, cm_ninI, cm_ninT, cm_eqUT, cm_neUT, cm_eqLT, cm_inUT, al_m, an_m, ss_tx, rv_u, rv_l, cm_inLU, cm_ninLU, ix_u0, ix_u1, nmod, ndiv, ncast, ncast0, Int.toNat_natCast, isN_n, isN_i, isN_s, isN_b, isN_u, isN_l, sl_to, sl_from, sl_mid, sl_toL, sl_fromL, sl_midL, sl_toU, sl_fromU, sl_midU, rv_tx, ln_tx, ln_lst, ln_l, ln_u, ab_int, in_int, tu_lst, tu_tup, li_lst, li_tup, mx2, mn2, gc2, tr_int, isiD, ix_int, ix_intU, ix_md, ix_tx, Option.bind_some, Option.map_some, List.map_cons, List.map_nil, List.getElem?_cons_zero, List.getElem?_cons_succ, Bool.not_true, Bool.not_false, Bool.not_not, Bool.true_and, Bool.and_true, Bool.false_and, Bool.and_false, Bool.or_true, Bool.true_or, Bool.or_false, Bool.false_or]) (run_if (p := true) (by simp -implicitDefEqProofs (disch := first | omega | (simp only [List.length_append, List.length_take, List.length_drop, List.length_cons, List.length_nil, List.length_reverse, List.length_map, List.length_range]; omega)) only [E_var, E_cstI, E_cstN, E_cstB, E_cstS, E_glb, E_tup, E_lst, E_bin, E_neg, E_inv, E_cmp, E_chn, E_and, E_or, A_one, A_cons, O_one, O_cons, E_ife, E_ix, E_sl, E_rev, E_call, E_b1, E_b2, E_isi, E_m1, T_var, T_cst, T_glb, T_tup, T_lst, T_bin, T_ix, T_sl, T_call, T_b1, T_b2, T_isi, T_m1, truR_b, truR_i, truR_n, truR_t, truR_u, truR_l, truR_f, truR_o, V_nil, V_cons, Q_no, Q_so, oiR_i, slV_va, slV_ow, slV_lk, slV_rd, negR_i, asB_b, thenB_b, elseB_b, thenB_t, thenB_f, elseB_t, elseB_f, iteR_t, iteR_f, iteR_i, iteR_T, notBR_d, notBR_f, toD_d, toD_f, toD_b, share_d, share_f, SA_nil, SA_cons, bn_add, bn_sub, bn_mod, bn_div, bn_mulR, bn_mulL, bn_addT, bn_mulTn, bn_mulT2, pw18, pw20, Int.natAbs_natCast, List.length_map, cm_eqI, cm_neI, cm_ltI, cm_gtI, cm_leI, cm_geI, cm_eqT, cm_neT, cm_eqB, cm_neB, cm_isN, cm_isnN, cm_inI, cm_inT, cm_ninI, cm_ninT, cm_eqUT, cm_neUT, cm_eqLT, cm_inUT, al_m, an_m, ss_tx, rv_u, rv_l, cm_inLU, cm_ninLU, ix_u0, ix_u1, nmod, ndiv, ncast, ncast0, Int.toNat_natCast, isN_n, isN_i, isN_s, isN_b, isN_u, isN_l, sl_to, sl_from, sl_mid, sl_toL, sl_fromL, sl_midL, sl_toU, sl_fromU, sl_midU, rv_tx, ln_tx, ln_lst, ln_l, ln_u, ab_int, in_int, tu_lst, tu_tup, li_lst, li_tup, mx2, mn2, gc2, tr_int, isiD, ix_int, ix_intU, ix_md, ix_tx, Option.bind_some, Option.map_some, List.map_cons, List.map_nil, List.getElem?_cons_zero, List.getElem?_cons_succ, Bool.not_true, Bool.not_false, Bool.not_not, Bool.true_and, Bool.and_true, Bool.false_and, Bool.and_false, Bool.or_true, Bool.true_or, Bool.or_false, Bool.false_or]) (fun _ => ?_) fun z => by cases z))
      cases d with
      | int a =>
        have hi : call G T W (n + k + 1) J [.int a] = some (.d (.bool true)) := hi
        exact run_ret (r := .d (.bool (decide (a = b)))) (by simp -implicitDefEqProofs (disch := first | omega | (simp only [List.length_append, List.length_take, List.length_drop, List.length_cons, List.length_nil, List.length_reverse, List.length_map, List.length_range]; omega)) only [E_var, E_cstI, E_cstN, E_cstB, E_cstS, E_glb, E_tup, E_lst, E_bin, E_neg, E_inv, E_cmp, E_chn, E_and, E_or, A_one, A_cons, O_one, O_cons, E_ife, E_ix, E_sl, E_rev, E_call, E_b1, E_b2, E_isi, E_m1, T_var, T_cst, T_glb, T_tup, T_lst, T_bin, T_ix, T_sl, T_call, T_b1, T_b2, T_isi, T_m1, truR_b, truR_i, truR_n, truR_t, truR_u, truR_l, truR_f, truR_o, V_nil, V_cons, Q_no, Q_so, oiR_i, slV_va, slV_ow, slV_lk, slV_rd, negR_i, asB_b, thenB_b, elseB_b, thenB_t, thenB_f, elseB_t, elseB_f, iteR_t, iteR_f, iteR_i, iteR_T, notBR_d, notBR_f, toD_d, toD_f, toD_b, share_d, share_f, SA_nil, SA_cons, bn_add, bn_sub, bn_mod, bn_div, bn_mulR, bn_mulL, bn_addT, bn_mulTn, bn_mulT2, pw18, pw20, Int.natAbs_natCast, List.length_map, cm_eqI, cm_neI, cm_ltI, cm_gtI, cm_leI, cm_geI, cm_eqT, cm_neT, cm_eqB, cm_neB, cm_isN, cm_isnN, cm_inI, cm_inT, cm_ninI, cm_ninT, cm_eqUT, cm_neUT, cm_eqLT, cm_inUT, al_m, an_m, ss_tx, rv_u, rv_l, cm_inLU, cm_ninLU, ix_u0, ix_u1, nmod, ndiv, ncast, ncast0, Int.toNat_natCast, isN_n, isN_i, isN_s, isN_b, isN_u, isN_l, sl_to, sl_from, sl_mid, sl_toL, sl_fromL, sl_midL, sl_toU, sl_fromU, sl_midU, rv_tx, ln_tx, ln_lst, ln_l, ln_u, ab_int, in_int, tu_lst, tu_tup, li_lst, li_tup, mx2, mn2, gc2, tr_int, isiD, ix_int, ix_intU, ix_md, ix_tx, Option.bind_some, Option.map_some, List.map_cons, List.map_nil, List.getElem?_cons_zero, List.getElem?_cons_succ, Bool.not_true, Bool.not_false, Bool.not_not, Bool.true_and, Bool.and_true, Bool.false_and, Bool.and_false, Bool.or_true, Bool.true_or, Bool.or_false, Bool.false_or, hi]) rfl (by simp only [eqS]; rfl)
      | list xs => exact (hd xs rfl).elim
      | dict xs => exact (hd2 xs rfl).elim
      | none =>
        have hi : call G T W (n + k + 1) J [.none] = some (.d (.bool false)) := hi
        exact run_ret (r := .d (.bool false)) (by simp -implicitDefEqProofs (disch := first | omega | (simp only [List.length_append, List.length_take, List.length_drop, List.length_cons, List.length_nil, List.length_reverse, List.length_map, List.length_range]; omega)) only [E_var, E_cstI, E_cstN, E_cstB, E_cstS, E_glb, E_tup, E_lst, E_bin, E_neg, E_inv, E_cmp, E_chn, E_and, E_or, A_one, A_cons, O_one, O_cons, E_ife, E_ix, E_sl, E_rev, E_call, E_b1, E_b2, E_isi, E_m1, T_var, T_cst, T_glb, T_tup, T_lst, T_bin, T_ix, T_sl, T_call, T_b1, T_b2, T_isi, T_m1, truR_b, truR_i, truR_n, truR_t, truR_u, truR_l, truR_f, truR_o, V_nil, V_cons, Q_no, Q_so, oiR_i, slV_va, slV_ow, slV_lk, slV_rd, negR_i, asB_b, thenB_b, elseB_b, thenB_t, thenB_f, elseB_t, elseB_f, iteR_t, iteR_f, iteR_i, iteR_T, notBR_d, notBR_f, toD_d, toD_f, toD_b, share_d, share_f, SA_nil, SA_cons, bn_add, bn_sub, bn_mod, bn_div, bn_mulR, bn_mulL, bn_addT, bn_mulTn, bn_mulT2, pw18, pw20, Int.natAbs_natCast, List.length_map, cm_eqI, cm_neI, cm_ltI, cm_gtI, cm_leI, cm_geI, cm_eqT, cm_neT, cm_eqB, cm_neB, cm_isN, cm_isnN, cm_inI, cm_inT, cm_ninI, cm_ninT, cm_eqUT, cm_neUT, cm_eqLT, cm_inUT, al_m, an_m, ss_tx, rv_u, rv_l, cm_inLU, cm_ninLU, ix_u0, ix_u1, nmod, ndiv, ncast, ncast0, Int.toNat_natCast, isN_n, isN_i, isN_s, isN_b, isN_u, isN_l, sl_to, sl_from, sl_mid, sl_toL, sl_fromL, sl_midL, sl_toU, sl_fromU, sl_midU, rv_tx, ln_tx, ln_lst, ln_l, ln_u, ab_int, in_int, tu_lst, tu_tup, li_lst, li_tup, mx2, mn2, gc2, tr_int, isiD, ix_int, ix_intU, ix_md, ix_tx, Option.bind_some, Option.map_some, List.map_cons, List.map_nil, List.getElem?_cons_zero, List.getElem?_cons_succ, Bool.not_true, Bool.not_false, Bool.not_not, Bool.true_and, Bool.and_true, Bool.false_and, Bool.and_false, Bool.or_true, Bool.true_or, Bool.or_false, Bool.false_or, hi]) rfl (by simp only [eqS]; rfl)
      | bool a =>
        have hi : call G T W (n + k + 1) J [.bool a] = some (.d (.bool false)) := hi
        exact run_ret (r := .d (.bool false)) (by simp -implicitDefEqProofs (disch := first | omega | (simp only [List.length_append, List.length_take, List.length_drop, List.length_cons, List.length_nil, List.length_reverse, List.length_map, List.length_range]; omega)) only [E_var, E_cstI, E_cstN, E_cstB, E_cstS, E_glb, E_tup, E_lst, E_bin, E_neg, E_inv, E_cmp, E_chn, E_and, E_or, A_one, A_cons, O_one, O_cons, E_ife, E_ix, E_sl, E_rev, E_call, E_b1, E_b2, E_isi, E_m1, T_var, T_cst, T_glb, T_tup, T_lst, T_bin, T_ix, T_sl, T_call, T_b1, T_b2, T_isi, T_m1, truR_b, truR_i, truR_n, truR_t, truR_u, truR_l, truR_f, truR_o, V_nil, V_cons, Q_no, Q_so, oiR_i, slV_va, slV_ow, slV_lk, slV_rd, negR_i, asB_b, thenB_b, elseB_b, thenB_t, thenB_f, elseB_t, elseB_f, iteR_t, iteR_f, iteR_i, iteR_T, notBR_d, notBR_f, toD_d, toD_f, toD_b, share_d, share_f, SA_nil, SA_cons, bn_add, bn_sub, bn_mod, bn_div, bn_mulR, bn_mulL, bn_addT, bn_mulTn, bn_mulT2, pw18, pw20, Int.natAbs_natCast, List.length_map, cm_eqI, cm_neI, cm_ltI, cm_gtI, cm_leI, cm_geI, cm_eqT, cm_neT, cm_eqB, cm_neB, cm_isN, cm_isnN, cm_inI, cm_inT, cm_ninI, cm_ninT, cm_eqUT, cm_neUT, cm_eqLT, cm_inUT, al_m, an_m, ss_tx, rv_u, rv_l, cm_inLU, cm_ninLU, ix_u0, ix_u1, nmod, ndiv, ncast, ncast0, Int.toNat_natCast, isN_n, isN_i, isN_s, isN_b, isN_u, isN_l, sl_to, sl_from, sl_mid, sl_toL, sl_fromL, sl_midL, sl_toU, sl_fromU, sl_midU, rv_tx, ln_tx, ln_lst, ln_l, ln_u, ab_int, in_int, tu_lst, tu_tup, li_lst, li_tup, mx2, mn2, gc2, tr_int, isiD, ix_int, ix_intU, ix_md, ix_tx, Option.bind_some, Option.map_some, List.map_cons, List.map_nil, List.getElem?_cons_zero, List.getElem?_cons_succ, Bool.not_true, Bool.not_false, Bool.not_not, Bool.true_and, Bool.and_true, Bool.false_and, Bool.and_false, Bool.or_true, Bool.true_or, Bool.or_false, Bool.false_or, hi]) rfl (by simp only [eqS]; rfl)
      | str a =>
        have hi : call G T W (n + k + 1) J [.str a] = some (.d (.bool false)) := hi
        exact run_ret (r := .d (.bool false)) (by simp -implicitDefEqProofs (disch := first | omega | (simp only [List.length_append, List.length_take, List.length_drop, List.length_cons, List.length_nil, List.length_reverse, List.length_map, List.length_range]; omega)) only [E_var, E_cstI, E_cstN, E_cstB, E_cstS, E_glb, E_tup, E_lst, E_bin, E_neg, E_inv, E_cmp, E_chn, E_and, E_or, A_one, A_cons, O_one, O_cons, E_ife, E_ix, E_sl, E_rev, E_call, E_b1, E_b2, E_isi, E_m1, T_var, T_cst, T_glb, T_tup, T_lst, T_bin, T_ix, T_sl, T_call, T_b1, T_b2, T_isi, T_m1, truR_b, truR_i, truR_n, truR_t, truR_u, truR_l, truR_f, truR_o, V_nil, V_cons, Q_no, Q_so, oiR_i, slV_va, slV_ow, slV_lk, slV_rd, negR_i, asB_b, thenB_b, elseB_b, thenB_t, thenB_f, elseB_t, elseB_f, iteR_t, iteR_f, iteR_i, iteR_T, notBR_d, notBR_f, toD_d, toD_f, toD_b, share_d, share_f, SA_nil, SA_cons, bn_add, bn_sub, bn_mod, bn_div, bn_mulR, bn_mulL, bn_addT, bn_mulTn, bn_mulT2, pw18, pw20, Int.natAbs_natCast, List.length_map, cm_eqI, cm_neI, cm_ltI, cm_gtI, cm_leI, cm_geI, cm_eqT, cm_neT, cm_eqB, cm_neB, cm_isN, cm_isnN, cm_inI, cm_inT, cm_ninI, cm_ninT, cm_eqUT, cm_neUT, cm_eqLT, cm_inUT, al_m, an_m, ss_tx, rv_u, rv_l, cm_inLU, cm_ninLU, ix_u0, ix_u1, nmod, ndiv, ncast, ncast0, Int.toNat_natCast, isN_n, isN_i, isN_s, isN_b, isN_u, isN_l, sl_to, sl_from, sl_mid, sl_toL, sl_fromL, sl_midL, sl_toU, sl_fromU, sl_midU, rv_tx, ln_tx, ln_lst, ln_l, ln_u, ab_int, in_int, tu_lst, tu_tup, li_lst, li_tup, mx2, mn2, gc2, tr_int, isiD, ix_int, ix_intU, ix_md, ix_tx, Option.bind_some, Option.map_some, List.map_cons, List.map_nil, List.getElem?_cons_zero, List.getElem?_cons_succ, Bool.not_true, Bool.not_false, Bool.not_not, Bool.true_and, Bool.and_true, Bool.false_and, Bool.and_false, Bool.or_true, Bool.true_or, Bool.or_false, Bool.false_or, hi]) rfl (by simp only [eqS]; rfl)
      | tuple a =>
        have hi : call G T W (n + k + 1) J [.tuple a] = some (.d (.bool false)) := hi
        exact run_ret (r := .d (.bool false)) (by simp -implicitDefEqProofs (disch := first | omega | (simp only [List.length_append, List.length_take, List.length_drop, List.length_cons, List.length_nil, List.length_reverse, List.length_map, List.length_range]; omega)) only [E_var, E_cstI, E_cstN, E_cstB, E_cstS, E_glb, E_tup, E_lst, E_bin, E_neg, E_inv, E_cmp, E_chn, E_and, E_or, A_one, A_cons, O_one, O_cons, E_ife, E_ix, E_sl, E_rev, E_call, E_b1, E_b2, E_isi, E_m1, T_var, T_cst, T_glb, T_tup, T_lst, T_bin, T_ix, T_sl, T_call, T_b1, T_b2, T_isi, T_m1, truR_b, truR_i, truR_n, truR_t, truR_u, truR_l, truR_f, truR_o, V_nil, V_cons, Q_no, Q_so, oiR_i, slV_va, slV_ow, slV_lk, slV_rd, negR_i, asB_b, thenB_b, elseB_b, thenB_t, thenB_f, elseB_t, elseB_f, iteR_t, iteR_f, iteR_i, iteR_T, notBR_d, notBR_f, toD_d, toD_f, toD_b, share_d, share_f, SA_nil, SA_cons, bn_add, bn_sub, bn_mod, bn_div, bn_mulR, bn_mulL, bn_addT, bn_mulTn, bn_mulT2, pw18, pw20, Int.natAbs_natCast, List.length_map, cm_eqI, cm_neI, cm_ltI, cm_gtI, cm_leI, cm_geI, cm_eqT, cm_neT, cm_eqB, cm_neB, cm_isN, cm_isnN, cm_inI, cm_inT, cm_ninI, cm_ninT, cm_eqUT, cm_neUT, cm_eqLT, cm_inUT, al_m, an_m, ss_tx, rv_u, rv_l, cm_inLU, cm_ninLU, ix_u0, ix_u1, nmod, ndiv, ncast, ncast0, Int.toNat_natCast, isN_n, isN_i, isN_s, isN_b, isN_u, isN_l, sl_to, sl_from, sl_mid, sl_toL, sl_fromL, sl_midL, sl_toU, sl_fromU, sl_midU, rv_tx, ln_tx, ln_lst, ln_l, ln_u, ab_int, in_int, tu_lst, tu_tup, li_lst, li_tup, mx2, mn2, gc2, tr_int, isiD, ix_int, ix_intU, ix_md, ix_tx, Option.bind_some, Option.map_some, List.map_cons, List.map_nil, List.getElem?_cons_zero, List.getElem?_cons_succ, Bool.not_true, Bool.not_false, Bool.not_not, Bool.true_and, Bool.and_true, Bool.false_and, Bool.and_false, Bool.or_true, Bool.true_or, Bool.or_false, Bool.false_or, hi]) rfl (by simp only [eqS]; rfl)
    | str b =>
      refine run_ifF (by simp -implicitDefEqProofs (disch := first | omega | (simp only [List.length_append, List.length_take, List.length_drop, List.length_cons, List.length_nil, List.length_reverse, List.length_map, List.length_range]; omega)) only [E_var, E_cstI, E_cstN, E_cstB, E_cstS, E_glb, E_tup, E_lst, E_bin, E_neg, E_inv, E_cmp, E_chn, E_and, E_or, A_one, A_cons, O_one, O_cons, E_ife, E_ix, E_sl, E_rev, E_call, E_b1, E_b2, E_isi, E_m1, T_var, T_cst, T_glb, T_tup, T_lst, T_bin, T_ix, T_sl, T_call, T_b1, T_b2, T_isi, T_m1, truR_b, truR_i, truR_n, truR_t, truR_u, truR_l, truR_f, truR_o, V_nil, V_cons, Q_no, Q_so, oiR_i, slV_va, slV_ow, slV_lk, slV_rd, negR_i, asB_b, thenB_b, elseB_b, thenB_t, thenB_f, elseB_t, elseB_f, iteR_t, iteR_f, iteR_i, iteR_T, notBR_d, notBR_f, toD_d, toD_f, toD_b, share_d, share_f, SA_nil, SA_cons, bn_add, bn_sub, bn_mod, bn_div, bn_mulR, bn_mulL, bn_addT, bn_mulTn, bn_mulT2, pw18, pw20, Int.natAbs_natCast, List.length_map, cm_eqI, cm_neI, cm_ltI, cm_gtI, cm_leI, cm_geI, cm_eqT, cm_neT, cm_eqB, cm_neB, cm_isN, cm_isnN, cm_inI, cm_inT, cm_ninI, cm_ninT, cm_eqUT, cm_neUT, cm_eqLT, cm_inUT, al_m, an_m, ss_tx, rv_u, rv_l, cm_inLU, cm_ninLU, ix_u0, ix_u1, nmod, ndiv, ncast, ncast0, Int.toNat_natCast, isN_n, isN_i, isN_s, isN_b, isN_u, isN_l, sl_to, sl_from, sl_mid, sl_toL, sl_fromL, sl_midL, sl_toU, sl_fromU, sl_midU, rv_tx, ln_tx, ln_lst, ln_l, ln_u, ab_int, in_int, tu_lst, tu_tup, li_lst, li_tup, mx2, mn2, gc2, tr_int, isiD, ix_int, ix_intU, ix_md, ix_tx, Option.bind_some, Option.map_some, List.map_cons, List.map_nil, List.getElem?_cons_zero, List.getElem?_cons_succ, Bool.not_true, Bool.not_false, Bool.not_not, Bool.true_and, Bool.and_true, Bool.false_and, Bool.and_false, Bool.or_true, Bool.true_or, Bool.or_false, Bool.false_or]) (run_ifF (by simp -implicitDefEqProofs (disch := first | omega | (simp only [List.length_append, List.length_take, List.length_drop, List.length_cons, List.length_nil, List.length_reverse, List.length_map, List.length_range]; omega)) only [E_var, E_cstI, E_cstN, E_cstB, E_cstS, E_glb, E_tup, E_lst, E_bin, E_neg, E_inv, E_cmp, E_chn, E_and, E_or, A_one, A_cons, O_one, O_cons, E_ife, E_ix, E_sl, E_rev, E_call, E_b1, E_b2, E_isi, E_m1, T_var, T_cst, T_glb, T_tup, T_lst, T_bin, T_ix, T_sl, T_call, T_b1, T_b2, T_isi, T_m1, truR_b, truR_i, truR_n, truR_t, truR_u, truR_l, truR_f, truR_o, V_nil, V_cons, Q_no, Q_so, oiR_i, slV_va, slV_ow, slV_lk, slV_rd, negR_i, asB_b, thenB_b, elseB_b, thenB_t, thenB_f, elseB_t, elseB_f, iteR_t, iteR_f, iteR_i, iteR_T, notBR_d, notBR_f, toD_d, toD_f, toD_b, share_d, share_f, SA_nil, SA_cons, bn_add, bn_sub, bn_mod, bn_div, bn_mulR, bn_mulL, bn_addT, bn_mulTn, bn_mulT2, pw18, pw20, Int.natAbs_natCast, List.length_map, cm_eqI, cm_neI, cm_ltI, cm_gtI, cm_leI, cm_geI, cm_eqT, cm_neT, cm_eqB, cm_neB, cm_isN, cm_isnN, cm_inI, cm_inT, cm_ninI, cm_ninT, cm_eqUT, cm_neUT, cm_eqLT, cm_inUT, al_m, an_m, ss_tx, rv_u, rv_l, cm_inLU, cm_ninLU, ix_u0, ix_u1, nmod, ndiv, ncast, ncast0, Int.toNat_natCast, isN_n, isN_i, isN_s, isN_b, isN_u, isN_l, sl_to, sl_from, sl_mid, sl_toL, sl_fromL, sl_midL, sl_toU, sl_fromU, sl_midU, rv_tx, ln_tx, ln_lst, ln_l, ln_u, ab_int, in_int, tu_lst, tu_tup, li_lst, li_tup, mx2, mn2, gc2, tr_int, isiD, ix_int, ix_intU, ix_md, ix_tx, Option.bind_some, Option.map_some, List.map_cons, List.map_nil, List.getElem?_cons_zero, List.getElem?_cons_succ, Bool.not_true, Bool.not_false, Bool.not_not, Bool.true_and, Bool.and_true, Bool.false_and, Bool.and_false, Bool.or_true, Bool.true_or, Bool.or_false, Bool.false_or]) (run_ifF (by simp -implicitDefEqProofs (disch := first | omega | (simp only [List.length_append, List.length_take, List.length_drop, List.length_cons, List.length_nil, List.length_reverse, List.length_map, List.length_range]; omega)) only [E_var, E_cstI, E_cstN, E_cstB, E_cstS, E_glb, E_tup, E_lst, E_bin, E_neg, E_inv, E_cmp, E_chn, E_and, E_or, A_one, A_cons, O_one, O_cons, E_ife, E_ix, E_sl, E_rev, E_call, E_b1, E_b2, E_isi, E_m1, T_var, T_cst, T_glb, T_tup, T_lst, T_bin, T_ix, T_sl, T_call, T_b1, T_b2, T_isi, T_m1, truR_b, truR_i, truR_n, truR_t, truR_u, truR_l, truR_f, truR_o, V_nil, V_cons, Q_no, Q_so, oiR_i, slV_va, slV_ow, slV_lk, slV_rd, negR_i, asB_b, thenB_b, elseB_b, thenB_t, thenB_f, elseB_t, elseB_f, iteR_t, iteR_f, iteR_i, iteR_T, notBR_d, notBR_f, toD_d, toD_f, toD_b, share_d, share_f, SA_nil, SA_cons, bn_add, bn_sub, bn_mod, bn_div, bn_mulR, bn_mulL, bn_addT, bn_mulTn, bn_mulT2, pw18, pw20, Int.natAbs_natCast, List.length_map, cm_eqI, cm_neI, cm_ltI, cm_gtI, cm_leI, cm_geI, cm_eqT, cm_neT, cm_eqB, cm_neB, cm_isN, cm_isnN, cm_inI, cm_inT, cm_ninI, cm_ninT, cm_eqUT, cm_neUT, cm_eqLT, cm_inUT, al_m, an_m, ss_tx, rv_u, rv_l, cm_inLU, cm_ninLU, ix_u0, ix_u1, nmod, ndiv, ncast, ncast0, Int.toNat_natCast, isN_n, isN_i, isN_s, isN_b, isN_u, isN_l, sl_to, sl_from, sl_mid, sl_toL, sl_fromL, sl_midL, sl_toU, sl_fromU, sl_midU, rv_tx, ln_tx, ln_lst, ln_l, ln_u, ab_int, in_int, tu_lst, tu_tup, li_lst, li_tup, mx2, mn2, gc2, tr_int, isiD, ix_int, ix_intU, ix_md, ix_tx, Option.bind_some, Option.map_some, List.map_cons, List.map_nil, List.getElem?_cons_zero, List.getElem?_cons_succ, Bool.not_true, Bool.not_false, Bool.not_not, Bool.true_and, Bool.and_true, Bool.false_and, Bool.and_false, Bool.or_true, Bool.true_or, Bool.or_false, Bool.false_or]) (run_if (p := true) (by simp -implicitDefEqProofs (disch := first | omega | (simp only [List.length_append, List.length_take, List.length_drop, List.length_cons, List.length_nil, List.length_reverse, List.length_map, List.length_range]; omega)) only [E_var, E_cstI, E_cstN, E_cstB, E_cstS, E_glb, E_tup, E_lst, E_bin, E_neg, E_inv, E_cmp, E_chn, E_and, E_or, A_one, A_cons, O_one, O_cons, E_ife, E_ix, E_sl, E_rev, E_call, E_b1, E_b2, E_isi, E_m1, T_var, T_cst, T_glb, T_tup, T_lst, T_bin, T_ix, T_sl, T_call, T_b1, T_b2, T_isi, T_m1, truR_b, truR_i, truR_n, truR_t, truR_u, truR_l, truR_f, truR_o, V_nil, V_cons, Q_no, Q_so, oiR_i, slV_va, slV_ow, slV_lk, slV_rd, negR_i, asB_b, thenB_b, elseB_b, thenB_t, thenB_f, elseB_t, elseB_f, iteR_t, iteR_f, iteR_i, iteR_T, notBR_d, notBR_f, toD_d, toD_f, toD_b, share_d, share_f, SA_nil, SA_cons, bn_add, bn_sub, bn_mod, bn_div, bn_mulR, bn_mulL, bn_addT, bn_mulTn, bn_mulT2, pw18, pw20, Int.natAbs_natCast, List.length_map, cm_eqI, cm_neI, cm_ltI, cm_gtI, cm_leI, cm_geI, cm_eqT, cm_neT, cm_eqB, cm_neB, cm_isN, cm_isnN, cm_inI, cm_inT, cm_ninI, cm_ninT, cm_eqUT, cm_neUT, cm_eqLT, cm_inUT, al_m, an_m, ss_tx, rv_u, rv_l, cm_inLU, cm_ninLU, ix_u0, ix_u1, nmod, ndiv, ncast, ncast0, Int.toNat_natCast, isN_n, isN_i, isN_s, isN_b, isN_u, isN_l, sl_to, sl_from, sl_mid, sl_toL, sl_fromL, sl_midL, sl_toU, sl_fromU, sl_midU, rv_tx, ln_tx, ln_lst, ln_l, ln_u, ab_int, in_int, tu_lst, tu_tup, li_lst, li_tup, mx2, mn2, gc2, tr_int, isiD, ix_int, ix_intU, ix_md, ix_tx, Option.bind_some, Option.map_some, List.map_cons, List.map_nil, List.getElem?_cons_zero, List.getElem?_cons_succ, Bool.not_true, Bool.not_false, Bool.not_not, Bool.true_and, Bool.and_true, Bool.false_and, Bool.and_false, Bool.or_true, Bool.true_or, Bool.or_false, Bool.false_or]) (fun _ => ?_) fun z => by cases z)))
      cases d with
      | str a =>
        obtain ⟨l, rfl⟩ : ∃ l, a = mkS l := ⟨cs a, (mkS_cs a).symm⟩
        obtain ⟨l', rfl⟩ : ∃ l, b = mkS l := ⟨cs b, (mkS_cs b).symm⟩
        exact run_ret (r := .d (.bool (decide (l = l')))) (by simp -implicitDefEqProofs (disch := first | omega | (simp only [List.length_append, List.length_take, List.length_drop, List.length_cons, List.length_nil, List.length_reverse, List.length_map, List.length_range]; omega)) only [E_var, E_cstI, E_cstN, E_cstB, E_cstS, E_glb, E_tup, E_lst, E_bin, E_neg, E_inv, E_cmp, E_chn, E_and, E_or, A_one, A_cons, O_one, O_cons, E_ife, E_ix, E_sl, E_rev, E_call, E_b1, E_b2, E_isi, E_m1, T_var, T_cst, T_glb, T_tup, T_lst, T_bin, T_ix, T_sl, T_call, T_b1, T_b2, T_isi, T_m1, truR_b, truR_i, truR_n, truR_t, truR_u, truR_l, truR_f, truR_o, V_nil, V_cons, Q_no, Q_so, oiR_i, slV_va, slV_ow, slV_lk, slV_rd, negR_i, asB_b, thenB_b, elseB_b, thenB_t, thenB_f, elseB_t, elseB_f, iteR_t, iteR_f, iteR_i, iteR_T, notBR_d, notBR_f, toD_d, toD_f, toD_b, share_d, share_f, SA_nil, SA_cons, bn_add, bn_sub, bn_mod, bn_div, bn_mulR, bn_mulL, bn_addT, bn_mulTn, bn_mulT2, pw18, pw20, Int.natAbs_natCast, List.length_map, cm_eqI, cm_neI, cm_ltI, cm_gtI, cm_leI, cm_geI, cm_eqT, cm_neT, cm_eqB, cm_neB, cm_isN, cm_isnN, cm_inI, cm_inT, cm_ninI, cm_ninT, cm_eqUT, cm_neUT, cm_eqLT, cm_inUT, al_m, an_m, ss_tx, rv_u, rv_l, cm_inLU, cm_ninLU, ix_u0, ix_u1, nmod, ndiv, ncast, ncast0, Int.toNat_natCast, isN_n, isN_i, isN_s, isN_b, isN_u, isN_l, sl_to, sl_from, sl_mid, sl_toL, sl_fromL, sl_midL, sl_toU, sl_fromU, sl_midU, rv_tx, ln_tx, ln_lst, ln_l, ln_u, ab_int, in_int, tu_lst, tu_tup, li_lst, li_tup, mx2, mn2, gc2, tr_int, isiD, ix_int, ix_intU, ix_md, ix_tx, Option.bind_some, Option.map_some, List.map_cons, List.map_nil, List.getElem?_cons_zero, List.getElem?_cons_succ, Bool.not_true, Bool.not_false, Bool.not_not, Bool.true_and, Bool.and_true, Bool.false_and, Bool.and_false, Bool.or_true, Bool.true_or, Bool.or_false, Bool.false_or]) rfl (by simp only [eqS, cs_mkS]; rfl)
      | list xs => exact (hd xs rfl).elim
      | dict xs => exact (hd2 xs rfl).elim
      | _ => exact run_ret (r := .d (.bool false)) (by simp -implicitDefEqProofs (disch := first | omega | (simp only [List.length_append, List.length_take, List.length_drop, List.length_cons, List.length_nil, List.length_reverse, List.length_map, List.length_range]; omega)) only [E_var, E_cstI, E_cstN, E_cstB, E_cstS, E_glb, E_tup, E_lst, E_bin, E_neg, E_inv, E_cmp, E_chn, E_and, E_or, A_one, A_cons, O_one, O_cons, E_ife, E_ix, E_sl, E_rev, E_call, E_b1, E_b2, E_isi, E_m1, T_var, T_cst, T_glb, T_tup, T_lst, T_bin, T_ix, T_sl, T_call, T_b1, T_b2, T_isi, T_m1, truR_b, truR_i, truR_n, truR_t, truR_u, truR_l, truR_f, truR_o, V_nil, V_cons, Q_no, Q_so, oiR_i, slV_va, slV_ow, slV_lk, slV_rd, negR_i, asB_b, thenB_b, elseB_b, thenB_t, thenB_f, elseB_t, elseB_f, iteR_t, iteR_f, iteR_i, iteR_T, notBR_d, notBR_f, toD_d, toD_f, toD_b, share_d, share_f, SA_nil, SA_cons, bn_add, bn_sub, bn_mod, bn_div, bn_mulR, bn_mulL, bn_addT, bn_mulTn, bn_mulT2, pw18, pw20, Int.natAbs_natCast, List.length_map, cm_eqI, cm_neI, cm_ltI, cm_gtI, cm_leI, cm_geI, cm_eqT, cm_neT, cm_eqB, cm_neB, cm_isN, cm_isnN, cm_inI, cm_inT, cm_ninI, cm_ninT, cm_eqUT, cm_neUT, cm_eqLT, cm_inUT, al_m, an_m, ss_tx, rv_u, rv_l, cm_inLU, cm_ninLU, ix_u0, ix_u1, nmod, ndiv, ncast, ncast0, Int.toNat_natCast, isN_n, isN_i, isN_s, isN_b, isN_u, isN_l, sl_to, sl_from, sl_mid, sl_toL, sl_fromL, sl_midL, sl_toU, sl_fromU, sl_midU, rv_tx, ln_tx, ln_lst, ln_l, ln_u, ab_int, in_int, tu_lst, tu_tup, li_lst, li_tup, mx2, mn2, gc2, tr_int, isiD, ix_int, ix_intU, ix_md, ix_tx, Option.bind_some, Option.map_some, List.map_cons, List.map_nil, List.getElem?_cons_zero, List.getElem?_cons_succ, Bool.not_true, Bool.not_false, Bool.not_not, Bool.true_and, Bool.and_true, Bool.false_and, Bool.and_false, Bool.or_true, Bool.true_or, Bool.or_false, Bool.false_or]) rfl (by simp only [eqS]; rfl)
    | tuple ys =>
      refine run_ifF (by simp -implicitDefEqProofs (disch := first | omega | (simp only [List.length_append, List.length_take, List.length_drop, List.length_cons, List.length_nil, List.length_reverse, List.length_map, List.length_range]; omega)) only [E_var, E_cstI, E_cstN, E_cstB, E_cstS, E_glb, E_tup, E_lst, E_bin, E_neg, E_inv, E_cmp, E_chn, E_and, E_or, A_one, A_cons, O_one, O_cons, E_ife, E_ix, E_sl, E_rev, E_call, E_b1, E_b2, E_isi, E_m1, T_var, T_cst, T_glb, T_tup, T_lst, T_bin, T_ix, T_sl, T_call, T_b1, T_b2, T_isi, T_m1, truR_b, truR_i, truR_n, truR_t, truR_u, truR_l, truR_f, truR_o, V_nil, V_cons, Q_no, Q_so, oiR_i, slV_va, slV_ow, slV_lk, slV_rd, negR_i, asB_b, thenB_b, elseB_b, thenB_t, thenB_f, elseB_t, elseB_f, iteR_t, iteR_f, iteR_i, iteR_T, notBR_d, notBR_f, toD_d, toD_f, toD_b, share_d, share_f, SA_nil, SA_cons, bn_add, bn_sub, bn_mod, bn_div, bn_mulR, bn_mulL, bn_addT, bn_mulTn, bn_mulT2, pw18, pw20, Int.natAbs_natCast, List.length_map, cm_eqI, cm_neI, cm_ltI, cm_gtI, cm_leI, cm_geI, cm_eqT, cm_neT, cm_eqB, cm_neB, cm_isN, cm_isnN, cm_inI, cm_inT, cm_ninI, cm_ninT, cm_eqUT, cm_neUT, cm_eqLT, cm_inUT, al_m, an_m, ss_tx, rv_u, rv_l, cm_inLU, cm_ninLU, ix_u0, ix_u1, nmod, ndiv, ncast, ncast0, Int.toNat_natCast, isN_n, isN_i, isN_s, isN_b, isN_u, isN_l, sl_to, sl_from, sl_mid, sl_toL, sl_fromL, sl_midL, sl_toU, sl_fromU, sl_midU, rv_tx, ln_tx, ln_lst, ln_l, ln_u, ab_int, in_int, tu_lst, tu_tup, li_lst, li_tup, mx2, mn2, gc2, tr_int, isiD, ix_int, ix_intU, ix_md, ix_tx, Option.bind_some, Option.map_some, List.map_cons, List.map_nil, List.getElem?_cons_zero, List.getElem?_cons_succ, Bool.not_true, Bool.not_false, Bool.not_not, Bool.true_and, Bool.and_true, Bool.false_and, Bool.and_false, Bool.or_true, Bool.true_or, Bool.or_false, Bool.false_or]) (run_ifF (by simp -implicitDefEqProofs (disch := first | omega | (simp only [List.length_append, List.length_take, List.length_drop, List.length_cons, List.length_nil, List.length_reverse, List.length_map, List.length_range]; omega)) only [E_var, E_cstI, E_cstN, E_cstB, E_cstS, E_glb, E_tup, E_lst, E_bin, E_neg, E_inv, E_cmp, E_chn, E_and, E_or, A_one, A_cons, O_one, O_cons, E_ife, E_ix, E_sl, E_rev, E_call, E_b1, E_b2, E_isi, E_m1, T_var, T_cst, T_glb, T_tup, T_lst, T_bin, T_ix, T_sl, T_call, T_b1, T_b2, T_isi, T_m1, truR_b, truR_i, truR_n, truR_t, truR_u, truR_l, truR_f, truR_o, V_nil, V_cons, Q_no, Q_so, oiR_i, slV_va, slV_ow, slV_lk, slV_rd, negR_i, asB_b, thenB_b, elseB_b, thenB_t, thenB_f, elseB_t, elseB_f, iteR_t, iteR_f, iteR_i, iteR_T, notBR_d, notBR_f, toD_d, toD_f, toD_b, share_d, share_f, SA_nil, SA_cons, bn_add, bn_sub, bn_mod, bn_div, bn_mulR, bn_mulL, bn_addT, bn_mulTn, bn_mulT2, pw18, pw20, Int.natAbs_natCast, List.length_map, cm_eqI, cm_neI, cm_ltI, cm_gtI, cm_leI, cm_geI, cm_eqT, cm_neT, cm_eqB, cm_neB, cm_isN, cm_isnN, cm_inI, cm_inT, cm_ninI, cm_ninT, cm_eqUT, cm_neUT, cm_eqLT, cm_inUT, al_m, an_m, ss_tx, rv_u, rv_l, cm_inLU, cm_ninLU, ix_u0, ix_u1, nmod, ndiv, ncast, ncast0, Int.toNat_natCast, isN_n, isN_i, isN_s, isN_b, isN_u, isN_l, sl_to, sl_from, sl_mid, sl_toL, sl_fromL, sl_midL, sl_toU, sl_fromU, sl_midU, rv_tx, ln_tx, ln_lst, ln_l, ln_u, ab_int, in_int, tu_lst, tu_tup, li_lst, li_tup, mx2, mn2, gc2, tr_int, isiD, ix_int, ix_intU, ix_md, ix_tx, Option.bind_some, Option.map_some, List.map_cons, List.map_nil, List.getElem?_cons_zero, List.getElem?_cons_succ, Bool.not_true, Bool.not_false, Bool.not_not, Bool.true_and, Bool.and_true, Bool.false_and, Bool.and_false, Bool.or_true, Bool.true_or, Bool.or_false, Bool.false_or]) (run_ifF (by simp -implicitDefEqProofs (disch := first | omega | (simp only [List.length_append, List.length_take, List.length_drop, List.length_cons, List.length_nil, List.length_reverse, List.length_map, List.length_range]; omega)) only [E_var, E_cstI, E_cstN, E_cstB, E_cstS, E_glb, E_tup, E_lst, E_bin, E_neg, E_inv, E_cmp, E_chn, E_and, E_or, A_one, A_cons, O_one, O_cons, E_ife, E_ix, E_sl, E_rev, E_call, E_b1, E_b2, E_isi, E_m1, T_var, T_cst, T_glb, T_tup, T_lst, T_bin, T_ix, T_sl, T_call, T_b1, T_b2, T_isi, T_m1, truR_b, truR_i, truR_n, truR_t, truR_u, truR_l, truR_f, truR_o, V_nil, V_cons, Q_no, Q_so, oiR_i, slV_va, slV_ow, slV_lk, slV_rd, negR_i, asB_b, thenB_b, elseB_b, thenB_t, thenB_f, elseB_t, elseB_f, iteR_t, iteR_f, iteR_i, iteR_T, notBR_d, notBR_f, toD_d, toD_f, toD_b, share_d, share_f, SA_nil, SA_cons, bn_add, bn_sub, bn_mod, bn_div, bn_mulR, bn_mulL, bn_addT, bn_mulTn, bn_mulT2, pw18, pw20, Int.natAbs_natCast, List.length_map, cm_eqI, cm_neI, cm_ltI, cm_gtI, cm_leI, cm_geI, cm_eqT, cm_neT, cm_eqB, cm_neB, cm_isN, cm_isnN, cm_inI, cm_inT, cm_ninI, cm_ninT, cm_eqUT, cm_neUT, cm_eqLT, cm_inUT, al_m, an_m, ss_tx, rv_u, rv_l, cm_inLU, cm_ninLU, ix_u0, ix_u1, nmod, ndiv, ncast, ncast0, Int.toNat_natCast, isN_n, isN_i, isN_s, isN_b, isN_u, isN_l, sl_to, sl_from, sl_mid, sl_toL, sl_fromL, sl_midL, sl_toU, sl_fromU, sl_midU, rv_tx, ln_tx, ln_lst, ln_l, ln_u, ab_int, in_int, tu_lst, tu_tup, li_lst, li_tup, mx2, mn2, gc2, tr_int, isiD, ix_int, ix_intU, ix_md, ix_tx, Option.bind_some, Option.map_some, List.map_cons, List.map_nil, List.getElem?_cons_zero, List.getElem?_cons_succ, Bool.not_true, Bool.not_false, Bool.not_not, Bool.true_and, Bool.and_true, Bool.false_and, Bool.and_false, Bool.or_true, Bool.true_or, Bool.or_false, Bool.false_or]) (run_ifF (by simp -implicitDefEqProofs (disch := first | omega | (simp only [List.length_append, List.length_take, List.length_drop, List.length_cons, List.length_nil, List.length_reverse, List.length_map, List.length_range]; omega)) only [E_var, E_cstI, E_cstN, E_cstB, E_cstS, E_glb, E_tup, E_lst, E_bin, E_neg, E_inv, E_cmp, E_chn, E_and, E_or, A_one, A_cons, O_one, O_cons, E_ife, E_ix, E_sl, E_rev, E_call, E_b1, E_b2, E_isi, E_m1, T_var, T_cst, T_glb, T_tup, T_lst, T_bin, T_ix, T_sl, T_call, T_b1, T_b2, T_isi, T_m1, truR_b, truR_i, truR_n, truR_t, truR_u, truR_l, truR_f, truR_o, V_nil, V_cons, Q_no, Q_so, oiR_i, slV_va, slV_ow, slV_lk, slV_rd, negR_i, asB_b, thenB_b, elseB_b, thenB_t, thenB_f, elseB_t, elseB_f, iteR_t, iteR_f, iteR_i, iteR_T, notBR_d, notBR_f, toD_d, toD_f, toD_b, share_d, share_f, SA_nil, SA_cons, bn_add, bn_sub, bn_mod, bn_div, bn_mulR, bn_mulL, bn_addT, bn_mulTn, bn_mulT2, pw18, pw20, Int.natAbs_natCast, List.length_map, cm_eqI, cm_neI, cm_ltI, cm_gtI, cm_leI, cm_geI, cm_eqT, cm_neT, cm_eqB, cm_neB, cm_isN, cm_isnN, cm_inI, cm_inT, cm_ninI, cm_ninT, cm_eqUT, cm_neUT, cm_eqLT, cm_inUT, al_m, an_m, ss_tx, rv_u, rv_l, cm_inLU, cm_ninLU, ix_u0, ix_u1, nmod, ndiv, ncast, ncast0, Int.toNat_natCast, isN_n, isN_i, isN_s, isN_b, isN_u, isN_l, sl_to, sl_from, sl_mid, sl_toL, sl_fromL, sl_midL, sl_toU, sl_fromU, sl_midU, rv_tx, ln_tx, ln_lst, ln_l, ln_u, ab_int, in_int, tu_lst, tu_tup, li_lst, li_tup, mx2, mn2, gc2, tr_int, isiD, ix_int, ix_intU, ix_md, ix_tx, Option.bind_some, Option.map_some, List.map_cons, List.map_nil, List.getElem?_cons_zero, List.getElem?_cons_succ, Bool.not_true, Bool.not_false, Bool.not_not, Bool.true_and, Bool.and_true, Bool.false_and, Bool.and_false, Bool.or_true, Bool.true_or, Bool.or_false, Bool.false_or]) ?_)))
      cases d with
      | list xs => exact (hd xs rfl).elim
      | dict xs => exact (hd2 xs rfl).elim
      | tuple xs =>
        by_cases hl : xs.length = ys.length
        · refine run_ifF (by simp -implicitDefEqProofs (disch := first | omega | (simp only [List.length_append, List.length_take, List.length_drop, List.length_cons, List.length_nil, List.length_reverse, List.length_map, List.length_range]; omega)) only [E_var, E_cstI, E_cstN, E_cstB, E_cstS, E_glb, E_tup, E_lst, E_bin, E_neg, E_inv, E_cmp, E_chn, E_and, E_or, A_one, A_cons, O_one, O_cons, E_ife, E_ix, E_sl, E_rev, E_call, E_b1, E_b2, E_isi, E_m1, T_var, T_cst, T_glb, T_tup, T_lst, T_bin, T_ix, T_sl, T_call, T_b1, T_b2, T_isi, T_m1, truR_b, truR_i, truR_n, truR_t, truR_u, truR_l, truR_f, truR_o, V_nil, V_cons, Q_no, Q_so, oiR_i, slV_va, slV_ow, slV_lk, slV_rd, negR_i, asB_b, thenB_b, elseB_b, thenB_t, thenB_f, elseB_t, elseB_f, iteR_t, iteR_f, iteR_i, iteR_T, notBR_d, notBR_f, toD_d, toD_f, toD_b, share_d, share_f, SA_nil, SA_cons, bn_add, bn_sub, bn_mod, bn_div, bn_mulR, bn_mulL, bn_addT, bn_mulTn, bn_mulT2, pw18, pw20, Int.natAbs_natCast, List.length_map, cm_eqI, cm_neI, cm_ltI, cm_gtI, cm_leI, cm_geI, cm_eqT, cm_neT, cm_eqB, cm_neB, cm_isN, cm_isnN, cm_inI, cm_inT, cm_ninI, cm_ninT, cm_eqUT, cm_neUT, cm_eqLT, cm_inUT, al_m, an_m, ss_tx, rv_u, rv_l, cm_inLU, cm_ninLU, ix_u0, ix_u1, nmod, ndiv, ncast, ncast0, Int.toNat_natCast, isN_n, isN_i, isN_s, isN_b, isN_u, isN_l, sl_to, sl_from, sl_mid, sl_toL, sl_fromL, sl_midL, sl_toU, sl_fromU, sl_midU, rv_tx, ln_tx, ln_lst, ln_l, ln_u, ab_int, in_int, tu_lst, tu_tup, li_lst, li_tup, mx2, mn2, gc2, tr_int, isiD, ix_int, ix_intU, ix_md, ix_tx, Option.bind_some, Option.map_some, List.map_cons, List.map_nil, List.getElem?_cons_zero, List.getElem?_cons_succ, Bool.not_true, Bool.not_false, Bool.not_not, Bool.true_and, Bool.and_true, Bool.false_and, Bool.and_false, Bool.or_true, Bool.true_or, Bool.or_false, Bool.false_or, hl, ne_eq, not_true_eq_false, decide_false]) ?_
          cases k with
          | zero => cases h
          | succ k =>
            simp only [isP, Bool.and_eq_true, decide_eq_true_eq, List.all_eq_true] at h h'
            have hlc := ev_lcM (G := G) (Φ := call G T W (n + (k + 1) + 1)) (ρ := [.va (.tuple xs), .va (.tuple ys), .no]) (own := [("at", 2)]) (t := .nm 2) (it := .rg1 (.b1 .len (.var 1))) (e := .call K (.cons (.ix (.var 0) (.var 2)) (.cons (.ix (.var 1) (.var 2)) .nil))) (as := List.range ys.length) (fun (d : Nat) => PyData.int d) (fun i => .bool (eqS (xs.getD i .none) (ys.getD i .none))) (itN1 (by (simp -implicitDefEqProofs (disch := first | omega | (simp only [List.length_append, List.length_take, List.length_drop, List.length_cons, List.length_nil, List.length_reverse, List.length_map, List.length_range]; omega)) only [E_var, E_cstI, E_cstN, E_cstB, E_cstS, E_glb, E_tup, E_lst, E_bin, E_neg, E_inv, E_cmp, E_chn, E_and, E_or, A_one, A_cons, O_one, O_cons, E_ife, E_ix, E_sl, E_rev, E_call, E_b1, E_b2, E_isi, E_m1, T_var, T_cst, T_glb, T_tup, T_lst, T_bin, T_ix, T_sl, T_call, T_b1, T_b2, T_isi, T_m1, truR_b, truR_i, truR_n, truR_t, truR_u, truR_l, truR_f, truR_o, V_nil, V_cons, Q_no, Q_so, oiR_i, slV_va, slV_ow, slV_lk, slV_rd, negR_i, asB_b, thenB_b, elseB_b, thenB_t, thenB_f, elseB_t, elseB_f, iteR_t, iteR_f, iteR_i, iteR_T, notBR_d, notBR_f, toD_d, toD_f, toD_b, share_d, share_f, SA_nil, SA_cons, bn_add, bn_sub, bn_mod, bn_div, bn_mulR, bn_mulL, bn_addT, bn_mulTn, bn_mulT2, pw18, pw20, Int.natAbs_natCast, List.length_map, cm_eqI, cm_neI, cm_ltI, cm_gtI, cm_leI, cm_geI, cm_eqT, cm_neT, cm_eqB, cm_neB, cm_isN, cm_isnN, cm_inI, cm_inT, cm_ninI, cm_ninT, cm_eqUT, cm_neUT, cm_eqLT, cm_inUT, al_m, an_m, ss_tx, rv_u, rv_l, cm_inLU, cm_ninLU, ix_u0, ix_u1, nmod, ndiv, ncast, ncast0, Int.toNat_natCast, isN_n, isN_i, isN_s, isN_b, isN_u, isN_l, sl_to, sl_from, sl_mid, sl_toL, sl_fromL, sl_midL, sl_toU, sl_fromU, sl_midU, rv_tx, ln_tx, ln_lst, ln_l, ln_u, ab_int, in_int, tu_lst, tu_tup, li_lst, li_tup, mx2, mn2, gc2, tr_int, isiD, ix_int, ix_intU, ix_md, ix_tx, Option.bind_some, Option.map_some, List.map_cons, List.map_nil, List.getElem?_cons_zero, List.getElem?_cons_succ, Bool.not_true, Bool.not_false, Bool.not_not, Bool.true_and, Bool.and_true, Bool.false_and, Bool.and_false, Bool.or_true, Bool.true_or, Bool.or_false, Bool.false_or] <;> rfl)) (by omega) (by omega)) rfl (by rw [List.length_range]; omega) fun i hi => by
              have hi := List.mem_range.mp hi
              have hx : ixD (.tuple xs) (.int i) = some (xs.getD i .none) := by
                simp only [ixD, atI_get (show (0 : Int) ≤ i by omega), Int.toNat_natCast, List.getElem?_eq_getElem (show i < xs.length by omega), List.getD_eq_getElem?_getD, Option.getD_some]
              have hy : ixD (.tuple ys) (.int i) = some (ys.getD i .none) := by
                simp only [ixD, atI_get (show (0 : Int) ≤ i by omega), Int.toNat_natCast, List.getElem?_eq_getElem hi, List.getD_eq_getElem?_getD, Option.getD_some]
              refine ⟨_, asgD_va rfl rfl rfl, .d (.bool (eqS (xs.getD i .none) (ys.getD i .none))), ?_, rfl⟩
              simp -implicitDefEqProofs only [List.set_cons_zero, List.set_cons_succ]
              have mx : xs.getD i .none ∈ xs := by
                rw [List.getD_eq_getElem?_getD, List.getElem?_eq_getElem (show i < xs.length by omega)]; exact List.getElem_mem _
              have my : ys.getD i .none ∈ ys := by
                rw [List.getD_eq_getElem?_getD, List.getElem?_eq_getElem hi]; exact List.getElem_mem _
              have e := is_gen hK hJ k (xs.getD i .none) (ys.getD i .none) (h.1 _ mx) (h'.1 _ my) n
              rw [show n + k + 2 = n + (k + 1) + 1 by omega] at e
              (simp -implicitDefEqProofs (disch := first | omega | (simp only [List.length_append, List.length_take, List.length_drop, List.length_cons, List.length_nil, List.length_reverse, List.length_map, List.length_range]; omega)) only [E_var, E_cstI, E_cstN, E_cstB, E_cstS, E_glb, E_tup, E_lst, E_bin, E_neg, E_inv, E_cmp, E_chn, E_and, E_or, A_one, A_cons, O_one, O_cons, E_ife, E_ix, E_sl, E_rev, E_call, E_b1, E_b2, E_isi, E_m1, T_var, T_cst, T_glb, T_tup, T_lst, T_bin, T_ix, T_sl, T_call, T_b1, T_b2, T_isi, T_m1, truR_b, truR_i, truR_n, truR_t, truR_u, truR_l, truR_f, truR_o, V_nil, V_cons, Q_no, Q_so, oiR_i, slV_va, slV_ow, slV_lk, slV_rd, negR_i, asB_b, thenB_b, elseB_b, thenB_t, thenB_f, elseB_t, elseB_f, iteR_t, iteR_f, iteR_i, iteR_T, notBR_d, notBR_f, toD_d, toD_f, toD_b, share_d, share_f, SA_nil, SA_cons, bn_add, bn_sub, bn_mod, bn_div, bn_mulR, bn_mulL, bn_addT, bn_mulTn, bn_mulT2, pw18, pw20, Int.natAbs_natCast, List.length_map, cm_eqI, cm_neI, cm_ltI, cm_gtI, cm_leI, cm_geI, cm_eqT, cm_neT, cm_eqB, cm_neB, cm_isN, cm_isnN, cm_inI, cm_inT, cm_ninI, cm_ninT, cm_eqUT, cm_neUT, cm_eqLT, cm_inUT, al_m, an_m, ss_tx, rv_u, rv_l, cm_inLU, cm_ninLU, ix_u0, ix_u1, nmod, ndiv, ncast, ncast0, Int.toNat_natCast, isN_n, isN_i, isN_s, isN_b, isN_u, isN_l, sl_to, sl_from, sl_mid, sl_toL, sl_fromL, sl_midL, sl_toU, sl_fromU, sl_midU, rv_tx, ln_tx, ln_lst, ln_l, ln_u, ab_int, in_int, tu_lst, tu_tup, li_lst, li_tup, mx2, mn2, gc2, tr_int, isiD, ix_int, ix_intU, ix_md, ix_tx, Option.bind_some, Option.map_some, List.map_cons, List.map_nil, List.getElem?_cons_zero, List.getElem?_cons_succ, Bool.not_true, Bool.not_false, Bool.not_not, Bool.true_and, Bool.and_true, Bool.false_and, Bool.and_false, Bool.or_true, Bool.true_or, Bool.or_false, Bool.false_or, hx, hy, e] <;> rfl)
            refine run_ret (r := .d (.bool ((List.range ys.length).all fun i => eqS (xs.getD i .none) (ys.getD i .none)))) (by
              simp -implicitDefEqProofs (disch := first | omega | (simp only [List.length_append, List.length_take, List.length_drop, List.length_cons, List.length_nil, List.length_reverse, List.length_map, List.length_range]; omega)) only [E_var, E_cstI, E_cstN, E_cstB, E_cstS, E_glb, E_tup, E_lst, E_bin, E_neg, E_inv, E_cmp, E_chn, E_and, E_or, A_one, A_cons, O_one, O_cons, E_ife, E_ix, E_sl, E_rev, E_call, E_b1, E_b2, E_isi, E_m1, T_var, T_cst, T_glb, T_tup, T_lst, T_bin, T_ix, T_sl, T_call, T_b1, T_b2, T_isi, T_m1, truR_b, truR_i, truR_n, truR_t, truR_u, truR_l, truR_f, truR_o, V_nil, V_cons, Q_no, Q_so, oiR_i, slV_va, slV_ow, slV_lk, slV_rd, negR_i, asB_b, thenB_b, elseB_b, thenB_t, thenB_f, elseB_t, elseB_f, iteR_t, iteR_f, iteR_i, iteR_T, notBR_d, notBR_f, toD_d, toD_f, toD_b, share_d, share_f, SA_nil, SA_cons, bn_add, bn_sub, bn_mod, bn_div, bn_mulR, bn_mulL, bn_addT, bn_mulTn, bn_mulT2, pw18, pw20, Int.natAbs_natCast, List.length_map, cm_eqI, cm_neI, cm_ltI, cm_gtI, cm_leI, cm_geI, cm_eqT, cm_neT, cm_eqB, cm_neB, cm_isN, cm_isnN, cm_inI, cm_inT, cm_ninI, cm_ninT, cm_eqUT, cm_neUT, cm_eqLT, cm_inUT, al_m, an_m, ss_tx, rv_u, rv_l, cm_inLU, cm_ninLU, ix_u0, ix_u1, nmod, ndiv, ncast, ncast0, Int.toNat_natCast, isN_n, isN_i, isN_s, isN_b, isN_u, isN_l, sl_to, sl_from, sl_mid, sl_toL, sl_fromL, sl_midL, sl_toU, sl_fromU, sl_midU, rv_tx, ln_tx, ln_lst, ln_l, ln_u, ab_int, in_int, tu_lst, tu_tup, li_lst, li_tup, mx2, mn2, gc2, tr_int, isiD, ix_int, ix_intU, ix_md, ix_tx, Option.bind_some, Option.map_some, List.map_cons, List.map_nil, List.getElem?_cons_zero, List.getElem?_cons_succ, Bool.not_true, Bool.not_false, Bool.not_not, Bool.true_and, Bool.and_true, Bool.false_and, Bool.and_false, Bool.or_true, Bool.true_or, Bool.or_false, Bool.false_or, hlc]) rfl ?_
            show some _ = some _
            rw [eqS, eqSAll_get xs ys hl]
        · have e : eqS (.tuple xs) (.tuple ys) = false := by rw [eqS]; exact eqSAll_len xs ys hl
          have e2 : decide ((xs.length : Int) ≠ ys.length) = true := decide_eq_true (by omega)
          have e3 : decide (xs.length ≠ ys.length) = true := decide_eq_true hl
          exact run_if (p := true) (by simp -implicitDefEqProofs (disch := first | omega | (simp only [List.length_append, List.length_take, List.length_drop, List.length_cons, List.length_nil, List.length_reverse, List.length_map, List.length_range]; omega)) only [E_var, E_cstI, E_cstN, E_cstB, E_cstS, E_glb, E_tup, E_lst, E_bin, E_neg, E_inv, E_cmp, E_chn, E_and, E_or, A_one, A_cons, O_one, O_cons, E_ife, E_ix, E_sl, E_rev, E_call, E_b1, E_b2, E_isi, E_m1, T_var, T_cst, T_glb, T_tup, T_lst, T_bin, T_ix, T_sl, T_call, T_b1, T_b2, T_isi, T_m1, truR_b, truR_i, truR_n, truR_t, truR_u, truR_l, truR_f, truR_o, V_nil, V_cons, Q_no, Q_so, oiR_i, slV_va, slV_ow, slV_lk, slV_rd, negR_i, asB_b, thenB_b, elseB_b, thenB_t, thenB_f, elseB_t, elseB_f, iteR_t, iteR_f, iteR_i, iteR_T, notBR_d, notBR_f, toD_d, toD_f, toD_b, share_d, share_f, SA_nil, SA_cons, bn_add, bn_sub, bn_mod, bn_div, bn_mulR, bn_mulL, bn_addT, bn_mulTn, bn_mulT2, pw18, pw20, Int.natAbs_natCast, List.length_map, cm_eqI, cm_neI, cm_ltI, cm_gtI, cm_leI, cm_geI, cm_eqT, cm_neT, cm_eqB, cm_neB, cm_isN, cm_isnN, cm_inI, cm_inT, cm_ninI, cm_ninT, cm_eqUT, cm_neUT, cm_eqLT, cm_inUT, al_m, an_m, ss_tx, rv_u, rv_l, cm_inLU, cm_ninLU, ix_u0, ix_u1, nmod, ndiv, ncast, ncast0, Int.toNat_natCast, isN_n, isN_i, isN_s, isN_b, isN_u, isN_l, sl_to, sl_from, sl_mid, sl_toL, sl_fromL, sl_midL, sl_toU, sl_fromU, sl_midU, rv_tx, ln_tx, ln_lst, ln_l, ln_u, ab_int, in_int, tu_lst, tu_tup, li_lst, li_tup, mx2, mn2, gc2, tr_int, isiD, ix_int, ix_intU, ix_md, ix_tx, Option.bind_some, Option.map_some, List.map_cons, List.map_nil, List.getElem?_cons_zero, List.getElem?_cons_succ, Bool.not_true, Bool.not_false, Bool.not_not, Bool.true_and, Bool.and_true, Bool.false_and, Bool.and_false, Bool.or_true, Bool.true_or, Bool.or_false, Bool.false_or, e2, e3]) (fun _ => run_ret (r := .d (.bool false)) (by simp -implicitDefEqProofs (disch := first | omega | (simp only [List.length_append, List.length_take, List.length_drop, List.length_cons, List.length_nil, List.length_reverse, List.length_map, List.length_range]; omega)) only [E_var, E_cstI, E_cstN, E_cstB, E_cstS, E_glb, E_tup, E_lst, E_bin, E_neg, E_inv, E_cmp, E_chn, E_and, E_or, A_one, A_cons, O_one, O_cons, E_ife, E_ix, E_sl, E_rev, E_call, E_b1, E_b2, E_isi, E_m1, T_var, T_cst, T_glb, T_tup, T_lst, T_bin, T_ix, T_sl, T_call, T_b1, T_b2, T_isi, T_m1, truR_b, truR_i, truR_n, truR_t, truR_u, truR_l, truR_f, truR_o, V_nil, V_cons, Q_no, Q_so, oiR_i, slV_va, slV_ow, slV_lk, slV_rd, negR_i, asB_b, thenB_b, elseB_b, thenB_t, thenB_f, elseB_t, elseB_f, iteR_t, iteR_f, iteR_i, iteR_T, notBR_d, notBR_f, toD_d, toD_f, toD_b, share_d, share_f, SA_nil, SA_cons, bn_add, bn_sub, bn_mod, bn_div, bn_mulR, bn_mulL, bn_addT, bn_mulTn, bn_mulT2, pw18, pw20, Int.natAbs_natCast, List.length_map, cm_eqI, cm_neI, cm_ltI, cm_gtI, cm_leI, cm_geI, cm_eqT, cm_neT, cm_eqB, cm_neB, cm_isN, cm_isnN, cm_inI, cm_inT, cm_ninI, cm_ninT, cm_eqUT, cm_neUT, cm_eqLT, cm_inUT, al_m, an_m, ss_tx, rv_u, rv_l, cm_inLU, cm_ninLU, ix_u0, ix_u1, nmod, ndiv, ncast, ncast0, Int.toNat_natCast, isN_n, isN_i, isN_s, isN_b, isN_u, isN_l, sl_to, sl_from, sl_mid, sl_toL, sl_fromL, sl_midL, sl_toU, sl_fromU, sl_midU, rv_tx, ln_tx, ln_lst, ln_l, ln_u, ab_int, in_int, tu_lst, tu_tup, li_lst, li_tup, mx2, mn2, gc2, tr_int, isiD, ix_int, ix_intU, ix_md, ix_tx, Option.bind_some, Option.map_some, List.map_cons, List.map_nil, List.getElem?_cons_zero, List.getElem?_cons_succ, Bool.not_true, Bool.not_false, Bool.not_not, Bool.true_and, Bool.and_true, Bool.false_and, Bool.and_false, Bool.or_true, Bool.true_or, Bool.or_false, Bool.false_or]) rfl (by rw [e]; rfl)) fun z => by cases z
      | _ => exact run_if (p := true) (by simp -implicitDefEqProofs (disch := first | omega | (simp only [List.length_append, List.length_take, List.length_drop, List.length_cons, List.length_nil, List.length_reverse, List.length_map, List.length_range]; omega)) only [E_var, E_cstI, E_cstN, E_cstB, E_cstS, E_glb, E_tup, E_lst, E_bin, E_neg, E_inv, E_cmp, E_chn, E_and, E_or, A_one, A_cons, O_one, O_cons, E_ife, E_ix, E_sl, E_rev, E_call, E_b1, E_b2, E_isi, E_m1, T_var, T_cst, T_glb, T_tup, T_lst, T_bin, T_ix, T_sl, T_call, T_b1, T_b2, T_isi, T_m1, truR_b, truR_i, truR_n, truR_t, truR_u, truR_l, truR_f, truR_o, V_nil, V_cons, Q_no, Q_so, oiR_i, slV_va, slV_ow, slV_lk, slV_rd, negR_i, asB_b, thenB_b, elseB_b, thenB_t, thenB_f, elseB_t, elseB_f, iteR_t, iteR_f, iteR_i, iteR_T, notBR_d, notBR_f, toD_d, toD_f, toD_b, share_d, share_f, SA_nil, SA_cons, bn_add, bn_sub, bn_mod, bn_div, bn_mulR, bn_mulL, bn_addT, bn_mulTn, bn_mulT2, pw18, pw20, Int.natAbs_natCast, List.length_map, cm_eqI, cm_neI, cm_ltI, cm_gtI, cm_leI, cm_geI, cm_eqT, cm_neT, cm_eqB, cm_neB, cm_isN, cm_isnN, cm_inI, cm_inT, cm_ninI, cm_ninT, cm_eqUT, cm_neUT, cm_eqLT, cm_inUT, al_m, an_m, ss_tx, rv_u, rv_l, cm_inLU, cm_ninLU, ix_u0, ix_u1, nmod, ndiv, ncast, ncast0, Int.toNat_natCast, isN_n, isN_i, isN_s, isN_b, isN_u, isN_l, sl_to, sl_from, sl_mid, sl_toL, sl_fromL, sl_midL, sl_toU, sl_fromU, sl_midU, rv_tx, ln_tx, ln_lst, ln_l, ln_u, ab_int, in_int, tu_lst, tu_tup, li_lst, li_tup, mx2, mn2, gc2, tr_int, isiD, ix_int, ix_intU, ix_md, ix_tx, Option.bind_some, Option.map_some, List.map_cons, List.map_nil, List.getElem?_cons_zero, List.getElem?_cons_succ, Bool.not_true, Bool.not_false, Bool.not_not, Bool.true_and, Bool.and_true, Bool.false_and, Bool.and_false, Bool.or_true, Bool.true_or, Bool.or_false, Bool.false_or]) (fun _ => run_ret (r := .d (.bool false)) (by simp -implicitDefEqProofs (disch := first | omega | (simp only [List.length_append, List.length_take, List.length_drop, List.length_cons, List.length_nil, List.length_reverse, List.length_map, List.length_range]; omega)) only [E_var, E_cstI, E_cstN, E_cstB, E_cstS, E_glb, E_tup, E_lst, E_bin, E_neg, E_inv, E_cmp, E_chn, E_and, E_or, A_one, A_cons, O_one, O_cons, E_ife, E_ix, E_sl, E_rev, E_call, E_b1, E_b2, E_isi, E_m1, T_var, T_cst, T_glb, T_tup, T_lst, T_bin, T_ix, T_sl, T_call, T_b1, T_b2, T_isi, T_m1, truR_b, truR_i, truR_n, truR_t, truR_u, truR_l, truR_f, truR_o, V_nil, V_cons, Q_no, Q_so, oiR_i, slV_va, slV_ow, slV_lk, slV_rd, negR_i, asB_b, thenB_b, elseB_b, thenB_t, thenB_f, elseB_t, elseB_f, iteR_t, iteR_f, iteR_i, iteR_T, notBR_d, notBR_f, toD_d, toD_f, toD_b, share_d, share_f, SA_nil, SA_cons, bn_add, bn_sub, bn_mod, bn_div, bn_mulR, bn_mulL, bn_addT, bn_mulTn, bn_mulT2, pw18, pw20, Int.natAbs_natCast, List.length_map, cm_eqI, cm_neI, cm_ltI, cm_gtI, cm_leI, cm_geI, cm_eqT, cm_neT, cm_eqB, cm_neB, cm_isN, cm_isnN, cm_inI, cm_inT, cm_ninI, cm_ninT, cm_eqUT, cm_neUT, cm_eqLT, cm_inUT, al_m, an_m, ss_tx, rv_u, rv_l, cm_inLU, cm_ninLU, ix_u0, ix_u1, nmod, ndiv, ncast, ncast0, Int.toNat_natCast, isN_n, isN_i, isN_s, isN_b, isN_u, isN_l, sl_to, sl_from, sl_mid, sl_toL, sl_fromL, sl_midL, sl_toU, sl_fromU, sl_midU, rv_tx, ln_tx, ln_lst, ln_l, ln_u, ab_int, in_int, tu_lst, tu_tup, li_lst, li_tup, mx2, mn2, gc2, tr_int, isiD, ix_int, ix_intU, ix_md, ix_tx, Option.bind_some, Option.map_some, List.map_cons, List.map_nil, List.getElem?_cons_zero, List.getElem?_cons_succ, Bool.not_true, Bool.not_false, Bool.not_not, Bool.true_and, Bool.and_true, Bool.false_and, Bool.and_false, Bool.or_true, Bool.true_or, Bool.or_false, Bool.false_or]) rfl (by simp only [eqS]; rfl)) fun z => by cases z
theorem is_w {α : Type} [DecidableEq α] {e : α → D} [XE e] (hK : T[K]? = some (fIs K J)) (hJ : T[J]? = some fIsInt) (n : Nat) (hn : 9 ≤ n) (a b : α) (v : Bool) (h : isF e a b = some v) : call G T W n K [e a, e b] = some (.d (eB v)) := by
  unfold isF at h
  split at h
  · rename_i hz
    cases h
    rw [Bool.and_eq_true] at hz
    obtain ⟨m, rfl⟩ : ∃ m, n = m + 6 + 2 := ⟨n - 8, by omega⟩
    rw [is_gen hK hJ 6 _ _ hz.1 hz.2 m, XE.eqs]
    rfl
  · cases h
end
end WM

/-! ## part R: plain work on the typed readings -/
namespace WM
open PySem PySem.Spec PyProof.Rows L2
section
variable {α β γ δ σ κ ν : Type}
/-- gives a value with the property -/
def Ok (x : Option α) (P : α → Prop) : Prop := ∃ v, x = some v ∧ P v
theorem ok_bind {x : Option α} {k : α → Option β} {Q : α → Prop} {P : β → Prop} (h : Ok x Q) (hk : ∀ v, Q v → Ok (k v) P) : Ok (x.bind k) P := by
  obtain ⟨v, rfl, q⟩ := h; exact hk v q
theorem ok_eq {x : Option α} {k : α → Option β} {v : α} {P : β → Prop} (h : x = some v) (hk : Ok (k v) P) : Ok (x.bind k) P := by
  subst h; exact hk
theorem ok_some {v : α} {P : α → Prop} (h : P v) : Ok (some v) P := ⟨v, rfl, h⟩
theorem ok_ite {c : Bool} {x y : Option α} {P : α → Prop} (h1 : c = true → Ok x P) (h2 : c = false → Ok y P) : Ok (if c = true then x else y) P := by
  cases c with
  | true => exact h1 rfl
  | false => exact h2 rfl
theorem ok_imp {x : Option α} {P Q : α → Prop} (h : Ok x P) (i : ∀ v, P v → Q v) : Ok x Q := by
  obtain ⟨v, e, q⟩ := h; exact ⟨v, e, i v q⟩
theorem ok_let {e : α} {k : α → Option β} {P : β → Prop} (hk : ∀ v, v = e → Ok (k v) P) : Ok ((some e).bind k) P := hk e rfl
theorem ok_map {x : Option α} {k : α → Option β} {P : β → Prop} {Q : α → Prop} (h : Ok x Q) (hk : ∀ v, Q v → ∃ w, k v = some w ∧ P w) : Ok (x.bind k) P := ok_bind h hk
/-- the two are the same: the law goes on -/
theorem ok_same {τ : Type} [DecidableEq τ] {a b : τ} {x y : Option α} {P : α → Prop} (h : a = b) (hk : Ok y P) : Ok (if (!decide (a = b)) = true then x else y) P := by
  rw [decide_eq_true h]; exact hk
theorem bnd {x : Option α} {k : α → Option β} {v : α} {w : Option β} (h : x = some v) (hk : k v = w) : x.bind k = w := by subst h; exact hk
/-! sizes, numbers -/
theorem adO_ok {a b : List α} (h : a.length + b.length ≤ 16777216) : adO a b = some (a ++ b) := by unfold adO; rw [szOk_ok h]; rfl
theorem apO_ok {a : List α} {x : α} (h : a.length + 1 ≤ 16777216) : apO a x = some (a ++ [x]) := by unfold apO; rw [szOk_ok h]; rfl
theorem mdO_ok {a b : Int} (h : 0 < b) : mdO a b = some (a % b) := by unfold mdO; rw [decide_eq_true h]; rfl
theorem dvO_ok {a b : Int} (h : 0 < b) (h2 : b < 1073741824) : dvO a b = some (a / b) := by unfold dvO; rw [decide_eq_true h, decide_eq_true h2]; rfl
theorem mulO_okL {a b : Int} (h : -18446744073709551616 < a ∧ a < 18446744073709551616) : mulO a b = some (a * b) := by unfold mulO; rw [intOk_ok h, Bool.true_or]; rfl
theorem mulO_okR {a b : Int} (h : -18446744073709551616 < b ∧ b < 18446744073709551616) : mulO a b = some (a * b) := by unfold mulO; rw [intOk_ok h, Bool.or_true]; rfl
theorem rgF_nat (n : Nat) : rgF n = (List.range n).map fun (k : Nat) => (k : Int) := by unfold rgF; rw [Int.toNat_natCast]
theorem rg1_ok {n : Int} (h : -4611686018427387904 ≤ n ∧ n < 4611686018427387904) : rg1 n = some (rgF n) := by unfold rg1; rw [bndOk_ok h]; rfl
theorem rg1_nat {n : Nat} (h : n < 4611686018427387904) : rg1 n = some ((List.range n).map fun (k : Nat) => (k : Int)) := by rw [rg1_ok ⟨by omega, by omega⟩, rgF_nat]
theorem rg2_ok {a b : Int} (h : -4611686018427387904 ≤ a ∧ a < 4611686018427387904) (h2 : -4611686018427387904 ≤ b ∧ b < 4611686018427387904) : rg2 a b = some (rgF2 a b) := by unfold rg2; rw [bndOk_ok h, bndOk_ok h2]; rfl
theorem rgF2_nat (a b : Nat) : rgF2 a b = (List.range' a (b - a)).map fun (k : Nat) => (k : Int) := by
  unfold rgF2
  rw [List.range'_eq_map_range, List.map_map, show ((b : Int) - a).toNat = b - a by omega]
  exact List.map_congr_left fun k _ => by simp [Function.comp]
theorem rg2_nat {a b : Nat} (h : a < 4611686018427387904) (h2 : b < 4611686018427387904) : rg2 a b = some ((List.range' a (b - a)).map fun (k : Nat) => (k : Int)) := by rw [rg2_ok ⟨by omega, by omega⟩ ⟨by omega, by omega⟩, rgF2_nat]
theorem mem_rgF {n i : Int} : i ∈ rgF n ↔ 0 ≤ i ∧ i < n := by
  unfold rgF
  rw [List.mem_map]
  constructor
  · rintro ⟨k, hk, rfl⟩
    have := List.mem_range.mp hk
    omega
  · rintro ⟨h1, h2⟩
    exact ⟨i.toNat, List.mem_range.mpr (by omega), by omega⟩
theorem mem_rgF2 {a b i : Int} : i ∈ rgF2 a b ↔ a ≤ i ∧ i < b := by
  unfold rgF2
  rw [List.mem_map]
  constructor
  · rintro ⟨k, hk, rfl⟩
    have := List.mem_range.mp hk
    omega
  · rintro ⟨h1, h2⟩
    exact ⟨(i - a).toNat, List.mem_range.mpr (by omega), by omega⟩
theorem length_rgF (n : Int) : (rgF n).length = n.toNat := by unfold rgF; rw [List.length_map, List.length_range]
theorem length_rgF2 (a b : Int) : (rgF2 a b).length = (b - a).toNat := by unfold rgF2; rw [List.length_map, List.length_range]
theorem jnO_ok {z : List Nat} {ls : List (List Nat)} (h : (ls.map List.length).sum + z.length * ls.length ≤ 16777216) : jnO z ls = some (joinL z ls) := by unfold jnO; rw [szOk_ok h]; rfl
theorem chs_length (l : List Nat) : (chs l).length = l.length := List.length_map _
theorem mem_chs {l x : List Nat} : x ∈ chs l ↔ ∃ c ∈ l, x = [c] := by
  unfold chs
  rw [List.mem_map]
  exact ⟨fun ⟨c, h, e⟩ => ⟨c, h, e.symm⟩, fun ⟨c, h, e⟩ => ⟨c, h, e.symm⟩⟩
theorem atI_nn {s : List α} {i : Int} (h : 0 ≤ i) : atI s i = s[i.toNat]? := atI_get h
theorem atI_nat {s : List α} {i : Nat} : atI s (i : Int) = s[i]? := by rw [atI_get (by omega), Int.toNat_natCast]
theorem atI_some {s : List α} {i : Int} (h : 0 ≤ i) (h2 : i < s.length) : atI s i = some (s[i.toNat]'(by omega)) := by
  rw [atI_get h, List.getElem?_eq_getElem (by omega)]
/-- something stands there -/
theorem atI_mem {s : List α} {i : Int} (h : 0 ≤ i) (h2 : i < s.length) : ∃ x ∈ s, atI s i = some x := ⟨_, List.getElem_mem _, atI_some h h2⟩
theorem atI_mod {s : List α} {x m : Int} (hm : m = s.length) (h0 : 0 < s.length) : ∃ y ∈ s, atI s (x % m) = some y := by
  subst hm
  exact atI_mem (Int.emod_nonneg _ (by omega)) (Int.emod_lt_of_pos _ (by omega))
theorem atI_neg {s : List α} (h : s ≠ []) : atI s (-1) = some (s.getLast h) := by
  have l0 := List.length_pos_iff.mpr h
  unfold atI ixN
  rw [if_neg (by decide), if_pos (by omega), Option.bind_some, List.getLast_eq_getElem]
  rw [show ((-1 : Int) + s.length).toNat = s.length - 1 by omega]
  exact List.getElem?_eq_getElem (by omega)
theorem atI_last {s : List α} : atI s (-1) = s.getLast? := by
  by_cases h : s = []
  · subst h; rfl
  · rw [atI_neg h, List.getLast?_eq_some_getLast h]
theorem chs_last {o : List Nat} (h : o ≠ []) : atI (chs o) (-1) = some [o.getLastD 0] := by
  rw [atI_last]
  unfold chs
  rw [List.getLast?_map, List.getLastD_eq_getLast?]
  cases hh : o.getLast? with
  | none => exact (h (List.getLast?_eq_none_iff.mp hh)).elim
  | some c => rfl
theorem atI_zero {a : α} {r : List α} : atI (a :: r) (0 : Int) = some a := by rw [atI_nn (by decide)]; rfl
theorem headO {l : List α} : (if (decide ((0 : Int) < (l.length : Int))) = true then ((atI l (0 : Int)).bind fun i => some (some i)) else (some none)) = some l.head? := by
  cases l with
  | nil => rfl
  | cons a r => rw [if_pos (decide_eq_true (by simp only [List.length_cons]; omega)), atI_zero]; rfl
theorem headE [DecidableEq α] {l : List α} : (if (decide (l ≠ [])) = true then ((atI l (0 : Int)).bind fun i => some (some i)) else (some none)) = some l.head? := by
  cases l with
  | nil => rfl
  | cons a r => rw [if_pos (decide_eq_true (by simp)), atI_zero]; rfl
theorem chs_get {l : List Nat} (i : Nat) : (chs l)[i]? = (l[i]?).map fun c => [c] := by unfold chs; rw [List.getElem?_map]
/-! comprehensions -/
theorem cpGo_some {c : α → Option Bool} {f : α → Option β} {c' : α → Bool} {g : α → β} : ∀ {xs : List α}, (∀ a ∈ xs, c a = some (c' a)) → (∀ a ∈ xs, c' a = true → f a = some (g a)) → cpGo c f xs = some ((xs.filter c').map g)
  | [], _, _ => rfl
  | a :: r, hc, hf => by
    have ih := cpGo_some (xs := r) (fun b hb => hc b (List.mem_cons_of_mem _ hb)) (fun b hb => hf b (List.mem_cons_of_mem _ hb))
    simp only [cpGo, hc a List.mem_cons_self, Option.bind_some, ih]
    cases h : c' a with
    | true => simp only [hf a List.mem_cons_self h, Option.bind_some, Option.map_some, List.filter_cons, h, if_true, List.map_cons]
    | false => simp only [List.filter_cons, h]; rfl
theorem lcO_some {c : α → Option Bool} {f : α → Option β} {xs : List α} (c' : α → Bool) (g : α → β) (hz : xs.length ≤ 16777216) (hc : ∀ a ∈ xs, c a = some (c' a)) (hf : ∀ a ∈ xs, c' a = true → f a = some (g a)) : lcO xs c f = some ((xs.filter c').map g) := by
  unfold lcO; rw [szOk_ok hz]; exact cpGo_some hc hf
theorem filter_id {xs : List α} : xs.filter (fun _ => true) = xs := List.filter_eq_self.mpr fun _ _ => rfl
theorem mapO_some {f : α → Option β} {xs : List α} (g : α → β) (hz : xs.length ≤ 16777216) (hf : ∀ a ∈ xs, f a = some (g a)) : mapO xs f = some (xs.map g) := by
  unfold mapO
  rw [lcO_some (fun _ => true) g hz (fun _ _ => rfl) (fun a ha _ => hf a ha), filter_id]
/-- a filter -/
theorem lcO_fil {c : α → Option Bool} {xs : List α} (c' : α → Bool) (hz : xs.length ≤ 16777216) (hc : ∀ a ∈ xs, c a = some (c' a)) : lcO xs c (fun a => some a) = some (xs.filter c') := by
  have := lcO_some (f := fun a => some a) c' (fun a => a) hz hc (fun _ _ _ => rfl)
  rw [this]; simp
theorem cpGo_map {f : α → Option β} {g : α → β} {xs : List α} (hf : ∀ a ∈ xs, f a = some (g a)) : cpGo (fun _ => some true) f xs = some (xs.map g) := by
  rw [cpGo_some (c' := fun _ => true) (fun _ _ => rfl) (fun a ha _ => hf a ha), filter_id]
theorem mapO_ok {f : α → Option β} {xs : List α} {P : β → Prop} (hz : xs.length ≤ 16777216) (hf : ∀ a ∈ xs, Ok (f a) P) : Ok (mapO xs f) fun ys => ys.length = xs.length ∧ ∀ y ∈ ys, P y := by
  have : ∀ xs : List α, (∀ a ∈ xs, Ok (f a) P) → Ok (cpGo (fun _ => some true) f xs) fun ys => ys.length = xs.length ∧ ∀ y ∈ ys, P y := by
    intro xs
    induction xs with
    | nil => exact fun _ => ⟨[], rfl, rfl, fun y hy => by cases hy⟩
    | cons a r ih =>
      intro h
      obtain ⟨y, e1, p1⟩ := h a List.mem_cons_self
      obtain ⟨ys, e2, p2, p3⟩ := ih fun b hb => h b (List.mem_cons_of_mem _ hb)
      refine ⟨y :: ys, ?_, by rw [List.length_cons, List.length_cons, p2], fun z hz => ?_⟩
      · simp only [cpGo, Option.bind_some, e1, e2, Option.map_some]
      · rcases List.mem_cons.mp hz with w | w
        · rw [w]; exact p1
        · exact p3 z w
  unfold mapO lcO
  rw [szOk_ok hz]
  exact this xs hf
theorem cp2Go_some {f : α → Option (List β)} {g : α → List β} : ∀ {xs : List α}, (∀ a ∈ xs, f a = some (g a)) → cp2Go f xs = some (xs.map g).flatten
  | [], _ => rfl
  | a :: r, h => by
    simp only [cp2Go, h a List.mem_cons_self, Option.bind_some, cp2Go_some (fun b hb => h b (List.mem_cons_of_mem _ hb)), Option.map_some, List.map_cons, List.flatten_cons]
theorem lc2O_some {f : α → Option (List β)} {xs : List α} (g : α → List β) (hf : ∀ a ∈ xs, f a = some (g a)) (hz : (xs.map g).flatten.length ≤ 16777216) : lc2O xs f = some (xs.map g).flatten := by
  unfold lc2O
  rw [cp2Go_some hf, Option.bind_some, szOk_ok hz]; rfl
theorem gxO_all {c f : α → Option Bool} {c' g : α → Bool} : ∀ {xs : List α}, (∀ a ∈ xs, c a = some (c' a)) → (∀ a ∈ xs, c' a = true → f a = some (g a)) → gxO false c f xs = some (xs.all fun a => !c' a || g a)
  | [], _, _ => rfl
  | a :: r, hc, hf => by
    have ih := gxO_all (xs := r) (fun b hb => hc b (List.mem_cons_of_mem _ hb)) (fun b hb => hf b (List.mem_cons_of_mem _ hb))
    simp only [gxO, hc a List.mem_cons_self, Option.bind_some, ih, List.all_cons]
    cases h : c' a with
    | true =>
      simp only [hf a List.mem_cons_self h, Option.bind_some]
      cases g a <;> rfl
    | false => rfl
theorem gxO_any {c f : α → Option Bool} {c' g : α → Bool} : ∀ {xs : List α}, (∀ a ∈ xs, c a = some (c' a)) → (∀ a ∈ xs, c' a = true → f a = some (g a)) → gxO true c f xs = some (xs.any fun a => c' a && g a)
  | [], _, _ => rfl
  | a :: r, hc, hf => by
    have ih := gxO_any (xs := r) (fun b hb => hc b (List.mem_cons_of_mem _ hb)) (fun b hb => hf b (List.mem_cons_of_mem _ hb))
    simp only [gxO, hc a List.mem_cons_self, Option.bind_some, ih, List.any_cons]
    cases h : c' a with
    | true =>
      simp only [hf a List.mem_cons_self h, Option.bind_some]
      cases g a <;> rfl
    | false => rfl
theorem allO_some {f : α → Option Bool} {xs : List α} (g : α → Bool) (hf : ∀ a ∈ xs, f a = some (g a)) : allO xs f = some (xs.all g) := by
  unfold allO
  rw [gxO_all (c' := fun _ => true) (g := g) (fun _ _ => rfl) (fun a ha _ => hf a ha)]
  simp
theorem anyO_some {f : α → Option Bool} {xs : List α} (g : α → Bool) (hf : ∀ a ∈ xs, f a = some (g a)) : anyO xs f = some (xs.any g) := by
  unfold anyO
  rw [gxO_any (c' := fun _ => true) (g := g) (fun _ _ => rfl) (fun a ha _ => hf a ha)]
  simp
theorem any_cong {l : List α} {p q : α → Bool} (h : ∀ a ∈ l, p a = q a) : l.any p = l.any q := by
  induction l with
  | nil => rfl
  | cons a r ih => rw [List.any_cons, List.any_cons, h a List.mem_cons_self, ih fun b hb => h b (List.mem_cons_of_mem _ hb)]
theorem all_cong {l : List α} {p q : α → Bool} (h : ∀ a ∈ l, p a = q a) : l.all p = l.all q := by
  induction l with
  | nil => rfl
  | cons a r ih => rw [List.all_cons, List.all_cons, h a List.mem_cons_self, ih fun b hb => h b (List.mem_cons_of_mem _ hb)]
theorem any_len {l : List α} {p : α → Bool} : decide (0 < ((l.filter p).length : Int)) = l.any p := by
  induction l with
  | nil => rfl
  | cons a r ih =>
    rw [List.filter_cons, List.any_cons]
    cases h : p a with
    | true =>
      rw [if_pos rfl, Bool.true_or]
      exact decide_eq_true (by simp only [List.length_cons]; omega)
    | false => rw [if_neg Bool.false_ne_true, Bool.false_or, ih]
/-! loops -/
/-- by what was walked so far -/
theorem foldO_pre {xs : List α} {s : β} {f : α → β → Option β} (I : List α → β → Prop) (h0 : I [] s) (hs : ∀ pre a post x, xs = pre ++ a :: post → I pre x → ∃ y, f a x = some y ∧ I (pre ++ [a]) y) : ∃ y, foldO xs s f = some y ∧ I xs y := by
  have go : ∀ (post pre : List α) (x : β), xs = pre ++ post → I pre x → ∃ y, foldO post x f = some y ∧ I xs y := by
    intro post
    induction post with
    | nil => intro pre x e i; rw [List.append_nil] at e; subst e; exact ⟨x, rfl, i⟩
    | cons a post ih =>
      intro pre x e i
      obtain ⟨y, h1, h2⟩ := hs pre a post x e i
      obtain ⟨z, h3, h4⟩ := ih (pre ++ [a]) y (by rw [e]; simp) h2
      exact ⟨z, by simp only [foldO, h1, Option.bind_some]; exact h3, h4⟩
  exact go xs [] s rfl h0
/-- by how many were walked -/
theorem foldO_inv {xs : List α} {s : β} {f : α → β → Option β} (I : Nat → β → Prop) (h0 : I 0 s) (hs : ∀ j a x, xs[j]? = some a → I j x → ∃ y, f a x = some y ∧ I (j + 1) y) : ∃ y, foldO xs s f = some y ∧ I xs.length y := by
  refine foldO_pre (fun pre x => I pre.length x) h0 fun pre a post x e i => ?_
  obtain ⟨y, h1, h2⟩ := hs pre.length a x (by rw [e]; simp) i
  exact ⟨y, h1, by rw [List.length_append]; exact h2⟩
theorem foldO_ok {xs : List α} {s : β} {f : α → β → Option β} (I : Nat → β → Prop) (h0 : I 0 s) (hs : ∀ j a x, xs[j]? = some a → I j x → Ok (f a x) (I (j + 1))) : Ok (foldO xs s f) (I xs.length) := foldO_inv I h0 hs
theorem foldO_okP {xs : List α} {s : β} {f : α → β → Option β} (I : List α → β → Prop) (h0 : I [] s) (hs : ∀ pre a post x, xs = pre ++ a :: post → I pre x → Ok (f a x) (I (pre ++ [a]))) : Ok (foldO xs s f) (I xs) := foldO_pre I h0 hs
/-- over 0, 1, .. n - 1 -/
theorem foldO_rg {n : Nat} {s : β} {f : Int → β → Option β} (I : Nat → β → Prop) (h0 : I 0 s) (hs : ∀ (j : Nat) x, j < n → I j x → Ok (f j x) (I (j + 1))) : Ok (foldO ((List.range n).map fun (k : Nat) => (k : Int)) s f) (I n) := by
  have := foldO_ok (xs := (List.range n).map fun (k : Nat) => (k : Int)) (f := f) I h0 fun j a x hx i => by
    rw [List.getElem?_map] at hx
    obtain ⟨k, hk, rfl⟩ := Option.map_eq_some_iff.mp hx
    obtain ⟨hl, e⟩ := List.getElem?_eq_some_iff.mp hk
    rw [List.getElem_range] at e
    rw [List.length_range] at hl
    subst e
    exact hs j x hl i
  rw [List.length_map, List.length_range] at this
  exact this
theorem foldO_eq {xs : List α} {s : β} {f : α → β → Option β} (g : α → β → β) (hf : ∀ a ∈ xs, ∀ x, f a x = some (g a x)) : foldO xs s f = some (xs.foldl (fun x a => g a x) s) := by
  induction xs generalizing s with
  | nil => rfl
  | cons a r ih => simp only [foldO, hf a List.mem_cons_self, Option.bind_some, List.foldl_cons]; exact ih fun b hb => hf b (List.mem_cons_of_mem _ hb)
theorem foldO_map {xs : List α} {h : α → γ} {s : β} {f : γ → β → Option β} : foldO (xs.map h) s f = foldO xs s fun a => f (h a) := by
  induction xs generalizing s with
  | nil => rfl
  | cons a r ih =>
    simp only [List.map_cons, foldO]
    congr 1; funext y; exact ih
/-- all turns go on -/
theorem loopO_all {xs : List α} {f : α → Unit → Option (Ctl Unit γ)} (h : ∀ a ∈ xs, f a () = some (.nx ())) : loopO xs () f = some (.nx ()) := by
  induction xs with
  | nil => rfl
  | cons a r ih =>
    simp only [loopO, h a List.mem_cons_self, Option.bind_some]
    exact ih fun b hb => h b (List.mem_cons_of_mem _ hb)
/-- by what was walked so far, all turns go on -/
theorem loopO_pre {xs : List α} {s : β} {f : α → β → Option (Ctl β γ)} (I : List α → β → Prop) (h0 : I [] s) (hs : ∀ pre a post x, xs = pre ++ a :: post → I pre x → ∃ y, f a x = some (.nx y) ∧ I (pre ++ [a]) y) : ∃ y, loopO xs s f = some (.nx y) ∧ I xs y := by
  have go : ∀ (post pre : List α) (x : β), xs = pre ++ post → I pre x → ∃ y, loopO post x f = some (.nx y) ∧ I xs y := by
    intro post
    induction post with
    | nil => intro pre x e i; rw [List.append_nil] at e; subst e; exact ⟨x, rfl, i⟩
    | cons a post ih =>
      intro pre x e i
      obtain ⟨y, h1, h2⟩ := hs pre a post x e i
      obtain ⟨z, h3, h4⟩ := ih (pre ++ [a]) y (by rw [e]; simp) h2
      exact ⟨z, by simp only [loopO, h1, Option.bind_some]; exact h3, h4⟩
  exact go xs [] s rfl h0
/-- the first that is found goes out -/
theorem loopO_find {xs : List α} {f : α → Unit → Option (Ctl Unit γ)} (p : α → Bool) (r : α → γ) (h : ∀ a ∈ xs, f a () = some (if p a = true then .rt (r a) else .nx ())) : loopO xs () f = some (match xs.find? p with | some a => .rt (r a) | none => .nx ()) := by
  induction xs with
  | nil => rfl
  | cons a l ih =>
    simp only [loopO, h a List.mem_cons_self, Option.bind_some]
    cases hp : p a with
    | true => rw [List.find?_cons_of_pos hp]; rfl
    | false =>
      rw [List.find?_cons_of_neg (by rw [hp]; exact Bool.false_ne_true)]
      exact ih fun b hb => h b (List.mem_cons_of_mem _ hb)
theorem go_nx {s : β} {r : γ → Option δ} {n : β → Option δ} : (Ctl.nx s).go r n = n s := rfl
theorem go_rt {b : γ} {r : γ → Option δ} {n : β → Option δ} : (Ctl.rt b).go r n = r b := rfl
/-! sorting, sets -/
theorem tcO_one {x : List Nat} {c : Nat} : tcO x [c] = some ((x.count c : Nat) : Int) := rfl
theorem tiO_one {x : List Nat} {c : Nat} (h : c ∈ x) : tiO x [c] = some ((x.idxOf c : Nat) : Int) := if_pos h
theorem ltE_S (a b : List Nat) : ltE eS a b = decide (a < b) := lt_str a b
theorem ltE_I (a b : Int) : ltE eI a b = decide (a < b) := lt_int a b
theorem sortE_S (xs : List (List Nat)) : sortE eS xs = xs.mergeSort leT := by
  unfold sortE
  congr 1
  funext a b
  rw [ltE_S]
  unfold leT
  by_cases h : b < a
  · rw [decide_eq_true h, decide_eq_false (fun z => List.not_lt.mpr z h)]; rfl
  · rw [decide_eq_false h, decide_eq_true (List.not_lt.mp h)]; rfl
theorem sortE_I (xs : List Int) : sortE eI xs = xs.mergeSort leI := by
  unfold sortE
  congr 1
  funext a b
  rw [ltE_I]
  unfold leI
  by_cases h : b < a
  · rw [decide_eq_true h, decide_eq_false (by omega)]; rfl
  · rw [decide_eq_false h, decide_eq_true (by omega)]; rfl
theorem sok_not {e : α → D} (h : ∀ a, ∀ xs, e a ≠ .tuple xs) (xs : List α) : sortOk (xs.map e) = true := by
  unfold sortOk
  rw [Bool.or_eq_true]
  refine .inr ?_
  rw [List.all_map]
  refine List.all_eq_true.mpr fun a _ => ?_
  show (match e a with | .tuple _ => false | _ => true) = true
  cases hh : e a <;> first | rfl | exact (h a _ hh).elim
theorem sok_tup {e : α → D} (h : ∀ a, ∃ x xs, e a = .tuple (x :: xs)) (xs : List α) : sortOk (xs.map e) = true := by
  unfold sortOk
  rw [Bool.or_eq_true]
  refine .inl ?_
  rw [List.all_map]
  refine List.all_eq_true.mpr fun a _ => ?_
  obtain ⟨x, ys, e1⟩ := h a
  show (match e a with | .tuple (_ :: _) => true | _ => false) = true
  rw [e1]
theorem soO_S {xs : List (List Nat)} (h : xs.length ≤ 16777216) : soO eS xs = some (xs.mergeSort leT) := by
  unfold soO
  rw [sok_not (fun a xs h => by cases h), szOk_ok h, sortE_S]; rfl
theorem soO_I {xs : List Int} (h : xs.length ≤ 16777216) : soO eI xs = some (xs.mergeSort leI) := by
  unfold soO
  rw [sok_not (fun a xs h => by cases h), szOk_ok h, sortE_I]; rfl
theorem soO_P {e : α → D} {f : β → D} {xs : List (α × β)} (h : xs.length ≤ 16777216) : soO (eP e f) xs = some (sortE (eP e f) xs) := by
  unfold soO
  rw [sok_tup (e := eP e f) (fun a => ⟨e a.1, [f a.2], rfl⟩), szOk_ok h]; rfl
theorem ssO_S {xs : List (List Nat)} (h : xs.length ≤ 4000) : ssO eS xs = some (srt xs) := by
  unfold ssO
  have k : keyOk (xs.map eS) = true := by
    unfold keyOk
    rw [List.length_map, decide_eq_true h, Bool.and_true, Bool.or_eq_true]
    refine .inr ?_
    rw [List.all_map]
    exact List.all_eq_true.mpr fun _ _ => rfl
  rw [k, if_pos rfl, sortE_S]; rfl
theorem soM_S {m : List (List Nat × ν)} (h : m.length < 64) : soM eS m = some ((m.map (·.1)).mergeSort leT) := by
  unfold soM
  have k : ((m.map (·.1)).map eS).all isS = true := by
    rw [List.all_map]
    exact List.all_eq_true.mpr fun _ _ => rfl
  rw [k, Bool.or_true, decide_eq_true h, sortE_S]; rfl
/-- the first things first, then the second ones -/
theorem ltE_P [DecidableEq α] {e : α → D} {f : β → D} [VE e] [AE e] [AE f] (p q : α × β) : ltE (eP e f) p q = (ltE e p.1 q.1 || (decide (p.1 = q.1) && ltE f p.2 q.2)) := by
  unfold ltE
  show PySem.W.dataLt (.tuple [e p.1, f p.2]) (.tuple [e q.1, f q.2]) = _
  rw [PySem.W.dataLt_tuple]
  rw [PySem.W.toks_all_cons (e p.1), PySem.W.toks_all_cons (e q.1)]
  have s1 : ∀ a b : List (Int ⊕ List Nat), PyProof.Rows.lexLt itemOrd (Sum.inl 1 :: a) (Sum.inl 1 :: b) = PyProof.Rows.lexLt itemOrd a b := fun a b => PySem.W.lex_pre [Sum.inl 1] a b
  rw [s1]
  have t := PySem.W.toks_eqv (e p.1) (e q.1) (AE.al p.1 q.1)
  rw [VE.eqv] at t
  by_cases h : p.1 = q.1
  · have t1 := t.1 (decide_eq_true h)
    rw [t1, PySem.W.lex_pre, PySem.W.toks_all_cons (f p.2), PySem.W.toks_all_cons (f q.2), s1, decide_eq_true h, Bool.true_and]
    have u := PySem.W.toks_eqv (f p.2) (f q.2) (AE.al p.2 q.2)
    have self : PySem.W.dataLt (e p.1) (e q.1) = false := by
      rw [h]
      unfold PySem.W.dataLt
      have := PySem.W.lex_pre (PySem.W.keyToks (e q.1)) [] []
      rw [List.append_nil] at this
      rw [this]; rfl
    rw [self, Bool.false_or]
    unfold PySem.W.dataLt
    cases hh : PyData.eqv (f p.2) (f q.2) with
    | true =>
      rw [u.1 hh, PySem.W.lex_pre]
      have := PySem.W.lex_pre (PySem.W.keyToks (f q.2)) [] []
      rw [List.append_nil] at this
      rw [this]
      rfl
    | false => exact u.2 hh _ _
  · rw [decide_eq_false h, Bool.false_and, Bool.or_false]
    exact t.2 (decide_eq_false h) _ _
/-- sorted by the first things, then by the second ones -/
theorem sortP_pw (xs : List (Int × List Nat)) : (sortE (eP eI eS) xs).Pairwise fun a b => ltE (eP eI eS) b a = false := by
  have lt : ∀ a b : Int × List Nat, ltE (eP eI eS) a b = (decide (a.1 < b.1) || (decide (a.1 = b.1) && decide (a.2 < b.2))) := fun a b => by rw [ltE_P, ltE_I, ltE_S]
  have h : (sortE (eP eI eS) xs).Pairwise fun a b => (!ltE (eP eI eS) b a) = true := by
    refine List.pairwise_mergeSort (le := fun a b => !ltE (eP eI eS) b a) (fun a b c h1 h2 => ?_) (fun a b => ?_) xs
    · simp only [lt, Bool.not_eq_true', Bool.or_eq_false_iff, Bool.and_eq_false_iff, decide_eq_false_iff_not] at h1 h2 ⊢
      refine ⟨by omega, ?_⟩
      by_cases e : c.1 = a.1
      · refine .inr fun z => ?_
        have e1 : b.1 = a.1 := by omega
        have e2 : c.1 = b.1 := by omega
        have l1 : ¬ b.2 < a.2 := h1.2.resolve_left fun w => w e1
        have l2 : ¬ c.2 < b.2 := h2.2.resolve_left fun w => w e2
        exact l2 (Std.lt_of_lt_of_le z (List.not_lt.mp l1))
      · exact .inl e
    · simp only [lt, Bool.or_eq_true, Bool.not_eq_true', Bool.or_eq_false_iff, Bool.and_eq_false_iff, decide_eq_false_iff_not]
      by_cases h1 : a.1 < b.1
      · exact .inl ⟨by omega, .inl (by omega)⟩
      · by_cases h2 : b.1 < a.1
        · exact .inr ⟨by omega, .inl (by omega)⟩
        · rcases List.le_total a.2 b.2 with h | h
          · exact .inl ⟨by omega, .inr (List.not_lt.mpr h)⟩
          · exact .inr ⟨by omega, .inr (List.not_lt.mpr h)⟩
  exact h.imp fun h => by simpa using h
theorem sortE_perm {e : α → D} (xs : List α) : (sortE e xs).Perm xs := List.mergeSort_perm _ _
/-! dicts -/
section
variable [DecidableEq κ]
theorem getM_nil {k : κ} : getM ([] : List (κ × ν)) k = none := rfl
theorem getM_cons {p : κ × ν} {r : List (κ × ν)} {k : κ} : getM (p :: r) k = if p.1 = k then some p.2 else getM r k := by
  unfold getM
  by_cases h : p.1 = k
  · rw [List.find?_cons_of_pos (by simpa using h), if_pos h]; rfl
  · rw [List.find?_cons_of_neg (by simpa using h), if_neg h]
theorem getM_map {l : List κ} {g : κ → ν} {k : κ} : getM (l.map fun t => (t, g t)) k = if k ∈ l then some (g k) else none := by
  induction l with
  | nil => rfl
  | cons a r ih =>
    rw [List.map_cons, getM_cons, ih]
    by_cases h : a = k
    · subst h; simp
    · simp [h, Ne.symm h]
theorem getM_none {m : List (κ × ν)} {k : κ} : getM m k = none ↔ k ∉ m.map (·.1) := by
  induction m with
  | nil => simp [getM_nil]
  | cons p r ih =>
    rw [getM_cons, List.map_cons, List.mem_cons, not_or]
    by_cases h : p.1 = k
    · simp [h]
    · simp [h, ih, Ne.symm h]
theorem getM_isSome {m : List (κ × ν)} {k : κ} : (getM m k).isSome = decide (k ∈ m.map (·.1)) := by
  refine Bool.eq_iff_iff.mpr ?_
  rw [decide_eq_true_eq, ← Option.not_isNone, Bool.not_eq_true', ← Bool.not_eq_true, Option.isNone_iff_eq_none, getM_none, Classical.not_not]
theorem putM_new {m : List (κ × ν)} {k : κ} {v : ν} (h : k ∉ m.map (·.1)) : putM m k v = m ++ [(k, v)] := by
  unfold putM
  have : m.any (fun p => decide (p.1 = k)) = false := by
    rw [List.any_eq_false]
    intro p hp e
    exact h (List.mem_map.mpr ⟨p, hp, of_decide_eq_true e⟩)
  rw [this]; rfl
theorem getM_put (m : List (κ × ν)) (k j : κ) (v : ν) : getM (putM m k v) j = if j = k then some v else getM m j := by
  by_cases hk : k ∈ m.map (·.1)
  · have ha : m.any (fun p => decide (p.1 = k)) = true := by
      obtain ⟨p, hp, e⟩ := List.mem_map.mp hk
      exact List.any_eq_true.mpr ⟨p, hp, decide_eq_true e⟩
    unfold putM
    rw [ha, if_pos rfl]
    clear ha
    induction m with
    | nil => cases hk
    | cons p r ih =>
      rw [List.map_cons, getM_cons, getM_cons]
      by_cases h1 : p.1 = k
      · rw [if_pos h1]
        by_cases h2 : j = k
        · rw [if_pos h2, if_pos (h1.trans h2.symm)]
        · have h3 : ¬ p.1 = j := fun z => h2 (z.symm.trans h1)
          rw [if_neg h3, if_neg h2, if_neg h3]
          by_cases h4 : k ∈ r.map (·.1)
          · rw [ih h4, if_neg h2]
          · have : r.map (fun p => if p.1 = k then (p.1, v) else p) = r := by
              conv => rhs; rw [← List.map_id r]
              refine List.map_congr_left fun q hq => ?_
              rw [if_neg (fun z => h4 (List.mem_map.mpr ⟨q, hq, z⟩))]; rfl
            rw [this]
      · rw [if_neg h1]
        have h4 : k ∈ r.map (·.1) := by
          rw [List.map_cons] at hk
          rcases List.mem_cons.mp hk with z | z
          · exact (h1 z.symm).elim
          · exact z
        by_cases h3 : p.1 = j
        · rw [if_pos h3, if_pos h3, if_neg (fun z => h1 (h3.trans z))]
        · rw [if_neg h3, if_neg h3, ih h4]
  · rw [putM_new hk]
    have app : ∀ m : List (κ × ν), k ∉ m.map (·.1) → getM (m ++ [(k, v)]) j = if j = k then some v else getM m j := by
      intro m
      induction m with
      | nil =>
        intro _
        rw [List.nil_append, getM_cons, getM_nil]
        by_cases h : k = j
        · rw [if_pos h, if_pos h.symm]
        · rw [if_neg h, if_neg (Ne.symm h)]
      | cons p r ih =>
        intro h
        rw [List.map_cons, List.mem_cons, not_or] at h
        rw [List.cons_append, getM_cons, getM_cons, ih h.2]
        by_cases h3 : p.1 = j
        · rw [if_pos h3, if_pos h3, if_neg (fun z => h.1 (z.symm.trans h3.symm))]
        · rw [if_neg h3, if_neg h3]
    exact app m hk
theorem ptO_ok {m : List (κ × ν)} {k : κ} {v : ν} (h : m.length + 1 ≤ 16777216) : ptO m k v = some (putM m k v) := by unfold ptO; rw [szOk_ok h]; rfl
theorem putM_len {m : List (κ × ν)} {k : κ} {v : ν} : (putM m k v).length ≤ m.length + 1 := by
  unfold putM
  split
  · rw [List.length_map]; omega
  · rw [List.length_append]; exact Nat.le_refl _
end
/-! _law_is -/
theorem isP_le {n : Nat} : ∀ {d : D} {m : Nat}, isP n d = true → n ≤ m → isP m d = true
  | .none, m, _, _ => by cases m <;> rfl
  | .bool _, m, _, _ => by cases m <;> rfl
  | .int _, m, _, _ => by cases m <;> rfl
  | .str _, m, _, _ => by cases m <;> rfl
  | .list _, m, h, _ => by cases n <;> cases h
  | .dict _, m, h, _ => by cases n <;> cases h
  | .tuple xs, m, h, hm => by
    cases n with
    | zero => cases h
    | succ n =>
      cases m with
      | zero => omega
      | succ m =>
        simp only [isP, Bool.and_eq_true, List.all_eq_true] at h ⊢
        exact ⟨fun x hx => isP_le (h.1 x hx) (by omega), h.2⟩
theorem isF_eq {n : Nat} [DecidableEq α] {e : α → D} {a b : α} (h1 : isP n (e a) = true) (h2 : isP n (e b) = true) (hn : n ≤ 6) : isF e a b = some (decide (a = b)) := by
  unfold isF
  rw [isP_le h1 hn, isP_le h2 hn]; rfl
theorem isP_eI (a : Int) : isP 0 (eI a) = true := rfl
theorem isP_eB (a : Bool) : isP 0 (eB a) = true := rfl
theorem isP_eS (a : List Nat) : isP 0 (eS a) = true := rfl
theorem isP_eO {n : Nat} {e : α → D} (h : ∀ a, isP n (e a) = true) (o : Option α) : isP n (eO e o) = true := by
  cases o with
  | none => cases n <;> rfl
  | some a => exact h a
theorem isP_eT {n : Nat} {e : α → D} {xs : List α} (h : ∀ a ∈ xs, isP n (e a) = true) (hl : xs.length ≤ 4000) : isP (n + 1) (eT e xs) = true := by
  show isP (n + 1) (.tuple (xs.map e)) = true
  simp only [isP, Bool.and_eq_true, decide_eq_true_eq, List.length_map, List.all_eq_true]
  exact ⟨fun d hd => by obtain ⟨a, ha, rfl⟩ := List.mem_map.mp hd; exact h a ha, hl⟩
theorem isP_eP {n m : Nat} {e : α → D} {f : β → D} {p : α × β} (h : isP n (e p.1) = true) (h2 : isP m (f p.2) = true) : isP (n + m + 1) (eP e f p) = true := by
  show isP (n + m + 1) (.tuple [e p.1, f p.2]) = true
  simp only [isP, Bool.and_eq_true, decide_eq_true_eq, List.all_cons, List.all_nil, Bool.and_true]
  exact ⟨⟨isP_le h (by omega), isP_le h2 (by omega)⟩, by simp⟩
theorem isF_I (a b : Int) : isF eI a b = some (decide (a = b)) := isF_eq (isP_eI a) (isP_eI b) (by decide)
theorem isF_B (a b : Bool) : isF eB a b = some (decide (a = b)) := isF_eq (isP_eB a) (isP_eB b) (by decide)
theorem isF_S (a b : List Nat) : isF eS a b = some (decide (a = b)) := isF_eq (isP_eS a) (isP_eS b) (by decide)
theorem isF_OS (a b : Option (List Nat)) : isF (eO eS) a b = some (decide (a = b)) := isF_eq (isP_eO isP_eS a) (isP_eO isP_eS b) (by decide)
theorem isF_OI (a b : Option Int) : isF (eO eI) a b = some (decide (a = b)) := isF_eq (isP_eO isP_eI a) (isP_eO isP_eI b) (by decide)
theorem isF_TS {a b : List (List Nat)} (h : a.length ≤ 4000) (h2 : b.length ≤ 4000) : isF (eT eS) a b = some (decide (a = b)) := isF_eq (isP_eT (fun x _ => isP_eS x) h) (isP_eT (fun x _ => isP_eS x) h2) (by decide)
theorem isF_TI {a b : List Int} (h : a.length ≤ 4000) (h2 : b.length ≤ 4000) : isF (eT eI) a b = some (decide (a = b)) := isF_eq (isP_eT (fun x _ => isP_eI x) h) (isP_eT (fun x _ => isP_eI x) h2) (by decide)
end
end WM

namespace K84
open PySem PySem.Spec PyProof.Rows L2 WM
def wW : Nat := 1000
def topS (i : Nat) : Stmt := PySem.Challenge.pw_wordmoot_k84_whole_wheels_turns_and_face.main.body.getD i (.Pass ⟨0, 0, 0, 0⟩)
def gG : Gt := { fn := ["told_root", "turned_by", "told_turn", "turn_between", "told_face", "number_of_turns", "times_itself", "number_of_wheels", "number_of_faces", "is_peak", "_law_cell", "_law_draws", "_law_is_integer", "_law_is", "_law_text", "_law_power", "_law_root", "_law_turns", "_law_is_peak", "_law_strings", "_law_right", "_law_wheels", "_law_mirrored", "_law_numbers", "_law_counted", "law"], gl := [] }
def bB : List Str := ["abs", "all", "bool", "int", "isinstance", "len", "min", "range", "set", "sorted", "str", "sum", "tuple"]
/-- told_root -/
def f0 : Fn := { np := 1, nl := 2, body := .cons (.loop (.nm 1) (.rg2 (.cst (.int 1)) (.b1 .len (.var 0))) (.cons (.ite (.and (.cons (.cmp .Eq (.bin .Mod (.b1 .len (.var 0)) (.var 1)) (.cst (.int 0))) (.cons (.cmp .Eq (.bin .Mult (.sl (.var 0) (.no) (.so (.var 1))) (.bin .FloorDiv (.b1 .len (.var 0)) (.var 1))) (.var 0)) .nil))) (.cons (.ret (.sl (.var 0) (.no) (.so (.var 1)))) .nil) (.nil)) .nil)) (.cons (.ret (.var 0)) .nil) }
def d0 : Df := { name := "told_root", st := topS 2, N := ["text", "size"], ps := ["text"], fn := f0 }
/-- turned_by -/
def f1 : Fn := { np := 2, nl := 2, body := .cons (.ret (.bin .Add (.sl (.var 0) (.so (.var 1)) (.no)) (.sl (.var 0) (.no) (.so (.var 1))))) .nil }
def d1 : Df := { name := "turned_by", st := topS 4, N := ["text", "k"], ps := ["text", "k"], fn := f1 }
/-- told_turn -/
def f2 : Fn := { np := 1, nl := 2, body := .cons (.ret (.b1 .min (.lc [("k", 1)] (.nm 1) (.rg1 (.b1 .len (.var 0))) (.nil) (.call 1 (.cons (.var 0) (.cons (.var 1) .nil)))))) .nil }
def d2 : Df := { name := "told_turn", st := topS 5, N := ["text", "k"], ps := ["text"], fn := f2 }
/-- turn_between -/
def f3 : Fn := { np := 2, nl := 3, body := .cons (.loop (.nm 2) (.rg1 (.b1 .len (.var 0))) (.cons (.ite (.cmp .Eq (.call 1 (.cons (.var 0) (.cons (.var 2) .nil))) (.var 1)) (.cons (.ret (.var 2)) .nil) (.nil)) .nil)) (.cons (.ret (.cst .none)) .nil) }
def d3 : Df := { name := "turn_between", st := topS 6, N := ["one", "other", "k"], ps := ["one", "other"], fn := f3 }
/-- told_face -/
def f4 : Fn := { np := 1, nl := 1, body := .cons (.ret (.b2 .min2 (.call 2 (.cons (.var 0) .nil)) (.call 2 (.cons (.rev (.var 0)) .nil)))) .nil }
def d4 : Df := { name := "told_face", st := topS 7, N := ["text"], ps := ["text"], fn := f4 }
/-- number_of_turns -/
def f5 : Fn := { np := 1, nl := 1, body := .cons (.ret (.b1 .len (.call 0 (.cons (.var 0) .nil)))) .nil }
def d5 : Df := { name := "number_of_turns", st := topS 8, N := ["text"], ps := ["text"], fn := f5 }
/-- times_itself -/
def f6 : Fn := { np := 2, nl := 4, body := .cons (.asg (.nm 2) (.cst (.int 1))) (.cons (.loop (.nm 3) (.rg1 (.var 1)) (.cons (.aug 2 .Mult (.var 0)) .nil)) (.cons (.ret (.var 2)) .nil)) }
def d6 : Df := { name := "times_itself", st := topS 9, N := ["k", "n", "number", "_"], ps := ["k", "n"], fn := f6 }
/-- number_of_wheels -/
def f7 : Fn := { np := 2, nl := 3, body := .cons (.ret (.bin .FloorDiv (.b1 .sum (.lc [("at", 2)] (.nm 2) (.rg1 (.var 0)) (.nil) (.call 6 (.cons (.var 1) (.cons (.b2 .gcd (.var 2) (.var 0)) .nil))))) (.var 0))) .nil }
def d7 : Df := { name := "number_of_wheels", st := topS 10, N := ["n", "k", "at"], ps := ["n", "k"], fn := f7 }
/-- number_of_faces -/
def f8 : Fn := { np := 2, nl := 3, body := .cons (.asg (.nm 2) (.call 6 (.cons (.var 1) (.cons (.bin .FloorDiv (.bin .Add (.var 0) (.cst (.int 1))) (.cst (.int 2))) .nil)))) (.cons (.ite (.cmp .Eq (.bin .Mod (.var 0) (.cst (.int 2))) (.cst (.int 1))) (.cons (.ret (.bin .FloorDiv (.bin .Add (.call 7 (.cons (.var 0) (.cons (.var 1) .nil))) (.var 2)) (.cst (.int 2)))) .nil) (.nil)) (.cons (.ret (.bin .FloorDiv (.bin .Add (.bin .Add (.bin .Mult (.cst (.int 2)) (.call 7 (.cons (.var 0) (.cons (.var 1) .nil)))) (.var 2)) (.bin .Mult (.var 2) (.var 1))) (.cst (.int 4)))) .nil)) }
def d8 : Df := { name := "number_of_faces", st := topS 11, N := ["n", "k", "middle"], ps := ["n", "k"], fn := f8 }
/-- is_peak -/
def f9 : Fn := { np := 1, nl := 3, body := .cons (.ite (.or (.cons (.cmp .Eq (.var 0) (.cst (.str ""))) (.cons (.inv (.gx .all [("letter", 2)] (.nm 2) (.e (.var 0)) (.nil) (.chn .LtE .LtE (.cst (.str "a")) (.var 2) (.cst (.str "z"))))) .nil))) (.cons (.ret (.cst (.bool false))) .nil) (.nil)) (.cons (.ret (.gx .all [("k", 1)] (.nm 1) (.rg2 (.cst (.int 1)) (.b1 .len (.var 0))) (.nil) (.cmp .Lt (.var 0) (.call 1 (.cons (.var 0) (.cons (.var 1) .nil)))))) .nil) }
def d9 : Df := { name := "is_peak", st := topS 12, N := ["text", "k", "letter"], ps := ["text"], fn := f9, gx := true }
/-- _law_cell -/
def f10 : Fn := { np := 2, nl := 2, body := .cons (.ite (.cmp .Lt (.var 1) (.b1 .len (.var 0))) (.cons (.ret (.ix (.var 0) (.var 1))) .nil) (.nil)) (.cons (.ret (.bin .Add (.bin .Mult (.cst (.int 5)) (.var 1)) (.cst (.int 3)))) .nil) }
def d10 : Df := { name := "_law_cell", st := topS 14, N := ["script", "k"], ps := ["script", "k"], fn := f10 }
/-- _law_draws -/
def f11 : Fn := { np := 2, nl := 8, body := .cons (.asg (.nm 2) (.b1 .abs (.b1 .int (.var 0)))) (.cons (.asg (.nm 3) (.cmp .GtE (.var 2) (.bin .Pow (.cst (.int 10)) (.cst (.int 18))))) (.cons (.asg (.nm 4) (.var 2)) (.cons (.asg (.nm 5) (.lst (.nil))) (.cons (.loop (.nm 6) (.rg1 (.var 1)) (.cons (.ite (.and (.cons (.var 3) (.cons (.cmp .Gt (.var 2) (.cst (.int 0))) .nil))) (.cons (.app 5 (.bin .Mod (.b1 .int (.var 2)) (.cst (.int 5040)))) (.cons (.asg (.nm 2) (.bin .FloorDiv (.var 2) (.cst (.int 5040)))) .nil)) (.cons (.asg (.nm 7) (.bin .Mod (.b1 .int (.bin .Add (.bin .Add (.bin .Mult (.var 4) (.cst (.int 48271))) (.bin .Mult (.bin .Add (.var 6) (.cst (.int 1))) (.cst (.int 69621)))) (.cst (.int 11)))) (.cst (.int 2147483647)))) (.cons (.asg (.nm 7) (.bin .Mod (.b1 .int (.bin .Add (.bin .Mult (.var 7) (.var 7)) (.bin .Mult (.cst (.int 40692)) (.bin .Add (.var 6) (.cst (.int 3)))))) (.cst (.int 2147483399)))) (.cons (.app 5 (.bin .Mod (.b1 .int (.bin .FloorDiv (.var 7) (.cst (.int 64)))) (.cst (.int 5040)))) .nil)))) .nil)) (.cons (.ret (.var 5)) .nil))))) }
def d11 : Df := { name := "_law_draws", st := topS 15, N := ["cell", "count", "rest", "digits", "seed", "draws", "k", "mixed"], ps := ["cell", "count"], fn := f11 }
/-- _law_is_integer -/
def f12 : Fn := { np := 1, nl := 1, body := .cons (.ret (.and (.cons (.isi (.var 0) .int) (.cons (.inv (.isi (.var 0) .bool)) .nil)))) .nil }
def d12 : Df := { name := "_law_is_integer", st := topS 16, N := ["value"], ps := ["value"], fn := f12 }
/-- _law_is -/
def f13 : Fn := { np := 2, nl := 3, body := .cons (.ite (.cmp .Is (.var 1) (.cst .none)) (.cons (.ret (.cmp .Is (.var 0) (.cst .none))) .nil) (.nil)) (.cons (.ite (.isi (.var 1) .bool) (.cons (.ret (.and (.cons (.isi (.var 0) .bool) (.cons (.cmp .Eq (.var 0) (.var 1)) .nil)))) .nil) (.nil)) (.cons (.ite (.isi (.var 1) .int) (.cons (.ret (.and (.cons (.call 12 (.cons (.var 0) .nil)) (.cons (.cmp .Eq (.var 0) (.var 1)) .nil)))) .nil) (.nil)) (.cons (.ite (.isi (.var 1) .str) (.cons (.ret (.and (.cons (.isi (.var 0) .str) (.cons (.cmp .Eq (.var 0) (.var 1)) .nil)))) .nil) (.nil)) (.cons (.ite (.or (.cons (.inv (.isi (.var 0) .tuple)) (.cons (.cmp .NotEq (.b1 .len (.var 0)) (.b1 .len (.var 1))) .nil))) (.cons (.ret (.cst (.bool false))) .nil) (.nil)) (.cons (.ret (.b1 .all (.lc [("at", 2)] (.nm 2) (.rg1 (.b1 .len (.var 1))) (.nil) (.call 13 (.cons (.ix (.var 0) (.var 2)) (.cons (.ix (.var 1) (.var 2)) .nil)))))) .nil))))) }
def d13 : Df := { name := "_law_is", st := topS 17, N := ["value", "due", "at"], ps := ["value", "due"], fn := f13 }
/-- _law_text -/
def f14 : Fn := { np := 3, nl := 8, body := .cons (.asg (.nm 3) (.bin .Mod (.b1 .int (.ix (.var 0) (.cst (.int 0)))) (.cst (.int 4)))) (.cons (.asg (.nm 4) (.bin .Add (.cst (.int 1)) (.bin .Mod (.b1 .int (.ix (.var 0) (.cst (.int 1)))) (.cst (.int 5))))) (.cons (.asg (.nm 5) (.cst (.str ""))) (.cons (.loop (.nm 6) (.rg1 (.var 1)) (.cons (.asg (.nm 7) (.ife (.cmp .Eq (.var 3) (.cst (.int 0))) (.var 6) (.bin .Mod (.b1 .int (.var 6)) (.var 4)))) (.cons (.asg (.nm 5) (.bin .Add (.var 5) (.ix (.var 2) (.bin .Mod (.bin .FloorDiv (.b1 .int (.ix (.var 0) (.bin .Add (.cst (.int 2)) (.bin .Mod (.b1 .int (.var 7)) (.bin .Sub (.b1 .len (.var 0)) (.cst (.int 2))))))) (.cst (.int 5))) (.b1 .len (.var 2)))))) .nil))) (.cons (.ite (.and (.cons (.cmp .Eq (.var 3) (.cst (.int 2))) (.cons (.cmp .Gt (.var 1) (.cst (.int 0))) .nil))) (.cons (.asg (.nm 6) (.bin .Mod (.bin .FloorDiv (.b1 .int (.ix (.var 0) (.cst (.int 1)))) (.cst (.int 7))) (.var 1))) (.cons (.asg (.nm 5) (.bin .Add (.bin .Add (.sl (.var 5) (.no) (.so (.var 6))) (.ix (.var 2) (.bin .Mod (.bin .FloorDiv (.b1 .int (.ix (.var 0) (.cst (.int 0)))) (.cst (.int 9))) (.b1 .len (.var 2))))) (.sl (.var 5) (.so (.bin .Add (.var 6) (.cst (.int 1)))) (.no)))) .nil)) (.nil)) (.cons (.ret (.var 5)) .nil))))) }
def d14 : Df := { name := "_law_text", st := topS 18, N := ["draws", "length", "letters", "way", "size", "text", "at", "k"], ps := ["draws", "length", "letters"], fn := f14 }
/-- _law_power -/
def f15 : Fn := { np := 2, nl := 4, body := .cons (.asg (.nm 2) (.cst (.int 1))) (.cons (.loop (.nm 3) (.rg1 (.var 1)) (.cons (.asg (.nm 2) (.bin .Mult (.var 2) (.var 0))) .nil)) (.cons (.ret (.var 2)) .nil)) }
def d15 : Df := { name := "_law_power", st := topS 19, N := ["k", "n", "number", "turn"], ps := ["k", "n"], fn := f15 }
/-- _law_root -/
def f16 : Fn := { np := 1, nl := 2, body := .cons (.loop (.nm 1) (.rg2 (.cst (.int 1)) (.bin .Add (.b1 .len (.var 0)) (.cst (.int 1)))) (.cons (.ite (.and (.cons (.cmp .Eq (.bin .Mod (.b1 .len (.var 0)) (.var 1)) (.cst (.int 0))) (.cons (.cmp .Eq (.bin .Mult (.sl (.var 0) (.no) (.so (.var 1))) (.bin .FloorDiv (.b1 .len (.var 0)) (.var 1))) (.var 0)) .nil))) (.cons (.ret (.sl (.var 0) (.no) (.so (.var 1)))) .nil) (.nil)) .nil)) (.cons (.ret (.var 0)) .nil) }
def d16 : Df := { name := "_law_root", st := topS 20, N := ["text", "size"], ps := ["text"], fn := f16 }
/-- _law_turns -/
def f17 : Fn := { np := 1, nl := 2, body := .cons (.ret (.lc [("k", 1)] (.nm 1) (.rg1 (.b1 .len (.var 0))) (.nil) (.bin .Add (.sl (.var 0) (.so (.var 1)) (.no)) (.sl (.var 0) (.no) (.so (.var 1)))))) .nil }
def d17 : Df := { name := "_law_turns", st := topS 21, N := ["text", "k"], ps := ["text"], fn := f17 }
/-- _law_is_peak -/
def f18 : Fn := { np := 1, nl := 3, body := .cons (.ite (.or (.cons (.cmp .Eq (.var 0) (.cst (.str ""))) (.cons (.cmp .Gt (.b1 .len (.lc [("sign", 2)] (.nm 2) (.e (.var 0)) (.cons (.inv (.chn .LtE .LtE (.cst (.str "a")) (.var 2) (.cst (.str "z")))) .nil) (.var 2))) (.cst (.int 0))) .nil))) (.cons (.ret (.cst (.bool false))) .nil) (.nil)) (.cons (.ret (.cmp .Eq (.b1 .len (.lc [("other", 1)] (.nm 1) (.e (.sl (.call 17 (.cons (.var 0) .nil)) (.so (.cst (.int 1))) (.no))) (.cons (.cmp .LtE (.var 1) (.var 0)) .nil) (.cst (.int 1)))) (.cst (.int 0)))) .nil) }
def d18 : Df := { name := "_law_is_peak", st := topS 22, N := ["text", "other", "sign"], ps := ["text"], fn := f18 }
/-- _law_strings -/
def f19 : Fn := { np := 2, nl := 7, body := .cons (.asg (.nm 2) (.lst (.cons (.cst (.str "")) .nil))) (.cons (.loop (.nm 3) (.rg1 (.var 1)) (.cons (.asg (.nm 4) (.lst (.nil))) (.cons (.loop (.nm 5) (.e (.var 2)) (.cons (.asg (.nm 4) (.bin .Add (.var 4) (.lc [("letter", 6)] (.nm 6) (.e (.var 0)) (.nil) (.bin .Add (.var 5) (.var 6))))) .nil)) (.cons (.asg (.nm 2) (.var 4)) .nil)))) (.cons (.ret (.var 2)) .nil)) }
def d19 : Df := { name := "_law_strings", st := topS 23, N := ["letters", "n", "texts", "turn", "longer", "text", "letter"], ps := ["letters", "n"], fn := f19 }
/-- _law_right -/
def f20 : Fn := { np := 2, nl := 5, body := .cons (.asg (.nm 2) (.call 17 (.cons (.var 0) .nil))) (.cons (.asg (.nm 3) (.b1 .min (.var 2))) (.cons (.ite (.or (.cons (.inv (.call 13 (.cons (.call 2 (.cons (.var 0) .nil)) (.cons (.var 3) .nil)))) (.cons (.inv (.call 13 (.cons (.call 4 (.cons (.var 0) .nil)) (.cons (.b2 .min2 (.var 3) (.b1 .min (.call 17 (.cons (.rev (.var 0)) .nil)))) .nil)))) .nil))) (.cons (.ret (.cst (.bool false))) .nil) (.nil)) (.cons (.ite (.inv (.call 13 (.cons (.call 5 (.cons (.var 0) .nil)) (.cons (.b1 .len (.b1 .sset (.var 2))) .nil)))) (.cons (.ret (.cst (.bool false))) .nil) (.nil)) (.cons (.ite (.inv (.call 13 (.cons (.call 3 (.cons (.var 0) (.cons (.var 1) .nil))) (.cons (.ife (.cmp .In (.var 1) (.var 2)) (.m1 .index (.var 2) (.var 1)) (.cst .none)) .nil)))) (.cons (.ret (.cst (.bool false))) .nil) (.nil)) (.cons (.ite (.cmp .NotEq (.cmp .Eq (.call 2 (.cons (.var 1) .nil)) (.var 3)) (.cmp .In (.var 1) (.var 2))) (.cons (.ret (.cst (.bool false))) .nil) (.nil)) (.cons (.asg (.nm 4) (.call 0 (.cons (.var 3) .nil))) (.cons (.ite (.or (.cons (.inv (.call 13 (.cons (.var 4) (.cons (.call 16 (.cons (.var 3) .nil)) .nil)))) (.cons (.inv (.call 18 (.cons (.var 4) .nil))) (.cons (.inv (.call 13 (.cons (.call 9 (.cons (.var 4) .nil)) (.cons (.cst (.bool true)) .nil)))) .nil)))) (.cons (.ret (.cst (.bool false))) .nil) (.nil)) (.cons (.ret (.and (.cons (.cmp .Eq (.bin .Mult (.var 4) (.bin .FloorDiv (.b1 .len (.var 0)) (.b1 .len (.var 4)))) (.var 3)) (.cons (.cmp .Eq (.b1 .len (.var 4)) (.b1 .len (.b1 .sset (.var 2)))) .nil)))) .nil)))))))) }
def d20 : Df := { name := "_law_right", st := topS 24, N := ["one", "other", "turns", "least", "piece"], ps := ["one", "other"], fn := f20 }
/-- _law_wheels -/
def f21 : Fn := { np := 2, nl := 6, body := .cons (.asg (.nm 2) (.dnew)) (.cons (.loop (.nm 3) (.rg2 (.cst (.int 1)) (.bin .Add (.var 0) (.cst (.int 1)))) (.cons (.asg (.nm 4) (.call 15 (.cons (.var 1) (.cons (.var 3) .nil)))) (.cons (.loop (.nm 5) (.rg2 (.cst (.int 1)) (.var 3)) (.cons (.ite (.cmp .Eq (.bin .Mod (.var 3) (.var 5)) (.cst (.int 0))) (.cons (.asg (.nm 4) (.bin .Sub (.var 4) (.bin .Mult (.var 5) (.ix (.var 2) (.var 5))))) .nil) (.nil)) .nil)) (.cons (.seti 2 (.var 3) (.bin .FloorDiv (.var 4) (.var 3))) .nil)))) (.cons (.ret (.b1 .sum (.lc [("size", 3)] (.nm 3) (.rg2 (.cst (.int 1)) (.bin .Add (.var 0) (.cst (.int 1)))) (.cons (.cmp .Eq (.bin .Mod (.var 0) (.var 3)) (.cst (.int 0))) .nil) (.ix (.var 2) (.var 3))))) .nil)) }
def d21 : Df := { name := "_law_wheels", st := topS 25, N := ["n", "k", "peaks_by_length", "size", "number", "other"], ps := ["n", "k"], fn := f21 }
/-- _law_mirrored -/
def f22 : Fn := { np := 2, nl := 2, body := .cons (.ite (.cmp .Eq (.bin .Mod (.var 0) (.cst (.int 2))) (.cst (.int 1))) (.cons (.ret (.bin .Mult (.cst (.int 2)) (.call 15 (.cons (.var 1) (.cons (.bin .Add (.bin .FloorDiv (.var 0) (.cst (.int 2))) (.cst (.int 1))) .nil))))) .nil) (.nil)) (.cons (.ret (.bin .Add (.call 15 (.cons (.var 1) (.cons (.bin .FloorDiv (.var 0) (.cst (.int 2))) .nil))) (.call 15 (.cons (.var 1) (.cons (.bin .Add (.bin .FloorDiv (.var 0) (.cst (.int 2))) (.cst (.int 1))) .nil))))) .nil) }
def d22 : Df := { name := "_law_mirrored", st := topS 26, N := ["n", "k"], ps := ["n", "k"], fn := f22 }
/-- _law_numbers -/
def f23 : Fn := { np := 2, nl := 3, body := .cons (.asg (.nm 2) (.call 21 (.cons (.var 0) (.cons (.var 1) .nil)))) (.cons (.ite (.inv (.call 13 (.cons (.call 7 (.cons (.var 0) (.cons (.var 1) .nil))) (.cons (.var 2) .nil)))) (.cons (.ret (.cst (.bool false))) .nil) (.nil)) (.cons (.ret (.call 13 (.cons (.call 8 (.cons (.var 0) (.cons (.var 1) .nil))) (.cons (.bin .FloorDiv (.bin .Add (.bin .Mult (.cst (.int 2)) (.var 2)) (.call 22 (.cons (.var 0) (.cons (.var 1) .nil)))) (.cst (.int 4))) .nil)))) .nil)) }
def d23 : Df := { name := "_law_numbers", st := topS 27, N := ["n", "k", "number"], ps := ["n", "k"], fn := f23 }
/-- _law_counted -/
def f24 : Fn := { np := 2, nl := 6, body := .cons (.asg (.nm 2) (.call 19 (.cons (.sl (.cst (.str "abcdefghij")) (.no) (.so (.var 1))) (.cons (.var 0) .nil)))) (.cons (.asg (.nm 3) (.lc [("text", 5)] (.nm 5) (.e (.var 2)) (.cons (.cmp .Eq (.var 5) (.b1 .min (.call 17 (.cons (.var 5) .nil)))) .nil) (.var 5))) (.cons (.asg (.nm 4) (.lc [("text", 5)] (.nm 5) (.e (.var 3)) (.cons (.cmp .LtE (.var 5) (.b1 .min (.call 17 (.cons (.rev (.var 5)) .nil)))) .nil) (.var 5))) (.cons (.ret (.and (.cons (.call 13 (.cons (.call 7 (.cons (.var 0) (.cons (.var 1) .nil))) (.cons (.b1 .len (.var 3)) .nil))) (.cons (.call 13 (.cons (.call 8 (.cons (.var 0) (.cons (.var 1) .nil))) (.cons (.b1 .len (.var 4)) .nil))) .nil)))) .nil))) }
def d24 : Df := { name := "_law_counted", st := topS 28, N := ["n", "k", "texts", "wheels", "faces", "text"], ps := ["n", "k"], fn := f24 }
/-- law -/
def f25 : Fn := { np := 1, nl := 12, body := .cons (.loop (.nm 1) (.rg1 (.cst (.int 3))) (.cons (.asg (.nm 2) (.call 11 (.cons (.call 10 (.cons (.var 0) (.cons (.bin .Mult (.cst (.int 2)) (.var 1)) .nil))) (.cons (.cst (.int 20)) .nil)))) (.cons (.asg (.nm 3) (.call 11 (.cons (.call 10 (.cons (.var 0) (.cons (.bin .Add (.bin .Mult (.cst (.int 2)) (.var 1)) (.cst (.int 1))) .nil))) (.cons (.cst (.int 22)) .nil)))) (.cons (.asg (.nm 4) (.ix (.tup (.cons (.cst (.str "ab")) (.cons (.cst (.str "abc")) (.cons (.cst (.str "a")) (.cons (.cst (.str "stuvwxyz")) .nil))))) (.bin .Mod (.b1 .int (.ix (.var 2) (.cst (.int 0)))) (.cst (.int 4))))) (.cons (.asg (.nm 5) (.call 14 (.cons (.var 3) (.cons (.ix (.tup (.cons (.cst (.int 6)) (.cons (.cst (.int 9)) (.cons (.cst (.int 12)) (.cons (.cst (.int 4)) (.cons (.cst (.int 2)) (.cons (.cst (.int 1)) (.cons (.cst (.int 16)) .nil)))))))) (.bin .Mod (.b1 .int (.ix (.var 2) (.cst (.int 1)))) (.cst (.int 7)))) (.cons (.var 4) .nil))))) (.cons (.asg (.nm 6) (.bin .Mod (.b1 .int (.ix (.var 2) (.cst (.int 2)))) (.b1 .len (.var 5)))) (.cons (.asg (.nm 7) (.bin .Add (.sl (.var 5) (.so (.var 6)) (.no)) (.sl (.var 5) (.no) (.so (.var 6))))) (.cons (.asg (.nm 8) (.bin .Add (.bin .Add (.sl (.var 5) (.no) (.so (.var 6))) (.ix (.var 4) (.bin .Mod (.b1 .int (.ix (.var 2) (.cst (.int 3)))) (.b1 .len (.var 4))))) (.sl (.var 5) (.so (.bin .Add (.var 6) (.cst (.int 1)))) (.no)))) (.cons (.loop (.nm 9) (.e (.tup (.cons (.var 7) (.cons (.rev (.var 7)) (.cons (.var 8) (.cons (.var 5) (.cons (.sl (.var 5) (.no) (.so (.bin .Add (.var 6) (.cst (.int 1))))) (.cons (.bin .Add (.var 5) (.var 5)) .nil)))))))) (.cons (.ite (.or (.cons (.inv (.call 20 (.cons (.var 5) (.cons (.var 9) .nil)))) (.cons (.inv (.call 20 (.cons (.var 9) (.cons (.var 5) .nil)))) .nil))) (.cons (.ret (.cst (.bool false))) .nil) (.nil)) .nil)) (.cons (.ite (.or (.cons (.inv (.call 23 (.cons (.bin .Add (.cst (.int 1)) (.bin .Mod (.b1 .int (.ix (.var 2) (.cst (.int 4)))) (.cst (.int 30)))) (.cons (.bin .Add (.cst (.int 1)) (.bin .Mod (.b1 .int (.ix (.var 2) (.cst (.int 5)))) (.cst (.int 26)))) .nil)))) (.cons (.inv (.call 23 (.cons (.bin .Sub (.cst (.int 30)) (.var 1)) (.cons (.bin .Add (.cst (.int 2)) (.var 1)) .nil)))) .nil))) (.cons (.ret (.cst (.bool false))) .nil) (.nil)) (.cons (.asg (.tp [10, 11]) (.ix (.tup (.cons (.tup (.cons (.cst (.int 6)) (.cons (.cst (.int 2)) .nil))) (.cons (.tup (.cons (.cst (.int 4)) (.cons (.cst (.int 3)) .nil))) (.cons (.tup (.cons (.cst (.int 5)) (.cons (.cst (.int 2)) .nil))) (.cons (.tup (.cons (.cst (.int 3)) (.cons (.cst (.int 4)) .nil))) (.cons (.tup (.cons (.cst (.int 7)) (.cons (.cst (.int 1)) .nil))) (.cons (.tup (.cons (.cst (.int 2)) (.cons (.cst (.int 9)) .nil))) (.cons (.tup (.cons (.cst (.int 1)) (.cons (.cst (.int 10)) .nil))) .nil)))))))) (.bin .Mod (.b1 .int (.ix (.var 2) (.cst (.int 6)))) (.cst (.int 7))))) (.cons (.ite (.inv (.call 24 (.cons (.var 10) (.cons (.var 11) .nil)))) (.cons (.ret (.cst (.bool false))) .nil) (.nil)) .nil)))))))))))) (.cons (.ret (.and (.cons (.call 24 (.cons (.cst (.int 6)) (.cons (.cst (.int 2)) .nil))) (.cons (.call 24 (.cons (.cst (.int 4)) (.cons (.cst (.int 2)) .nil))) .nil)))) .nil) }
def d25 : Df := { name := "law", st := topS 29, N := ["script", "k", "draws", "part", "letters", "one", "at", "turned", "bent", "other", "n", "most"], ps := ["script"], fn := f25 }
def dS : List Df := [d0, d1, d2, d3, d4, d5, d6, d7, d8, d9, d10, d11, d12, d13, d14, d15, d16, d17, d18, d19, d20, d21, d22, d23, d24, d25]
set_option maxRecDepth 100000 in
theorem ok0 : d0.ok gG bB true = true := by decide +kernel
set_option maxRecDepth 100000 in
theorem ok1 : d1.ok gG bB true = true := by decide +kernel
set_option maxRecDepth 100000 in
theorem ok2 : d2.ok gG bB true = true := by decide +kernel
set_option maxRecDepth 100000 in
theorem ok3 : d3.ok gG bB true = true := by decide +kernel
set_option maxRecDepth 100000 in
theorem ok4 : d4.ok gG bB true = true := by decide +kernel
set_option maxRecDepth 100000 in
theorem ok5 : d5.ok gG bB true = true := by decide +kernel
set_option maxRecDepth 100000 in
theorem ok6 : d6.ok gG bB true = true := by decide +kernel
set_option maxRecDepth 100000 in
theorem ok7 : d7.ok gG bB true = true := by decide +kernel
set_option maxRecDepth 100000 in
theorem ok8 : d8.ok gG bB true = true := by decide +kernel
set_option maxRecDepth 100000 in
theorem ok9 : d9.ok gG bB true = true := by decide +kernel
set_option maxRecDepth 100000 in
theorem ok10 : d10.ok gG bB true = true := by decide +kernel
set_option maxRecDepth 100000 in
theorem ok11 : d11.ok gG bB true = true := by decide +kernel
set_option maxRecDepth 100000 in
theorem ok12 : d12.ok gG bB true = true := by decide +kernel
set_option maxRecDepth 100000 in
theorem ok13 : d13.ok gG bB true = true := by decide +kernel
set_option maxRecDepth 100000 in
theorem ok14 : d14.ok gG bB true = true := by decide +kernel
set_option maxRecDepth 100000 in
theorem ok15 : d15.ok gG bB true = true := by decide +kernel
set_option maxRecDepth 100000 in
theorem ok16 : d16.ok gG bB true = true := by decide +kernel
set_option maxRecDepth 100000 in
theorem ok17 : d17.ok gG bB true = true := by decide +kernel
set_option maxRecDepth 100000 in
theorem ok18 : d18.ok gG bB true = true := by decide +kernel
set_option maxRecDepth 100000 in
theorem ok19 : d19.ok gG bB true = true := by decide +kernel
set_option maxRecDepth 100000 in
theorem ok20 : d20.ok gG bB true = true := by decide +kernel
set_option maxRecDepth 100000 in
theorem ok21 : d21.ok gG bB true = true := by decide +kernel
set_option maxRecDepth 100000 in
theorem ok22 : d22.ok gG bB true = true := by decide +kernel
set_option maxRecDepth 100000 in
theorem ok23 : d23.ok gG bB true = true := by decide +kernel
set_option maxRecDepth 100000 in
theorem ok24 : d24.ok gG bB true = true := by decide +kernel
set_option maxRecDepth 100000 in
theorem ok25 : d25.ok gG bB true = true := by decide +kernel
theorem ar0 : Arg d0.st d0.name d0.ps := fun _ _ _ _ _ _ us hl => match us, hl with | [_], _ => rfl
theorem ar1 : Arg d1.st d1.name d1.ps := fun _ _ _ _ _ _ us hl => match us, hl with | [_, _], _ => rfl
theorem ar2 : Arg d2.st d2.name d2.ps := fun _ _ _ _ _ _ us hl => match us, hl with | [_], _ => rfl
theorem ar3 : Arg d3.st d3.name d3.ps := fun _ _ _ _ _ _ us hl => match us, hl with | [_, _], _ => rfl
theorem ar4 : Arg d4.st d4.name d4.ps := fun _ _ _ _ _ _ us hl => match us, hl with | [_], _ => rfl
theorem ar5 : Arg d5.st d5.name d5.ps := fun _ _ _ _ _ _ us hl => match us, hl with | [_], _ => rfl
theorem ar6 : Arg d6.st d6.name d6.ps := fun _ _ _ _ _ _ us hl => match us, hl with | [_, _], _ => rfl
theorem ar7 : Arg d7.st d7.name d7.ps := fun _ _ _ _ _ _ us hl => match us, hl with | [_, _], _ => rfl
theorem ar8 : Arg d8.st d8.name d8.ps := fun _ _ _ _ _ _ us hl => match us, hl with | [_, _], _ => rfl
theorem ar9 : Arg d9.st d9.name d9.ps := fun _ _ _ _ _ _ us hl => match us, hl with | [_], _ => rfl
theorem ar10 : Arg d10.st d10.name d10.ps := fun _ _ _ _ _ _ us hl => match us, hl with | [_, _], _ => rfl
theorem ar11 : Arg d11.st d11.name d11.ps := fun _ _ _ _ _ _ us hl => match us, hl with | [_, _], _ => rfl
theorem ar12 : Arg d12.st d12.name d12.ps := fun _ _ _ _ _ _ us hl => match us, hl with | [_], _ => rfl
theorem ar13 : Arg d13.st d13.name d13.ps := fun _ _ _ _ _ _ us hl => match us, hl with | [_, _], _ => rfl
theorem ar14 : Arg d14.st d14.name d14.ps := fun _ _ _ _ _ _ us hl => match us, hl with | [_, _, _], _ => rfl
theorem ar15 : Arg d15.st d15.name d15.ps := fun _ _ _ _ _ _ us hl => match us, hl with | [_, _], _ => rfl
theorem ar16 : Arg d16.st d16.name d16.ps := fun _ _ _ _ _ _ us hl => match us, hl with | [_], _ => rfl
theorem ar17 : Arg d17.st d17.name d17.ps := fun _ _ _ _ _ _ us hl => match us, hl with | [_], _ => rfl
theorem ar18 : Arg d18.st d18.name d18.ps := fun _ _ _ _ _ _ us hl => match us, hl with | [_], _ => rfl
theorem ar19 : Arg d19.st d19.name d19.ps := fun _ _ _ _ _ _ us hl => match us, hl with | [_, _], _ => rfl
theorem ar20 : Arg d20.st d20.name d20.ps := fun _ _ _ _ _ _ us hl => match us, hl with | [_, _], _ => rfl
theorem ar21 : Arg d21.st d21.name d21.ps := fun _ _ _ _ _ _ us hl => match us, hl with | [_, _], _ => rfl
theorem ar22 : Arg d22.st d22.name d22.ps := fun _ _ _ _ _ _ us hl => match us, hl with | [_, _], _ => rfl
theorem ar23 : Arg d23.st d23.name d23.ps := fun _ _ _ _ _ _ us hl => match us, hl with | [_, _], _ => rfl
theorem ar24 : Arg d24.st d24.name d24.ps := fun _ _ _ _ _ _ us hl => match us, hl with | [_, _], _ => rfl
theorem ar25 : Arg d25.st d25.name d25.ps := fun _ _ _ _ _ _ us hl => match us, hl with | [_], _ => rfl
theorem okS : ∀ d ∈ dS, d.ok gG bB true = true := by
  intro d hd
  simp only [dS, List.mem_cons, List.not_mem_nil, or_false] at hd
  rcases hd with rfl | rfl | rfl | rfl | rfl | rfl | rfl | rfl | rfl | rfl | rfl | rfl | rfl | rfl | rfl | rfl | rfl | rfl | rfl | rfl | rfl | rfl | rfl | rfl | rfl | rfl
  · exact ok0
  · exact ok1
  · exact ok2
  · exact ok3
  · exact ok4
  · exact ok5
  · exact ok6
  · exact ok7
  · exact ok8
  · exact ok9
  · exact ok10
  · exact ok11
  · exact ok12
  · exact ok13
  · exact ok14
  · exact ok15
  · exact ok16
  · exact ok17
  · exact ok18
  · exact ok19
  · exact ok20
  · exact ok21
  · exact ok22
  · exact ok23
  · exact ok24
  · exact ok25
theorem arS : ∀ d ∈ dS, Arg d.st d.name d.ps := by
  intro d hd
  simp only [dS, List.mem_cons, List.not_mem_nil, or_false] at hd
  rcases hd with rfl | rfl | rfl | rfl | rfl | rfl | rfl | rfl | rfl | rfl | rfl | rfl | rfl | rfl | rfl | rfl | rfl | rfl | rfl | rfl | rfl | rfl | rfl | rfl | rfl | rfl
  · exact ar0
  · exact ar1
  · exact ar2
  · exact ar3
  · exact ar4
  · exact ar5
  · exact ar6
  · exact ar7
  · exact ar8
  · exact ar9
  · exact ar10
  · exact ar11
  · exact ar12
  · exact ar13
  · exact ar14
  · exact ar15
  · exact ar16
  · exact ar17
  · exact ar18
  · exact ar19
  · exact ar20
  · exact ar21
  · exact ar22
  · exact ar23
  · exact ar24
  · exact ar25
structure TopK (K : Frag) : Prop where
  t0 : ∃ fa fd, At K d0.name d0.st fa fd
  t1 : ∃ fa fd, At K d1.name d1.st fa fd
  t2 : ∃ fa fd, At K d2.name d2.st fa fd
  t3 : ∃ fa fd, At K d3.name d3.st fa fd
  t4 : ∃ fa fd, At K d4.name d4.st fa fd
  t5 : ∃ fa fd, At K d5.name d5.st fa fd
  t6 : ∃ fa fd, At K d6.name d6.st fa fd
  t7 : ∃ fa fd, At K d7.name d7.st fa fd
  t8 : ∃ fa fd, At K d8.name d8.st fa fd
  t9 : ∃ fa fd, At K d9.name d9.st fa fd
  t10 : ∃ fa fd, At K d10.name d10.st fa fd
  t11 : ∃ fa fd, At K d11.name d11.st fa fd
  t12 : ∃ fa fd, At K d12.name d12.st fa fd
  t13 : ∃ fa fd, At K d13.name d13.st fa fd
  t14 : ∃ fa fd, At K d14.name d14.st fa fd
  t15 : ∃ fa fd, At K d15.name d15.st fa fd
  t16 : ∃ fa fd, At K d16.name d16.st fa fd
  t17 : ∃ fa fd, At K d17.name d17.st fa fd
  t18 : ∃ fa fd, At K d18.name d18.st fa fd
  t19 : ∃ fa fd, At K d19.name d19.st fa fd
  t20 : ∃ fa fd, At K d20.name d20.st fa fd
  t21 : ∃ fa fd, At K d21.name d21.st fa fd
  t22 : ∃ fa fd, At K d22.name d22.st fa fd
  t23 : ∃ fa fd, At K d23.name d23.st fa fd
  t24 : ∃ fa fd, At K d24.name d24.st fa fd
  t25 : ∃ fa fd, At K d25.name d25.st fa fd
  z0 : PySem.W.nsIn K mainGlobals "abs" = some none
  z1 : PySem.W.nsIn K mainGlobals "all" = some none
  z2 : PySem.W.nsIn K mainGlobals "bool" = some none
  z3 : PySem.W.nsIn K mainGlobals "int" = some none
  z4 : PySem.W.nsIn K mainGlobals "isinstance" = some none
  z5 : PySem.W.nsIn K mainGlobals "len" = some none
  z6 : PySem.W.nsIn K mainGlobals "min" = some none
  z7 : PySem.W.nsIn K mainGlobals "range" = some none
  z8 : PySem.W.nsIn K mainGlobals "set" = some none
  z9 : PySem.W.nsIn K mainGlobals "sorted" = some none
  z10 : PySem.W.nsIn K mainGlobals "str" = some none
  z11 : PySem.W.nsIn K mainGlobals "sum" = some none
  z12 : PySem.W.nsIn K mainGlobals "tuple" = some none
  gc : PySem.W.nsIn K mainGlobals ("gcd" : Str) = some (some (.builtin "math.gcd"))
  x9 : ∃ c P, PySem.W.tabIn K d9.name = some (c, P) ∧ K.lookup P = none
theorem TopK.top {K : Frag} (T : TopK K) : Top K dS gG bB true where
  names := rfl
  ok := okS
  arg := arS
  fns := fun d hd => by
    simp only [dS, List.mem_cons, List.not_mem_nil, or_false] at hd
    rcases hd with rfl | rfl | rfl | rfl | rfl | rfl | rfl | rfl | rfl | rfl | rfl | rfl | rfl | rfl | rfl | rfl | rfl | rfl | rfl | rfl | rfl | rfl | rfl | rfl | rfl | rfl
    · exact T.t0
    · exact T.t1
    · exact T.t2
    · exact T.t3
    · exact T.t4
    · exact T.t5
    · exact T.t6
    · exact T.t7
    · exact T.t8
    · exact T.t9
    · exact T.t10
    · exact T.t11
    · exact T.t12
    · exact T.t13
    · exact T.t14
    · exact T.t15
    · exact T.t16
    · exact T.t17
    · exact T.t18
    · exact T.t19
    · exact T.t20
    · exact T.t21
    · exact T.t22
    · exact T.t23
    · exact T.t24
    · exact T.t25
  blt := fun x hx => by
    simp only [bB, List.mem_cons, List.not_mem_nil, or_false] at hx
    rcases hx with rfl | rfl | rfl | rfl | rfl | rfl | rfl | rfl | rfl | rfl | rfl | rfl | rfl
    · exact T.z0
    · exact T.z1
    · exact T.z2
    · exact T.z3
    · exact T.z4
    · exact T.z5
    · exact T.z6
    · exact T.z7
    · exact T.z8
    · exact T.z9
    · exact T.z10
    · exact T.z11
    · exact T.z12
  gl := fun p hp => by cases hp
  gcd := fun _ => T.gc
theorem TopK.tabs {K : Frag} (T : TopK K) : ∀ d ∈ dS, d.gx = true → ∃ c P, PySem.W.tabIn K d.name = some (c, P) ∧ K.lookup P = none := by
  intro d hd hg
  simp only [dS, List.mem_cons, List.not_mem_nil, or_false] at hd
  rcases hd with rfl | rfl | rfl | rfl | rfl | rfl | rfl | rfl | rfl | rfl | rfl | rfl | rfl | rfl | rfl | rfl | rfl | rfl | rfl | rfl | rfl | rfl | rfl | rfl | rfl | rfl
  · cases hg
  · cases hg
  · cases hg
  · cases hg
  · cases hg
  · cases hg
  · cases hg
  · cases hg
  · cases hg
  · exact T.x9
  · cases hg
  · cases hg
  · cases hg
  · cases hg
  · cases hg
  · cases hg
  · cases hg
  · cases hg
  · cases hg
  · cases hg
  · cases hg
  · cases hg
  · cases hg
  · cases hg
  · cases hg
  · cases hg
end K84

namespace K84
open PySem PySem.Spec PyProof.Rows L2 WM
abbrev T : List Fn := dS.map (·.fn)
theorem kS_0 : cs (Str.ofString "") = [] := by decide +kernel
theorem kS_1 : cs (Str.ofString "a") = [97] := by decide +kernel
theorem kS_2 : cs (Str.ofString "z") = [122] := by decide +kernel
theorem kS_3 : cs (Str.ofString "abcdefghij") = [97, 98, 99, 100, 101, 102, 103, 104, 105, 106] := by decide +kernel
theorem kS_4 : cs (Str.ofString "ab") = [97, 98] := by decide +kernel
theorem kS_5 : cs (Str.ofString "abc") = [97, 98, 99] := by decide +kernel
theorem kS_6 : cs (Str.ofString "stuvwxyz") = [115, 116, 117, 118, 119, 120, 121, 122] := by decide +kernel
theorem hisK : T[13]? = some (fIs 13 12) := rfl
theorem hisJ : T[12]? = some fIsInt := rfl
theorem w__law_is {α : Type} [DecidableEq α] {e : α → WM.D} [XE e] (n : Nat) (hn : 9 ≤ n) (a b : α) (v : Bool) (h : isF e a b = some v) : call gG T wW n 13 [e a, e b] = some (.d (eB v)) := is_w hisK hisJ n hn a b v h

/-- told_root -/
def F_told_root (text : List Nat) : Option (List Nat) :=
(rg2 (1 : Int) (text.length : Int)).bind fun rg_1 =>
(loopO (γ := List Nat) rg_1 () (fun size_4 (s_3 : Unit) =>
(mdO (text.length : Int) size_4).bind fun m_5 =>
(if (decide (m_5 = (0 : Int))) = true then ((dvO (text.length : Int) size_4).bind fun m_6 => (muO (cutL text none (some size_4)) m_6).bind fun m_7 => some (decide (m_7 = text))) else some false).bind fun q_8 =>
if q_8 = true then
some (.rt (cutL text none (some size_4)))
else
some (.nx ()))).bind fun c_9 => c_9.go (fun b_ => some b_) (fun s_10 =>
some text)
theorem w_told_root (n : Nat) (hn : 1 ≤ n) (text : List Nat) (v : List Nat) (h : F_told_root text = some v) : call gG T wW n 0 [eS text] = some (.d (eS v)) := by
  obtain ⟨m, rfl⟩ : ∃ m, n = m + 1 := ⟨n - 1, by omega⟩
  refine call_run (fn := f0) rfl rfl ?_
  show Run _ _ _ f0.body [.va (eS text), .no] _
  simp only [f0]
  unfold F_told_root at h
  obtain ⟨rg_1, h_rg_1, h⟩ := bd h
  obtain ⟨c_9, h_c_9, h⟩ := bd h
  refine r_loop (e := eI) (fun (s_3 : Unit) ρ => ∃ u_size_2 : Sl, ρ = [.va (eS text), u_size_2] ∧ nlk u_size_2 = true ∧ plainSl (some u_size_2) = true) (fun (b_ : List Nat) r_ => r_ = R.d (eS b_)) (i_rg2 q_cI (q_lnS (q_va rfl)) h_rg_1) h_c_9 h ⟨_, rfl, rfl, rfl⟩ (fun size_4 _ s_3 c_ ρ ⟨u_size_2, e_, nu_size_2, pu_size_2⟩ h => ?_) (fun b_ r_ h hq => by cases h; first | exact hq | (subst hq; rfl)) (fun s_10 ρ h ⟨u_size_2, e_, nu_size_2, pu_size_2⟩ => ?_)
  · subst e_
    refine ⟨_, (g_nm rfl nu_size_2), ?_⟩
    obtain ⟨m_5, h_m_5, h⟩ := bd h
    obtain ⟨q_8, h_q_8, h⟩ := bd h
    refine r_ite (q_and (a_consO (q_cmp (DV (q_modO (q_lnS (q_va rfl)) (q_va rfl) h_m_5)) (DV q_cI) (k_eq (e := eI))) h_q_8 (fun v hv => by obtain ⟨m_6, h_m_6, hv⟩ := bd hv; obtain ⟨m_7, h_m_7, hv⟩ := bd hv; cases hv; exact (a_one (q_cmp (DV (q_mulS (q_slS (q_va rfl) o_no (o_so (q_va rfl))) (q_divO (q_lnS (q_va rfl)) (q_va rfl) h_m_6) h_m_7)) (DV (q_va rfl)) (k_eq (e := eS))))))) h (fun h => ?_) (fun h => ?_)
    · cases h
      exact r_retV (q_slS (q_va rfl) o_no (o_so (q_va rfl))) rfl
    · refine run_nil ?_
      cases h
      exact run_nil ⟨_, rfl, rfl, rfl⟩
  · subst e_
    show Run _ _ _ _ [.va (eS text), u_size_2] _
    cases h
    exact r_retV (q_va rfl) rfl
/-- turned_by -/
def F_turned_by (text : List Nat) (k : Int) : Option (List Nat) :=
(adO (cutL text (some k) none) (cutL text none (some k))).bind fun j_11 =>
some j_11
theorem w_turned_by (n : Nat) (hn : 1 ≤ n) (text : List Nat) (k : Int) (v : List Nat) (h : F_turned_by text k = some v) : call gG T wW n 1 [eS text, eI k] = some (.d (eS v)) := by
  obtain ⟨m, rfl⟩ : ∃ m, n = m + 1 := ⟨n - 1, by omega⟩
  refine call_run (fn := f1) rfl rfl ?_
  show Run _ _ _ f1.body [.va (eS text), .va (eI k)] _
  simp only [f1]
  unfold F_turned_by at h
  obtain ⟨j_11, h_j_11, h⟩ := bd h
  cases h
  exact r_retV (q_addS (q_slS (q_va rfl) (o_so (q_va rfl)) o_no) (q_slS (q_va rfl) o_no (o_so (q_va rfl))) h_j_11) rfl
/-- told_turn -/
def F_told_turn (text : List Nat) : Option (List Nat) :=
(rg1 (text.length : Int)).bind fun rg_12 =>
(mapO rg_12 (fun k_13 => (F_turned_by text k_13).bind fun r_14 => some r_14)).bind fun l_15 =>
(mnO eS l_15).bind fun x_16 =>
some x_16
theorem w_told_turn (n : Nat) (hn : 2 ≤ n) (text : List Nat) (v : List Nat) (h : F_told_turn text = some v) : call gG T wW n 2 [eS text] = some (.d (eS v)) := by
  obtain ⟨m, rfl⟩ : ∃ m, n = m + 1 := ⟨n - 1, by omega⟩
  refine call_run (fn := f2) rfl rfl ?_
  show Run _ _ _ f2.body [.va (eS text), .no] _
  simp only [f2]
  unfold F_told_turn at h
  obtain ⟨rg_12, h_rg_12, h⟩ := bd h
  obtain ⟨l_15, h_l_15, h⟩ := bd h
  obtain ⟨x_16, h_x_16, h⟩ := bd h
  cases h
  exact r_retV (q_minL (e := eS) (DFt (q_lc (f := eS) (i_rg1 (q_lnS (q_va rfl)) h_rg_12) (wipe_one rfl rfl) h_l_15 (fun k_13 _ => ⟨_, (g_nm rfl rfl), fun b hb => by obtain ⟨r_14, h_r_14, hb⟩ := bd hb; cases hb; exact (SV (q_callV (Dc (DV (q_va rfl)) (Dc (DV (q_va rfl)) Dn)) (w_turned_by m (by omega) _ _ _ h_r_14)))⟩))) h_x_16) rfl
/-- turn_between -/
def F_turn_between (one : List Nat) (other : List Nat) : Option (Option (Int)) :=
(rg1 (one.length : Int)).bind fun rg_17 =>
(loopO (γ := Option (Int)) rg_17 () (fun k_20 (s_19 : Unit) =>
(F_turned_by one k_20).bind fun r_21 =>
if (decide (r_21 = other)) = true then
some (.rt (some k_20))
else
some (.nx ()))).bind fun c_22 => c_22.go (fun b_ => some b_) (fun s_23 =>
some none)
theorem w_turn_between (n : Nat) (hn : 2 ≤ n) (one : List Nat) (other : List Nat) (v : Option (Int)) (h : F_turn_between one other = some v) : call gG T wW n 3 [eS one, eS other] = some (.d ((eO eI) v)) := by
  obtain ⟨m, rfl⟩ : ∃ m, n = m + 1 := ⟨n - 1, by omega⟩
  refine call_run (fn := f3) rfl rfl ?_
  show Run _ _ _ f3.body [.va (eS one), .va (eS other), .no] _
  simp only [f3]
  unfold F_turn_between at h
  obtain ⟨rg_17, h_rg_17, h⟩ := bd h
  obtain ⟨c_22, h_c_22, h⟩ := bd h
  refine r_loop (e := eI) (fun (s_19 : Unit) ρ => ∃ u_k_18 : Sl, ρ = [.va (eS one), .va (eS other), u_k_18] ∧ nlk u_k_18 = true ∧ plainSl (some u_k_18) = true) (fun (b_ : Option (Int)) r_ => r_ = R.d ((eO eI) b_)) (i_rg1 (q_lnS (q_va rfl)) h_rg_17) h_c_22 h ⟨_, rfl, rfl, rfl⟩ (fun k_20 _ s_19 c_ ρ ⟨u_k_18, e_, nu_k_18, pu_k_18⟩ h => ?_) (fun b_ r_ h hq => by cases h; first | exact hq | (subst hq; rfl)) (fun s_23 ρ h ⟨u_k_18, e_, nu_k_18, pu_k_18⟩ => ?_)
  · subst e_
    refine ⟨_, (g_nm rfl nu_k_18), ?_⟩
    obtain ⟨r_21, h_r_21, h⟩ := bd h
    refine r_ite (q_cmp (DV (q_callV (Dc (DV (q_va rfl)) (Dc (DV (q_va rfl)) Dn)) (w_turned_by m (by omega) _ _ _ h_r_21))) (DV (q_va rfl)) (k_eq (e := eS))) h (fun h => ?_) (fun h => ?_)
    · cases h
      exact r_retV (cO (q_va rfl)) rfl
    · refine run_nil ?_
      cases h
      exact run_nil ⟨_, rfl, rfl, rfl⟩
  · subst e_
    show Run _ _ _ _ [.va (eS one), .va (eS other), u_k_18] _
    cases h
    exact r_retV (cN (e := eI) q_cN) rfl
/-- told_face -/
def F_told_face (text : List Nat) : Option (List Nat) :=
(F_told_turn text).bind fun r_24 =>
(F_told_turn text.reverse).bind fun r_25 =>
some (if decide (r_25 < r_24) = true then r_25 else r_24)
theorem w_told_face (n : Nat) (hn : 3 ≤ n) (text : List Nat) (v : List Nat) (h : F_told_face text = some v) : call gG T wW n 4 [eS text] = some (.d (eS v)) := by
  obtain ⟨m, rfl⟩ : ∃ m, n = m + 1 := ⟨n - 1, by omega⟩
  refine call_run (fn := f4) rfl rfl ?_
  show Run _ _ _ f4.body [.va (eS text)] _
  simp only [f4]
  unfold F_told_face at h
  obtain ⟨r_24, h_r_24, h⟩ := bd h
  obtain ⟨r_25, h_r_25, h⟩ := bd h
  cases h
  exact r_retV (q_mn2S (q_callV (Dc (DV (q_va rfl)) Dn) (w_told_turn m (by omega) _ _ h_r_24)) (q_callV (Dc (DV (q_rvS (q_va rfl))) Dn) (w_told_turn m (by omega) _ _ h_r_25))) rfl
/-- number_of_turns -/
def F_number_of_turns (text : List Nat) : Option (Int) :=
(F_told_root text).bind fun r_26 =>
some (r_26.length : Int)
theorem w_number_of_turns (n : Nat) (hn : 2 ≤ n) (text : List Nat) (v : Int) (h : F_number_of_turns text = some v) : call gG T wW n 5 [eS text] = some (.d (eI v)) := by
  obtain ⟨m, rfl⟩ : ∃ m, n = m + 1 := ⟨n - 1, by omega⟩
  refine call_run (fn := f5) rfl rfl ?_
  show Run _ _ _ f5.body [.va (eS text)] _
  simp only [f5]
  unfold F_number_of_turns at h
  obtain ⟨r_26, h_r_26, h⟩ := bd h
  cases h
  exact r_retV (q_lnS (q_callV (Dc (DV (q_va rfl)) Dn) (w_told_root m (by omega) _ _ h_r_26))) rfl
/-- times_itself -/
def F_times_itself (k : Int) (n_ : Int) : Option (Int) :=
(rg1 n_).bind fun rg_27 =>
(foldO rg_27 (1 : Int) (fun v_30 (s_29 : (Int)) =>
(mulO s_29 k).bind fun number_31 =>
some number_31)).bind fun f_32 =>
some f_32
theorem w_times_itself (n : Nat) (hn : 1 ≤ n) (k : Int) (n_ : Int) (v : Int) (h : F_times_itself k n_ = some v) : call gG T wW n 6 [eI k, eI n_] = some (.d (eI v)) := by
  obtain ⟨m, rfl⟩ : ∃ m, n = m + 1 := ⟨n - 1, by omega⟩
  refine call_run (fn := f6) rfl rfl ?_
  show Run _ _ _ f6.body [.va (eI k), .va (eI n_), .no, .no] _
  simp only [f6]
  unfold F_times_itself at h
  refine r_va q_cI rfl rfl ?_
  obtain ⟨rg_27, h_rg_27, h⟩ := bd h
  obtain ⟨f_32, h_f_32, h⟩ := bd h
  refine r_fold (e := eI) (fun (s_29 : (Int)) ρ => ∃ u___28 : Sl, ρ = [.va (eI k), .va (eI n_), .va (eI s_29), u___28] ∧ nlk u___28 = true ∧ plainSl (some u___28) = true) (i_rg1 (q_va rfl) h_rg_27) h_f_32 ⟨_, rfl, rfl, rfl⟩ (fun v_30 _ s_29 c_ ρ ⟨u___28, e_, nu___28, pu___28⟩ h => ?_) (fun ρ ⟨u___28, e_, nu___28, pu___28⟩ => ?_)
  · subst e_
    refine ⟨_, (g_nm rfl nu___28), ?_⟩
    obtain ⟨number_31, h_number_31, h⟩ := bd h
    refine r_augM rfl (q_va rfl) h_number_31 ?_
    cases h
    exact run_nil ⟨_, rfl, rfl, rfl⟩
  · subst e_
    show Run _ _ _ _ [.va (eI k), .va (eI n_), .va (eI f_32), u___28] _
    cases h
    exact r_retV (q_va rfl) rfl
/-- number_of_wheels -/
def F_number_of_wheels (n_ : Int) (k : Int) : Option (Int) :=
(rg1 n_).bind fun rg_33 =>
(mapO rg_33 (fun at_34 => (F_times_itself k (((Nat.gcd at_34.natAbs n_.natAbs : Nat) : Int))).bind fun r_35 => some r_35)).bind fun l_36 =>
(dvO l_36.sum n_).bind fun m_37 =>
some m_37
theorem w_number_of_wheels (n : Nat) (hn : 2 ≤ n) (n_ : Int) (k : Int) (v : Int) (h : F_number_of_wheels n_ k = some v) : call gG T wW n 7 [eI n_, eI k] = some (.d (eI v)) := by
  obtain ⟨m, rfl⟩ : ∃ m, n = m + 1 := ⟨n - 1, by omega⟩
  refine call_run (fn := f7) rfl rfl ?_
  show Run _ _ _ f7.body [.va (eI n_), .va (eI k), .no] _
  simp only [f7]
  unfold F_number_of_wheels at h
  obtain ⟨rg_33, h_rg_33, h⟩ := bd h
  obtain ⟨l_36, h_l_36, h⟩ := bd h
  obtain ⟨m_37, h_m_37, h⟩ := bd h
  cases h
  exact r_retV (q_divO (q_sum (DFt (q_lc (f := eI) (i_rg1 (q_va rfl) h_rg_33) (wipe_one rfl rfl) h_l_36 (fun at_34 _ => ⟨_, (g_nm rfl rfl), fun b hb => by obtain ⟨r_35, h_r_35, hb⟩ := bd hb; cases hb; exact (SV (q_callV (Dc (DV (q_va rfl)) (Dc (DV (q_gcd (q_va rfl) (q_va rfl))) Dn)) (w_times_itself m (by omega) _ _ _ h_r_35)))⟩)))) (q_va rfl) h_m_37) rfl
/-- number_of_faces -/
def F_number_of_faces (n_ : Int) (k : Int) : Option (Int) :=
(F_times_itself k (((n_ + (1 : Int)) / (2 : Int)))).bind fun r_38 =>
if (decide ((n_ % (2 : Int)) = (1 : Int))) = true then
(F_number_of_wheels n_ k).bind fun r_39 =>
some ((r_39 + r_38) / (2 : Int))
else
(F_number_of_wheels n_ k).bind fun r_40 =>
(mulO r_38 k).bind fun m_41 =>
some (((((2 : Int) * r_40) + r_38) + m_41) / (4 : Int))
theorem w_number_of_faces (n : Nat) (hn : 3 ≤ n) (n_ : Int) (k : Int) (v : Int) (h : F_number_of_faces n_ k = some v) : call gG T wW n 8 [eI n_, eI k] = some (.d (eI v)) := by
  obtain ⟨m, rfl⟩ : ∃ m, n = m + 1 := ⟨n - 1, by omega⟩
  refine call_run (fn := f8) rfl rfl ?_
  show Run _ _ _ f8.body [.va (eI n_), .va (eI k), .no] _
  simp only [f8]
  unfold F_number_of_faces at h
  obtain ⟨r_38, h_r_38, h⟩ := bd h
  refine r_va (q_callV (Dc (DV (q_va rfl)) (Dc (DV (q_div (q_add (q_va rfl) q_cI) q_cI (by decide))) Dn)) (w_times_itself m (by omega) _ _ _ h_r_38)) rfl rfl ?_
  refine r_ite (q_cmp (DV (q_mod (q_va rfl) q_cI (by decide))) (DV q_cI) (k_eq (e := eI))) h (fun h => ?_) (fun h => ?_)
  · obtain ⟨r_39, h_r_39, h⟩ := bd h
    cases h
    exact r_retV (q_div (q_add (q_callV (Dc (DV (q_va rfl)) (Dc (DV (q_va rfl)) Dn)) (w_number_of_wheels m (by omega) _ _ _ h_r_39)) (q_va rfl)) q_cI (by decide)) rfl
  · refine run_nil ?_
    obtain ⟨r_40, h_r_40, h⟩ := bd h
    obtain ⟨m_41, h_m_41, h⟩ := bd h
    cases h
    exact r_retV (q_div (q_add (q_add (q_mulL q_cI (q_callV (Dc (DV (q_va rfl)) (Dc (DV (q_va rfl)) Dn)) (w_number_of_wheels m (by omega) _ _ _ h_r_40)) (by decide)) (q_va rfl)) (q_mul (q_va rfl) (q_va rfl) h_m_41)) q_cI (by decide)) rfl
/-- is_peak -/
def F_is_peak (text : List Nat) : Option (Bool) :=
(if (decide (text = ([] : List Nat))) = true then some true else ((allO (chs text) (fun letter_42 => some ((!ltE eS letter_42 [97]) && (!ltE eS [122] letter_42)))).bind fun g_43 => some (!g_43))).bind fun q_44 =>
if q_44 = true then
some false
else
(rg2 (1 : Int) (text.length : Int)).bind fun rg_45 =>
(allO rg_45 (fun k_46 => (F_turned_by text k_46).bind fun r_47 => some (ltE eS text r_47))).bind fun g_48 =>
some g_48
theorem w_is_peak (n : Nat) (hn : 2 ≤ n) (text : List Nat) (v : Bool) (h : F_is_peak text = some v) : call gG T wW n 9 [eS text] = some (.d (eB v)) := by
  obtain ⟨m, rfl⟩ : ∃ m, n = m + 1 := ⟨n - 1, by omega⟩
  refine call_run (fn := f9) rfl rfl ?_
  show Run _ _ _ f9.body [.va (eS text), .no, .no] _
  simp only [f9]
  unfold F_is_peak at h
  obtain ⟨q_44, h_q_44, h⟩ := bd h
  refine r_ite (q_or (r_consO (q_cmp (DV (q_va rfl)) (DV (q_cS kS_0)) (k_eq (e := eS))) h_q_44 (fun v hv => by obtain ⟨g_43, h_g_43, hv⟩ := bd hv; cases hv; exact (r_one (q_inv (q_gxall (i_S (q_va rfl)) (wipe_one rfl rfl) h_g_43 (fun letter_42 _ => ⟨_, (g_nm rfl rfl), fun b hb => by cases hb; exact (q_chn (DV (q_cS kS_1)) (DV (q_va rfl)) (DV (q_cS kS_2)) (k_le (e := eS)) (k_le (e := eS)))⟩))))))) h (fun h => ?_) (fun h => ?_)
  · cases h
    exact r_retV q_cB rfl
  · refine run_nil ?_
    obtain ⟨rg_45, h_rg_45, h⟩ := bd h
    obtain ⟨g_48, h_g_48, h⟩ := bd h
    cases h
    exact r_retV (q_gxall (i_rg2 q_cI (q_lnS (q_va rfl)) h_rg_45) (wipe_one rfl rfl) h_g_48 (fun k_46 _ => ⟨_, (g_nm rfl rfl), fun b hb => by obtain ⟨r_47, h_r_47, hb⟩ := bd hb; cases hb; exact (q_cmp (DV (q_va rfl)) (DV (q_callV (Dc (DV (q_va rfl)) (Dc (DV (q_va rfl)) Dn)) (w_turned_by m (by omega) _ _ _ h_r_47))) (k_lt (e := eS)))⟩)) rfl
/-- _law_cell -/
def F__law_cell (script : List (Int)) (k : Int) : Option (Int) :=
if (decide (k < (script.length : Int))) = true then
(atI script k).bind fun i_49 =>
some i_49
else
some (((5 : Int) * k) + (3 : Int))
theorem w__law_cell (n : Nat) (hn : 1 ≤ n) (script : List (Int)) (k : Int) (v : Int) (h : F__law_cell script k = some v) : call gG T wW n 10 [(eL eI) script, eI k] = some (.d (eI v)) := by
  obtain ⟨m, rfl⟩ : ∃ m, n = m + 1 := ⟨n - 1, by omega⟩
  refine call_run (fn := f10) rfl rfl ?_
  show Run _ _ _ f10.body [.rd (List.map eI script), .va (eI k)] _
  simp only [f10]
  unfold F__law_cell at h
  refine r_ite (q_cmp (DV (q_va rfl)) (DV (q_lnL (DBt (q_rd rfl)))) k_ltI) h (fun h => ?_) (fun h => ?_)
  · obtain ⟨i_49, h_i_49, h⟩ := bd h
    cases h
    exact r_retV (q_ixL (DBt (q_rd rfl)) (q_va rfl) h_i_49) rfl
  · refine run_nil ?_
    cases h
    exact r_retV (q_add (q_mulL q_cI (q_va rfl) (by decide)) q_cI) rfl
/-- _law_draws -/
def F__law_draws (cell : Int) (count : Int) : Option (List (Int)) :=
(some (if cell < 0 then -cell else cell)).bind fun rest_50 =>
(pwO (10 : Int) (18 : Int)).bind fun m_51 =>
(some (decide (m_51 ≤ rest_50))).bind fun digits_52 =>
(some ([] : List (Int))).bind fun draws_53 =>
(rg1 count).bind fun rg_54 =>
(foldO rg_54 (draws_53, rest_50) (fun k_58 (s_57 : (List (Int)) × (Int)) =>
if (digits_52 && (decide ((0 : Int) < s_57.2))) = true then
(apO s_57.1 (s_57.2 % (5040 : Int))).bind fun draws_59 =>
(some (s_57.2 / (5040 : Int))).bind fun rest_60 =>
some (draws_59, rest_60)
else
(some ((((rest_50 * (48271 : Int)) + ((k_58 + (1 : Int)) * (69621 : Int))) + (11 : Int)) % (2147483647 : Int))).bind fun mixed_61 =>
(mulO mixed_61 mixed_61).bind fun m_62 =>
(some ((m_62 + ((40692 : Int) * (k_58 + (3 : Int)))) % (2147483399 : Int))).bind fun mixed_63 =>
(apO s_57.1 ((mixed_63 / (64 : Int)) % (5040 : Int))).bind fun draws_64 =>
some (draws_64, s_57.2))).bind fun f_65 =>
some f_65.1
theorem w__law_draws (n : Nat) (hn : 1 ≤ n) (cell : Int) (count : Int) (v : List (Int)) (h : F__law_draws cell count = some v) : call gG T wW n 11 [eI cell, eI count] = some (.f (List.map eI v)) := by
  obtain ⟨m, rfl⟩ : ∃ m, n = m + 1 := ⟨n - 1, by omega⟩
  refine call_run (fn := f11) rfl rfl ?_
  show Run _ _ _ f11.body [.va (eI cell), .va (eI count), .no, .no, .no, .no, .no, .no] _
  simp only [f11]
  unfold F__law_draws at h
  obtain ⟨rest_50, h_rest_50, h⟩ := bd h
  refine r_va (cE (e := eI) (q_abs (q_int (q_va rfl))) h_rest_50) rfl rfl ?_
  obtain ⟨m_51, h_m_51, h⟩ := bd h
  obtain ⟨digits_52, h_digits_52, h⟩ := bd h
  refine r_va (cE (e := eB) (q_cmp (DV (q_va rfl)) (DV (q_pow q_cI q_cI h_m_51)) k_geI) h_digits_52) rfl rfl ?_
  refine r_va (q_va rfl) rfl rfl ?_
  obtain ⟨draws_53, h_draws_53, h⟩ := bd h
  refine r_ow (cEF (e := eI) (mkL (e := eI) (s := []) (q_lst Sn) rfl) h_draws_53) rfl rfl ?_
  obtain ⟨rg_54, h_rg_54, h⟩ := bd h
  obtain ⟨f_65, h_f_65, h⟩ := bd h
  refine r_fold (e := eI) (fun (s_57 : (List (Int)) × (Int)) ρ => ∃ u_k_56 : Sl, ∃ u_mixed_55 : Sl, ρ = [.va (eI cell), .va (eI count), .va (eI s_57.2), .va (eB digits_52), .va (eI rest_50), .ow (List.map eI s_57.1), u_k_56, u_mixed_55] ∧ nlk u_k_56 = true ∧ plainSl (some u_k_56) = true ∧ nlk u_mixed_55 = true) (i_rg1 (q_va rfl) h_rg_54) h_f_65 ⟨_, _, rfl, rfl, rfl, rfl⟩ (fun k_58 _ s_57 c_ ρ ⟨u_k_56, u_mixed_55, e_, nu_k_56, pu_k_56, nu_mixed_55⟩ h => ?_) (fun ρ ⟨u_k_56, u_mixed_55, e_, nu_k_56, pu_k_56, nu_mixed_55⟩ => ?_)
  · subst e_
    refine ⟨_, (g_nm rfl nu_k_56), ?_⟩
    refine r_ite (q_and (a_cons (t_leaf rfl (DVb (q_va rfl)) tr_B) (a_one (q_cmp (DV (q_va rfl)) (DV q_cI) k_gtI)))) h (fun h => ?_) (fun h => ?_)
    · obtain ⟨draws_59, h_draws_59, h⟩ := bd h
      refine r_app (e := eI) rfl (SV (q_mod (q_int (q_va rfl)) q_cI (by decide))) h_draws_59 ?_
      obtain ⟨rest_60, h_rest_60, h⟩ := bd h
      refine r_va (cE (e := eI) (q_div (q_va rfl) q_cI (by decide)) h_rest_60) rfl rfl ?_
      refine run_nil ?_
      cases h
      exact run_nil ⟨_, _, rfl, rfl, rfl, nu_mixed_55⟩
    · obtain ⟨mixed_61, h_mixed_61, h⟩ := bd h
      refine r_va (cE (e := eI) (q_mod (q_int (q_add (q_add (q_mulR (q_va rfl) q_cI (by decide)) (q_mulR (q_add (q_va rfl) q_cI) q_cI (by decide))) q_cI)) q_cI (by decide)) h_mixed_61) rfl nu_mixed_55 ?_
      obtain ⟨m_62, h_m_62, h⟩ := bd h
      obtain ⟨mixed_63, h_mixed_63, h⟩ := bd h
      refine r_va (cE (e := eI) (q_mod (q_int (q_add (q_mul (q_va rfl) (q_va rfl) h_m_62) (q_mulL q_cI (q_add (q_va rfl) q_cI) (by decide)))) q_cI (by decide)) h_mixed_63) rfl rfl ?_
      obtain ⟨draws_64, h_draws_64, h⟩ := bd h
      refine r_app (e := eI) rfl (SV (q_mod (q_int (q_div (q_va rfl) q_cI (by decide))) q_cI (by decide))) h_draws_64 ?_
      refine run_nil ?_
      cases h
      exact run_nil ⟨_, _, rfl, rfl, rfl, rfl⟩
  · subst e_
    show Run _ _ _ _ [.va (eI cell), .va (eI count), .va (eI f_65.2), .va (eB digits_52), .va (eI rest_50), .ow (List.map eI f_65.1), u_k_56, u_mixed_55] _
    cases h
    exact r_retB rfl rfl
/-- _law_text -/
def F__law_text (draws : List (Int)) (length : Int) (letters : List Nat) : Option (List Nat) :=
(atI draws (0 : Int)).bind fun i_66 =>
(some (i_66 % (4 : Int))).bind fun way_67 =>
(atI draws (1 : Int)).bind fun i_68 =>
(some ((1 : Int) + (i_68 % (5 : Int)))).bind fun size_69 =>
(some ([] : List Nat)).bind fun text_70 =>
(rg1 length).bind fun rg_71 =>
(foldO rg_71 text_70 (fun at_75 (s_74 : (List Nat)) =>
(if (decide (way_67 = (0 : Int))) = true then (some at_75) else ((mdO at_75 size_69).bind fun m_76 => some m_76)).bind fun c_77 =>
(mdO c_77 ((draws.length : Int) - (2 : Int))).bind fun m_78 =>
(atI draws ((2 : Int) + m_78)).bind fun i_79 =>
(mdO (i_79 / (5 : Int)) (letters.length : Int)).bind fun m_80 =>
(atI (chs letters) m_80).bind fun i_81 =>
(adO s_74 i_81).bind fun j_82 =>
some j_82)).bind fun f_83 =>
(if ((decide (way_67 = (2 : Int))) && (decide ((0 : Int) < length))) = true then (
(atI draws (1 : Int)).bind fun i_86 =>
(mdO (i_86 / (7 : Int)) length).bind fun m_87 =>
(atI draws (0 : Int)).bind fun i_88 =>
(mdO (i_88 / (9 : Int)) (letters.length : Int)).bind fun m_89 =>
(atI (chs letters) m_89).bind fun i_90 =>
(adO (cutL f_83 none (some m_87)) i_90).bind fun j_91 =>
(adO j_91 (cutL f_83 (some (m_87 + (1 : Int))) none)).bind fun j_92 =>
some j_92)
else (
some f_83)).bind fun j_85 =>
some j_85
theorem w__law_text (n : Nat) (hn : 1 ≤ n) (draws : List (Int)) (length : Int) (letters : List Nat) (v : List Nat) (h : F__law_text draws length letters = some v) : call gG T wW n 14 [(eL eI) draws, eI length, eS letters] = some (.d (eS v)) := by
  obtain ⟨m, rfl⟩ : ∃ m, n = m + 1 := ⟨n - 1, by omega⟩
  refine call_run (fn := f14) rfl rfl ?_
  show Run _ _ _ f14.body [.rd (List.map eI draws), .va (eI length), .va (eS letters), .no, .no, .no, .no, .no] _
  simp only [f14]
  unfold F__law_text at h
  obtain ⟨i_66, h_i_66, h⟩ := bd h
  obtain ⟨way_67, h_way_67, h⟩ := bd h
  refine r_va (cE (e := eI) (q_mod (q_int (q_ixL (DBt (q_rd rfl)) q_cI h_i_66)) q_cI (by decide)) h_way_67) rfl rfl ?_
  obtain ⟨i_68, h_i_68, h⟩ := bd h
  obtain ⟨size_69, h_size_69, h⟩ := bd h
  refine r_va (cE (e := eI) (q_add q_cI (q_mod (q_int (q_ixL (DBt (q_rd rfl)) q_cI h_i_68)) q_cI (by decide))) h_size_69) rfl rfl ?_
  obtain ⟨text_70, h_text_70, h⟩ := bd h
  refine r_va (cE (e := eS) (q_cS kS_0) h_text_70) rfl rfl ?_
  obtain ⟨rg_71, h_rg_71, h⟩ := bd h
  obtain ⟨f_83, h_f_83, h⟩ := bd h
  refine r_fold (e := eI) (fun (s_74 : (List Nat)) ρ => ∃ u_at_73 : Sl, ∃ u_k_72 : Sl, ρ = [.rd (List.map eI draws), .va (eI length), .va (eS letters), .va (eI way_67), .va (eI size_69), .va (eS s_74), u_at_73, u_k_72] ∧ nlk u_at_73 = true ∧ nlk u_k_72 = true) (i_rg1 (q_va rfl) h_rg_71) h_f_83 ⟨_, _, rfl, rfl, rfl⟩ (fun at_75 _ s_74 c_ ρ ⟨u_at_73, u_k_72, e_, nu_at_73, nu_k_72⟩ h => ?_) (fun ρ ⟨u_at_73, u_k_72, e_, nu_at_73, nu_k_72⟩ => ?_)
  · subst e_
    refine ⟨_, (g_nm rfl nu_at_73), ?_⟩
    obtain ⟨c_77, h_c_77, h⟩ := bd h
    refine r_va (q_ifeO (e := eI) (q_cmp (DV (q_va rfl)) (DV q_cI) (k_eq (e := eI))) h_c_77 (fun v hv => by cases hv; exact (q_va rfl)) (fun v hv => by obtain ⟨m_76, h_m_76, hv⟩ := bd hv; cases hv; exact (q_modO (q_int (q_va rfl)) (q_va rfl) h_m_76))) rfl nu_k_72 ?_
    obtain ⟨m_78, h_m_78, h⟩ := bd h
    obtain ⟨i_79, h_i_79, h⟩ := bd h
    obtain ⟨m_80, h_m_80, h⟩ := bd h
    obtain ⟨i_81, h_i_81, h⟩ := bd h
    obtain ⟨j_82, h_j_82, h⟩ := bd h
    refine r_va (q_addS (q_va rfl) (q_ixS (q_va rfl) (q_modO (q_div (q_int (q_ixL (DBt (q_rd rfl)) (q_add q_cI (q_modO (q_int (q_va rfl)) (q_sub (q_lnL (DBt (q_rd rfl))) q_cI) h_m_78)) h_i_79)) q_cI (by decide)) (q_lnS (q_va rfl)) h_m_80) h_i_81) h_j_82) rfl rfl ?_
    cases h
    exact run_nil ⟨_, _, rfl, rfl, rfl⟩
  · subst e_
    show Run _ _ _ _ [.rd (List.map eI draws), .va (eI length), .va (eS letters), .va (eI way_67), .va (eI size_69), .va (eS f_83), u_at_73, u_k_72] _
    obtain ⟨j_85, h_j_85, h⟩ := bd h
    refine r_iteJ (fun ρ => ∃ u_at_84 : Sl, ∃ u_k_72 : Sl, ρ = [.rd (List.map eI draws), .va (eI length), .va (eS letters), .va (eI way_67), .va (eI size_69), .va (eS j_85), u_at_84, u_k_72] ∧ nlk u_at_84 = true ∧ nlk u_k_72 = true) (q_and (a_cons (q_cmp (DV (q_va rfl)) (DV q_cI) (k_eq (e := eI))) (a_one (q_cmp (DV (q_va rfl)) (DV q_cI) k_gtI)))) h_j_85 (fun h => ?_) (fun h => ?_) (fun ρ ⟨u_at_84, u_k_72, e_, nu_at_84, nu_k_72⟩ => ?_)
    · obtain ⟨i_86, h_i_86, h⟩ := bd h
      obtain ⟨m_87, h_m_87, h⟩ := bd h
      refine r_va (q_modO (q_div (q_int (q_ixL (DBt (q_rd rfl)) q_cI h_i_86)) q_cI (by decide)) (q_va rfl) h_m_87) rfl nu_at_73 ?_
      obtain ⟨i_88, h_i_88, h⟩ := bd h
      obtain ⟨m_89, h_m_89, h⟩ := bd h
      obtain ⟨i_90, h_i_90, h⟩ := bd h
      obtain ⟨j_91, h_j_91, h⟩ := bd h
      obtain ⟨j_92, h_j_92, h⟩ := bd h
      refine r_va (q_addS (q_addS (q_slS (q_va rfl) o_no (o_so (q_va rfl))) (q_ixS (q_va rfl) (q_modO (q_div (q_int (q_ixL (DBt (q_rd rfl)) q_cI h_i_88)) q_cI (by decide)) (q_lnS (q_va rfl)) h_m_89) h_i_90) h_j_91) (q_slS (q_va rfl) (o_so (q_add (q_va rfl) q_cI)) o_no) h_j_92) rfl rfl ?_
      cases h
      exact run_nil ⟨_, _, rfl, rfl, nu_k_72⟩
    · cases h
      exact run_nil ⟨_, _, rfl, nu_at_73, nu_k_72⟩
    · subst e_
      cases h
      exact r_retV (q_va rfl) rfl
/-- _law_power -/
def F__law_power (k : Int) (n_ : Int) : Option (Int) :=
(rg1 n_).bind fun rg_93 =>
(foldO rg_93 (1 : Int) (fun turn_96 (s_95 : (Int)) =>
(mulO s_95 k).bind fun m_97 =>
some m_97)).bind fun f_98 =>
some f_98
theorem w__law_power (n : Nat) (hn : 1 ≤ n) (k : Int) (n_ : Int) (v : Int) (h : F__law_power k n_ = some v) : call gG T wW n 15 [eI k, eI n_] = some (.d (eI v)) := by
  obtain ⟨m, rfl⟩ : ∃ m, n = m + 1 := ⟨n - 1, by omega⟩
  refine call_run (fn := f15) rfl rfl ?_
  show Run _ _ _ f15.body [.va (eI k), .va (eI n_), .no, .no] _
  simp only [f15]
  unfold F__law_power at h
  refine r_va q_cI rfl rfl ?_
  obtain ⟨rg_93, h_rg_93, h⟩ := bd h
  obtain ⟨f_98, h_f_98, h⟩ := bd h
  refine r_fold (e := eI) (fun (s_95 : (Int)) ρ => ∃ u_turn_94 : Sl, ρ = [.va (eI k), .va (eI n_), .va (eI s_95), u_turn_94] ∧ nlk u_turn_94 = true ∧ plainSl (some u_turn_94) = true) (i_rg1 (q_va rfl) h_rg_93) h_f_98 ⟨_, rfl, rfl, rfl⟩ (fun turn_96 _ s_95 c_ ρ ⟨u_turn_94, e_, nu_turn_94, pu_turn_94⟩ h => ?_) (fun ρ ⟨u_turn_94, e_, nu_turn_94, pu_turn_94⟩ => ?_)
  · subst e_
    refine ⟨_, (g_nm rfl nu_turn_94), ?_⟩
    obtain ⟨m_97, h_m_97, h⟩ := bd h
    refine r_va (q_mul (q_va rfl) (q_va rfl) h_m_97) rfl rfl ?_
    cases h
    exact run_nil ⟨_, rfl, rfl, rfl⟩
  · subst e_
    show Run _ _ _ _ [.va (eI k), .va (eI n_), .va (eI f_98), u_turn_94] _
    cases h
    exact r_retV (q_va rfl) rfl
/-- _law_root -/
def F__law_root (text : List Nat) : Option (List Nat) :=
(rg2 (1 : Int) ((text.length : Int) + (1 : Int))).bind fun rg_99 =>
(loopO (γ := List Nat) rg_99 () (fun size_102 (s_101 : Unit) =>
(mdO (text.length : Int) size_102).bind fun m_103 =>
(if (decide (m_103 = (0 : Int))) = true then ((dvO (text.length : Int) size_102).bind fun m_104 => (muO (cutL text none (some size_102)) m_104).bind fun m_105 => some (decide (m_105 = text))) else some false).bind fun q_106 =>
if q_106 = true then
some (.rt (cutL text none (some size_102)))
else
some (.nx ()))).bind fun c_107 => c_107.go (fun b_ => some b_) (fun s_108 =>
some text)
theorem w__law_root (n : Nat) (hn : 1 ≤ n) (text : List Nat) (v : List Nat) (h : F__law_root text = some v) : call gG T wW n 16 [eS text] = some (.d (eS v)) := by
  obtain ⟨m, rfl⟩ : ∃ m, n = m + 1 := ⟨n - 1, by omega⟩
  refine call_run (fn := f16) rfl rfl ?_
  show Run _ _ _ f16.body [.va (eS text), .no] _
  simp only [f16]
  unfold F__law_root at h
  obtain ⟨rg_99, h_rg_99, h⟩ := bd h
  obtain ⟨c_107, h_c_107, h⟩ := bd h
  refine r_loop (e := eI) (fun (s_101 : Unit) ρ => ∃ u_size_100 : Sl, ρ = [.va (eS text), u_size_100] ∧ nlk u_size_100 = true ∧ plainSl (some u_size_100) = true) (fun (b_ : List Nat) r_ => r_ = R.d (eS b_)) (i_rg2 q_cI (q_add (q_lnS (q_va rfl)) q_cI) h_rg_99) h_c_107 h ⟨_, rfl, rfl, rfl⟩ (fun size_102 _ s_101 c_ ρ ⟨u_size_100, e_, nu_size_100, pu_size_100⟩ h => ?_) (fun b_ r_ h hq => by cases h; first | exact hq | (subst hq; rfl)) (fun s_108 ρ h ⟨u_size_100, e_, nu_size_100, pu_size_100⟩ => ?_)
  · subst e_
    refine ⟨_, (g_nm rfl nu_size_100), ?_⟩
    obtain ⟨m_103, h_m_103, h⟩ := bd h
    obtain ⟨q_106, h_q_106, h⟩ := bd h
    refine r_ite (q_and (a_consO (q_cmp (DV (q_modO (q_lnS (q_va rfl)) (q_va rfl) h_m_103)) (DV q_cI) (k_eq (e := eI))) h_q_106 (fun v hv => by obtain ⟨m_104, h_m_104, hv⟩ := bd hv; obtain ⟨m_105, h_m_105, hv⟩ := bd hv; cases hv; exact (a_one (q_cmp (DV (q_mulS (q_slS (q_va rfl) o_no (o_so (q_va rfl))) (q_divO (q_lnS (q_va rfl)) (q_va rfl) h_m_104) h_m_105)) (DV (q_va rfl)) (k_eq (e := eS))))))) h (fun h => ?_) (fun h => ?_)
    · cases h
      exact r_retV (q_slS (q_va rfl) o_no (o_so (q_va rfl))) rfl
    · refine run_nil ?_
      cases h
      exact run_nil ⟨_, rfl, rfl, rfl⟩
  · subst e_
    show Run _ _ _ _ [.va (eS text), u_size_100] _
    cases h
    exact r_retV (q_va rfl) rfl
/-- _law_turns -/
def F__law_turns (text : List Nat) : Option (List (List Nat)) :=
(rg1 (text.length : Int)).bind fun rg_109 =>
(mapO rg_109 (fun k_110 => (adO (cutL text (some k_110) none) (cutL text none (some k_110))).bind fun j_111 => some j_111)).bind fun l_112 =>
some l_112
theorem w__law_turns (n : Nat) (hn : 1 ≤ n) (text : List Nat) (v : List (List Nat)) (h : F__law_turns text = some v) : call gG T wW n 17 [eS text] = some (.f (List.map eS v)) := by
  obtain ⟨m, rfl⟩ : ∃ m, n = m + 1 := ⟨n - 1, by omega⟩
  refine call_run (fn := f17) rfl rfl ?_
  show Run _ _ _ f17.body [.va (eS text), .no] _
  simp only [f17]
  unfold F__law_turns at h
  obtain ⟨rg_109, h_rg_109, h⟩ := bd h
  obtain ⟨l_112, h_l_112, h⟩ := bd h
  cases h
  exact r_retF (q_lc (f := eS) (i_rg1 (q_lnS (q_va rfl)) h_rg_109) (wipe_one rfl rfl) h_l_112 (fun k_110 _ => ⟨_, (g_nm rfl rfl), fun b hb => by obtain ⟨j_111, h_j_111, hb⟩ := bd hb; cases hb; exact (SV (q_addS (q_slS (q_va rfl) (o_so (q_va rfl)) o_no) (q_slS (q_va rfl) o_no (o_so (q_va rfl))) h_j_111))⟩)) rfl
/-- _law_is_peak -/
def F__law_is_peak (text : List Nat) : Option (Bool) :=
(if (decide (text = ([] : List Nat))) = true then some true else ((lcO (chs text) (fun sign_113 => some (!((!ltE eS sign_113 [97]) && (!ltE eS [122] sign_113)))) (fun sign_113 => some sign_113)).bind fun l_114 => some (decide ((0 : Int) < (l_114.length : Int))))).bind fun q_115 =>
if q_115 = true then
some false
else
(F__law_turns text).bind fun r_116 =>
(lcO (cutL r_116 (some (1 : Int)) none) (fun other_117 => some (!ltE eS text other_117)) (fun other_117 => some (1 : Int))).bind fun l_118 =>
some (decide ((l_118.length : Int) = (0 : Int)))
theorem w__law_is_peak (n : Nat) (hn : 2 ≤ n) (text : List Nat) (v : Bool) (h : F__law_is_peak text = some v) : call gG T wW n 18 [eS text] = some (.d (eB v)) := by
  obtain ⟨m, rfl⟩ : ∃ m, n = m + 1 := ⟨n - 1, by omega⟩
  refine call_run (fn := f18) rfl rfl ?_
  show Run _ _ _ f18.body [.va (eS text), .no, .no] _
  simp only [f18]
  unfold F__law_is_peak at h
  obtain ⟨q_115, h_q_115, h⟩ := bd h
  refine r_ite (q_or (r_consO (q_cmp (DV (q_va rfl)) (DV (q_cS kS_0)) (k_eq (e := eS))) h_q_115 (fun v hv => by obtain ⟨l_114, h_l_114, hv⟩ := bd hv; cases hv; exact (r_one (q_cmp (DV (q_lnL (DFt (q_lcF (f := eS) (i_S (q_va rfl)) (wipe_one rfl rfl) h_l_114 (fun sign_113 _ => ⟨_, (g_nm rfl rfl), fun b hb => by cases hb; exact (q_inv (q_chn (DV (q_cS kS_1)) (DV (q_va rfl)) (DV (q_cS kS_2)) (k_le (e := eS)) (k_le (e := eS)))), fun b hb => by cases hb; exact (SV (q_va rfl))⟩))))) (DV q_cI) k_gtI))))) h (fun h => ?_) (fun h => ?_)
  · cases h
    exact r_retV q_cB rfl
  · refine run_nil ?_
    obtain ⟨r_116, h_r_116, h⟩ := bd h
    obtain ⟨l_118, h_l_118, h⟩ := bd h
    cases h
    exact r_retV (q_cmp (DV (q_lnL (DFt (q_lcF (f := eI) (i_F (q_slL (DFt (q_callF (Dc (DV (q_va rfl)) Dn) (w__law_turns m (by omega) _ _ h_r_116))) (o_so q_cI) o_no)) (wipe_one rfl rfl) h_l_118 (fun other_117 _ => ⟨_, (g_nm rfl rfl), fun b hb => by cases hb; exact (q_cmp (DV (q_va rfl)) (DV (q_va rfl)) (k_le (e := eS))), fun b hb => by cases hb; exact (SV q_cI)⟩))))) (DV q_cI) (k_eq (e := eI))) rfl
/-- _law_strings -/
def F__law_strings (letters : List Nat) (n_ : Int) : Option (List (List Nat)) :=
(some [([] : List Nat)]).bind fun texts_119 =>
(rg1 n_).bind fun rg_120 =>
(foldO rg_120 texts_119 (fun turn_125 (s_124 : (List (List Nat))) =>
(some ([] : List (List Nat))).bind fun longer_126 =>
(foldO s_124 longer_126 (fun text_129 (s_128 : (List (List Nat))) =>
(mapO (chs letters) (fun letter_130 => (adO text_129 letter_130).bind fun j_131 => some j_131)).bind fun l_132 =>
(adO s_128 l_132).bind fun j_133 =>
some j_133)).bind fun f_134 =>
some f_134)).bind fun f_135 =>
some f_135
theorem w__law_strings (n : Nat) (hn : 1 ≤ n) (letters : List Nat) (n_ : Int) (v : List (List Nat)) (h : F__law_strings letters n_ = some v) : call gG T wW n 19 [eS letters, eI n_] = some (.f (List.map eS v)) := by
  obtain ⟨m, rfl⟩ : ∃ m, n = m + 1 := ⟨n - 1, by omega⟩
  refine call_run (fn := f19) rfl rfl ?_
  show Run _ _ _ f19.body [.va (eS letters), .va (eI n_), .no, .no, .no, .no, .no] _
  simp only [f19]
  unfold F__law_strings at h
  obtain ⟨texts_119, h_texts_119, h⟩ := bd h
  refine r_ow (cEF (e := eS) (mkL (e := eS) (s := [([] : List Nat)]) (q_lst (Sc (SV (q_cS kS_0)) Sn)) rfl) h_texts_119) rfl rfl ?_
  obtain ⟨rg_120, h_rg_120, h⟩ := bd h
  obtain ⟨f_135, h_f_135, h⟩ := bd h
  refine r_fold (e := eI) (fun (s_124 : (List (List Nat))) ρ => ∃ u_turn_123 : Sl, ∃ u_longer_121 : Sl, ∃ u_text_122 : Sl, ρ = [.va (eS letters), .va (eI n_), .ow (List.map eS s_124), u_turn_123, u_longer_121, u_text_122, .no] ∧ nlk u_turn_123 = true ∧ plainSl (some u_turn_123) = true ∧ nlk u_longer_121 = true ∧ nlk u_text_122 = true ∧ plainSl (some u_text_122) = true) (i_rg1 (q_va rfl) h_rg_120) h_f_135 ⟨_, _, _, rfl, rfl, rfl, rfl, rfl, rfl⟩ (fun turn_125 _ s_124 c_ ρ ⟨u_turn_123, u_longer_121, u_text_122, e_, nu_turn_123, pu_turn_123, nu_longer_121, nu_text_122, pu_text_122⟩ h => ?_) (fun ρ ⟨u_turn_123, u_longer_121, u_text_122, e_, nu_turn_123, pu_turn_123, nu_longer_121, nu_text_122, pu_text_122⟩ => ?_)
  · subst e_
    refine ⟨_, (g_nm rfl nu_turn_123), ?_⟩
    obtain ⟨longer_126, h_longer_126, h⟩ := bd h
    refine r_ow (cEF (e := eS) (mkL (e := eS) (s := []) (q_lst Sn) rfl) h_longer_126) rfl nu_longer_121 ?_
    obtain ⟨f_134, h_f_134, h⟩ := bd h
    refine r_fold (e := eS) (fun (s_128 : (List (List Nat))) ρ => ∃ u_text_127 : Sl, ρ = [.va (eS letters), .va (eI n_), .lk (List.map eS s_124), .va (eI turn_125), .ow (List.map eS s_128), u_text_127, .no] ∧ nlk u_text_127 = true ∧ plainSl (some u_text_127) = true) (i_B (q_ow rfl)) h_f_134 ⟨_, rfl, nu_text_122, pu_text_122⟩ (fun text_129 _ s_128 c_ ρ ⟨u_text_127, e_, nu_text_127, pu_text_127⟩ h => ?_) (fun ρ ⟨u_text_127, e_, nu_text_127, pu_text_127⟩ => ?_)
    · subst e_
      refine ⟨_, (g_nm rfl nu_text_127), ?_⟩
      obtain ⟨l_132, h_l_132, h⟩ := bd h
      obtain ⟨j_133, h_j_133, h⟩ := bd h
      refine r_ow (q_addL (DBt (q_ow rfl)) (DFt (q_lc (f := eS) (i_S (q_va rfl)) (wipe_one rfl rfl) h_l_132 (fun letter_130 _ => ⟨_, (g_nm rfl rfl), fun b hb => by obtain ⟨j_131, h_j_131, hb⟩ := bd hb; cases hb; exact (SV (q_addS (q_va rfl) (q_va rfl) h_j_131))⟩))) h_j_133) rfl rfl ?_
      cases h
      exact run_nil ⟨_, rfl, rfl, rfl⟩
    · subst e_
      show Run _ _ _ _ [.va (eS letters), .va (eI n_), .ow (List.map eS s_124), .va (eI turn_125), .ow (List.map eS f_134), u_text_127, .no] _
      refine r_mov rfl rfl rfl rfl ?_
      cases h
      exact run_nil ⟨_, _, _, rfl, rfl, rfl, rfl, nu_text_127, pu_text_127⟩
  · subst e_
    show Run _ _ _ _ [.va (eS letters), .va (eI n_), .ow (List.map eS f_135), u_turn_123, u_longer_121, u_text_122, .no] _
    cases h
    exact r_retB rfl rfl
/-- _law_right -/
def F__law_right (one : List Nat) (other : List Nat) : Option (Bool) :=
(F__law_turns one).bind fun r_136 =>
(mnO eS r_136).bind fun x_137 =>
(F_told_turn one).bind fun r_138 =>
(isF eS r_138 x_137).bind fun is_139 =>
(if (!is_139) = true then some true else ((F_told_face one).bind fun r_140 => (F__law_turns one.reverse).bind fun r_141 => (mnO eS r_141).bind fun x_142 => (isF eS r_140 (if decide (x_142 < x_137) = true then x_142 else x_137)).bind fun is_143 => some (!is_143))).bind fun q_144 =>
if q_144 = true then
some false
else
(F_number_of_turns one).bind fun r_145 =>
(ssO eS r_136).bind fun s_146 =>
(isF eI r_145 (s_146.length : Int)).bind fun is_147 =>
if (!is_147) = true then
some false
else
(F_turn_between one other).bind fun r_148 =>
(if (memB other r_136) = true then ((ixO r_136 other).bind fun i_149 => some (some i_149)) else (some none)).bind fun c_150 =>
(isF (eO eI) r_148 c_150).bind fun is_151 =>
if (!is_151) = true then
some false
else
(F_told_turn other).bind fun r_152 =>
if (!decide ((decide (r_152 = x_137)) = (memB other r_136))) = true then
some false
else
(F_told_root x_137).bind fun r_153 =>
(F__law_root x_137).bind fun r_154 =>
(isF eS r_153 r_154).bind fun is_155 =>
(if (!is_155) = true then some true else ((F__law_is_peak r_153).bind fun r_156 => (if (!r_156) = true then some true else ((F_is_peak r_153).bind fun r_157 => (isF eB r_157 true).bind fun is_158 => some (!is_158))).bind fun q_159 => some q_159)).bind fun q_160 =>
if q_160 = true then
some false
else
(dvO (one.length : Int) (r_153.length : Int)).bind fun m_161 =>
(muO r_153 m_161).bind fun m_162 =>
(if (decide (m_162 = x_137)) = true then ((ssO eS r_136).bind fun s_163 => some (decide ((r_153.length : Int) = (s_163.length : Int)))) else some false).bind fun q_164 =>
some q_164
theorem w__law_right (n : Nat) (hn : 10 ≤ n) (one : List Nat) (other : List Nat) (v : Bool) (h : F__law_right one other = some v) : call gG T wW n 20 [eS one, eS other] = some (.d (eB v)) := by
  obtain ⟨m, rfl⟩ : ∃ m, n = m + 1 := ⟨n - 1, by omega⟩
  refine call_run (fn := f20) rfl rfl ?_
  show Run _ _ _ f20.body [.va (eS one), .va (eS other), .no, .no, .no] _
  simp only [f20]
  unfold F__law_right at h
  obtain ⟨r_136, h_r_136, h⟩ := bd h
  refine r_ow (q_callF (Dc (DV (q_va rfl)) Dn) (w__law_turns m (by omega) _ _ h_r_136)) rfl rfl ?_
  obtain ⟨x_137, h_x_137, h⟩ := bd h
  refine r_va (q_minL (e := eS) (DBt (q_ow rfl)) h_x_137) rfl rfl ?_
  obtain ⟨r_138, h_r_138, h⟩ := bd h
  obtain ⟨is_139, h_is_139, h⟩ := bd h
  obtain ⟨q_144, h_q_144, h⟩ := bd h
  refine r_ite (q_or (r_consO (q_inv (t_leaf rfl (DVb (q_callV (Dc (DV (q_callV (Dc (DV (q_va rfl)) Dn) (w_told_turn m (by omega) _ _ h_r_138))) (Dc (DV (q_va rfl)) Dn)) (w__law_is m (by omega) _ _ _ h_is_139))) tr_B)) h_q_144 (fun v hv => by obtain ⟨r_140, h_r_140, hv⟩ := bd hv; obtain ⟨r_141, h_r_141, hv⟩ := bd hv; obtain ⟨x_142, h_x_142, hv⟩ := bd hv; obtain ⟨is_143, h_is_143, hv⟩ := bd hv; cases hv; exact (r_one (q_inv (t_leaf rfl (DVb (q_callV (Dc (DV (q_callV (Dc (DV (q_va rfl)) Dn) (w_told_face m (by omega) _ _ h_r_140))) (Dc (DV (q_mn2S (q_va rfl) (q_minL (e := eS) (DFt (q_callF (Dc (DV (q_rvS (q_va rfl))) Dn) (w__law_turns m (by omega) _ _ h_r_141))) h_x_142))) Dn)) (w__law_is m (by omega) _ _ _ h_is_143))) tr_B)))))) h (fun h => ?_) (fun h => ?_)
  · cases h
    exact r_retV q_cB rfl
  · refine run_nil ?_
    obtain ⟨r_145, h_r_145, h⟩ := bd h
    obtain ⟨s_146, h_s_146, h⟩ := bd h
    obtain ⟨is_147, h_is_147, h⟩ := bd h
    refine r_ite (q_inv (t_leaf rfl (DVb (q_callV (Dc (DV (q_callV (Dc (DV (q_va rfl)) Dn) (w_number_of_turns m (by omega) _ _ h_r_145))) (Dc (DV (q_lnL (DFt (q_ss (e := eS) (KL (DBt (q_ow rfl))) h_s_146)))) Dn)) (w__law_is m (by omega) _ _ _ h_is_147))) tr_B)) h (fun h => ?_) (fun h => ?_)
    · cases h
      exact r_retV q_cB rfl
    · refine run_nil ?_
      obtain ⟨r_148, h_r_148, h⟩ := bd h
      obtain ⟨c_150, h_c_150, h⟩ := bd h
      obtain ⟨is_151, h_is_151, h⟩ := bd h
      refine r_ite (q_inv (t_leaf rfl (DVb (q_callV (Dc (DV (q_callV (Dc (DV (q_va rfl)) (Dc (DV (q_va rfl)) Dn)) (w_turn_between m (by omega) _ _ _ h_r_148))) (Dc (DV (q_ifeO (e := (eO eI)) (q_cmp (DV (q_va rfl)) (DBt (q_ow rfl)) (k_inL (e := eS))) h_c_150 (fun v hv => by obtain ⟨i_149, h_i_149, hv⟩ := bd hv; cases hv; exact (cO (q_ix (e := eS) (DBt (q_ow rfl)) (DV (q_va rfl)) h_i_149))) (fun v hv => by cases hv; exact (cN (e := eI) q_cN)))) Dn)) (w__law_is m (by omega) _ _ _ h_is_151))) tr_B)) h (fun h => ?_) (fun h => ?_)
      · cases h
        exact r_retV q_cB rfl
      · refine run_nil ?_
        obtain ⟨r_152, h_r_152, h⟩ := bd h
        refine r_ite (q_cmp (DVb (q_cmp (DV (q_callV (Dc (DV (q_va rfl)) Dn) (w_told_turn m (by omega) _ _ h_r_152))) (DV (q_va rfl)) (k_eq (e := eS)))) (DVb (q_cmp (DV (q_va rfl)) (DBt (q_ow rfl)) (k_inL (e := eS)))) (k_ne (e := eB))) h (fun h => ?_) (fun h => ?_)
        · cases h
          exact r_retV q_cB rfl
        · refine run_nil ?_
          obtain ⟨r_153, h_r_153, h⟩ := bd h
          refine r_va (q_callV (Dc (DV (q_va rfl)) Dn) (w_told_root m (by omega) _ _ h_r_153)) rfl rfl ?_
          obtain ⟨r_154, h_r_154, h⟩ := bd h
          obtain ⟨is_155, h_is_155, h⟩ := bd h
          obtain ⟨q_160, h_q_160, h⟩ := bd h
          refine r_ite (q_or (r_consO (q_inv (t_leaf rfl (DVb (q_callV (Dc (DV (q_va rfl)) (Dc (DV (q_callV (Dc (DV (q_va rfl)) Dn) (w__law_root m (by omega) _ _ h_r_154))) Dn)) (w__law_is m (by omega) _ _ _ h_is_155))) tr_B)) h_q_160 (fun v hv => by obtain ⟨r_156, h_r_156, hv⟩ := bd hv; obtain ⟨q_159, h_q_159, hv⟩ := bd hv; cases hv; exact (r_consO (q_inv (t_leaf rfl (DVb (q_callV (Dc (DV (q_va rfl)) Dn) (w__law_is_peak m (by omega) _ _ h_r_156))) tr_B)) h_q_159 (fun v hv => by obtain ⟨r_157, h_r_157, hv⟩ := bd hv; obtain ⟨is_158, h_is_158, hv⟩ := bd hv; cases hv; exact (r_one (q_inv (t_leaf rfl (DVb (q_callV (Dc (DVb (q_callV (Dc (DV (q_va rfl)) Dn) (w_is_peak m (by omega) _ _ h_r_157))) (Dc (DVb q_cB) Dn)) (w__law_is m (by omega) _ _ _ h_is_158))) tr_B)))))))) h (fun h => ?_) (fun h => ?_)
          · cases h
            exact r_retV q_cB rfl
          · refine run_nil ?_
            obtain ⟨m_161, h_m_161, h⟩ := bd h
            obtain ⟨m_162, h_m_162, h⟩ := bd h
            obtain ⟨q_164, h_q_164, h⟩ := bd h
            cases h
            exact r_retV (q_and (a_consO (q_cmp (DV (q_mulS (q_va rfl) (q_divO (q_lnS (q_va rfl)) (q_lnS (q_va rfl)) h_m_161) h_m_162)) (DV (q_va rfl)) (k_eq (e := eS))) h_q_164 (fun v hv => by obtain ⟨s_163, h_s_163, hv⟩ := bd hv; cases hv; exact (a_one (q_cmp (DV (q_lnS (q_va rfl))) (DV (q_lnL (DFt (q_ss (e := eS) (KL (DBt (q_ow rfl))) h_s_163)))) (k_eq (e := eI))))))) rfl
/-- _law_wheels -/
def F__law_wheels (n_ : Int) (k : Int) : Option (Int) :=
(some ([] : List ((Int) × (Int)))).bind fun peaksbylength_165 =>
(rg2 (1 : Int) (n_ + (1 : Int))).bind fun rg_166 =>
(foldO rg_166 peaksbylength_165 (fun size_171 (s_170 : (List ((Int) × (Int)))) =>
(F__law_power k size_171).bind fun r_172 =>
(rg2 (1 : Int) size_171).bind fun rg_173 =>
(foldO rg_173 r_172 (fun other_176 (s_175 : (Int)) =>
(mdO size_171 other_176).bind fun m_177 =>
if (decide (m_177 = (0 : Int))) = true then
(getM s_170 other_176).bind fun d_178 =>
(mulO other_176 d_178).bind fun m_179 =>
(some (s_175 - m_179)).bind fun number_180 =>
some number_180
else
some s_175)).bind fun f_181 =>
(dvO f_181 size_171).bind fun m_182 =>
(ptO s_170 size_171 m_182).bind fun peaksbylength_183 =>
some peaksbylength_183)).bind fun f_184 =>
(rg2 (1 : Int) (n_ + (1 : Int))).bind fun rg_185 =>
(lcO rg_185 (fun size_186 => (mdO n_ size_186).bind fun m_189 => some (decide (m_189 = (0 : Int)))) (fun size_186 => (getM f_184 size_186).bind fun d_187 => some d_187)).bind fun l_188 =>
some l_188.sum
theorem w__law_wheels (n : Nat) (hn : 2 ≤ n) (n_ : Int) (k : Int) (v : Int) (h : F__law_wheels n_ k = some v) : call gG T wW n 21 [eI n_, eI k] = some (.d (eI v)) := by
  obtain ⟨m, rfl⟩ : ∃ m, n = m + 1 := ⟨n - 1, by omega⟩
  refine call_run (fn := f21) rfl rfl ?_
  show Run _ _ _ f21.body [.va (eI n_), .va (eI k), .no, .no, .no, .no] _
  simp only [f21]
  unfold F__law_wheels at h
  obtain ⟨peaksbylength_165, h_peaksbylength_165, h⟩ := bd h
  refine r_od (cEFd (e := eI) (f := eI) (q_dnew (e := eI) (f := eI)) h_peaksbylength_165) rfl rfl ?_
  obtain ⟨rg_166, h_rg_166, h⟩ := bd h
  obtain ⟨f_184, h_f_184, h⟩ := bd h
  refine r_fold (e := eI) (fun (s_170 : (List ((Int) × (Int)))) ρ => ∃ u_size_169 : Sl, ∃ u_number_167 : Sl, ∃ u_other_168 : Sl, ρ = [.va (eI n_), .va (eI k), .od (en2 eI eI s_170), u_size_169, u_number_167, u_other_168] ∧ nlk u_size_169 = true ∧ plainSl (some u_size_169) = true ∧ nlk u_number_167 = true ∧ nlk u_other_168 = true ∧ plainSl (some u_other_168) = true) (i_rg2 q_cI (q_add (q_va rfl) q_cI) h_rg_166) h_f_184 ⟨_, _, _, rfl, rfl, rfl, rfl, rfl, rfl⟩ (fun size_171 _ s_170 c_ ρ ⟨u_size_169, u_number_167, u_other_168, e_, nu_size_169, pu_size_169, nu_number_167, nu_other_168, pu_other_168⟩ h => ?_) (fun ρ ⟨u_size_169, u_number_167, u_other_168, e_, nu_size_169, pu_size_169, nu_number_167, nu_other_168, pu_other_168⟩ => ?_)
  · subst e_
    refine ⟨_, (g_nm rfl nu_size_169), ?_⟩
    obtain ⟨r_172, h_r_172, h⟩ := bd h
    refine r_va (q_callV (Dc (DV (q_va rfl)) (Dc (DV (q_va rfl)) Dn)) (w__law_power m (by omega) _ _ _ h_r_172)) rfl nu_number_167 ?_
    obtain ⟨rg_173, h_rg_173, h⟩ := bd h
    obtain ⟨f_181, h_f_181, h⟩ := bd h
    refine r_fold (e := eI) (fun (s_175 : (Int)) ρ => ∃ u_other_174 : Sl, ρ = [.va (eI n_), .va (eI k), .od (en2 eI eI s_170), .va (eI size_171), .va (eI s_175), u_other_174] ∧ nlk u_other_174 = true ∧ plainSl (some u_other_174) = true) (i_rg2 q_cI (q_va rfl) h_rg_173) h_f_181 ⟨_, rfl, nu_other_168, pu_other_168⟩ (fun other_176 _ s_175 c_ ρ ⟨u_other_174, e_, nu_other_174, pu_other_174⟩ h => ?_) (fun ρ ⟨u_other_174, e_, nu_other_174, pu_other_174⟩ => ?_)
    · subst e_
      refine ⟨_, (g_nm rfl nu_other_174), ?_⟩
      obtain ⟨m_177, h_m_177, h⟩ := bd h
      refine r_ite (q_cmp (DV (q_modO (q_va rfl) (q_va rfl) h_m_177)) (DV q_cI) (k_eq (e := eI))) h (fun h => ?_) (fun h => ?_)
      · obtain ⟨d_178, h_d_178, h⟩ := bd h
        obtain ⟨m_179, h_m_179, h⟩ := bd h
        obtain ⟨number_180, h_number_180, h⟩ := bd h
        refine r_va (cE (e := eI) (q_sub (q_va rfl) (q_mul (q_va rfl) (q_ixM (e := eI) (f := eI) (DBDt (q_od rfl)) (q_va rfl) h_d_178) h_m_179)) h_number_180) rfl rfl ?_
        refine run_nil ?_
        cases h
        exact run_nil ⟨_, rfl, rfl, rfl⟩
      · refine run_nil ?_
        cases h
        exact run_nil ⟨_, rfl, rfl, rfl⟩
    · subst e_
      show Run _ _ _ _ [.va (eI n_), .va (eI k), .od (en2 eI eI s_170), .va (eI size_171), .va (eI f_181), u_other_174] _
      obtain ⟨m_182, h_m_182, h⟩ := bd h
      obtain ⟨peaksbylength_183, h_peaksbylength_183, h⟩ := bd h
      refine r_setd (e := eI) (f := eI) rfl (SV (q_divO (q_va rfl) (q_va rfl) h_m_182)) (q_va rfl) h_peaksbylength_183 ?_
      cases h
      exact run_nil ⟨_, _, _, rfl, rfl, rfl, rfl, nu_other_174, pu_other_174⟩
  · subst e_
    show Run _ _ _ _ [.va (eI n_), .va (eI k), .od (en2 eI eI f_184), u_size_169, u_number_167, u_other_168] _
    obtain ⟨rg_185, h_rg_185, h⟩ := bd h
    obtain ⟨l_188, h_l_188, h⟩ := bd h
    cases h
    exact r_retV (q_sum (DFt (q_lcF (f := eI) (i_rg2 q_cI (q_add (q_va rfl) q_cI) h_rg_185) (wipe_one rfl pu_size_169) h_l_188 (fun size_186 _ => ⟨_, (g_nm rfl rfl), fun b hb => by obtain ⟨m_189, h_m_189, hb⟩ := bd hb; cases hb; exact (q_cmp (DV (q_modO (q_va rfl) (q_va rfl) h_m_189)) (DV q_cI) (k_eq (e := eI))), fun b hb => by obtain ⟨d_187, h_d_187, hb⟩ := bd hb; cases hb; exact (SV (q_ixM (e := eI) (f := eI) (DBDt (q_od rfl)) (q_va rfl) h_d_187))⟩)))) rfl
/-- _law_mirrored -/
def F__law_mirrored (n_ : Int) (k : Int) : Option (Int) :=
if (decide ((n_ % (2 : Int)) = (1 : Int))) = true then
(F__law_power k (((n_ / (2 : Int)) + (1 : Int)))).bind fun r_190 =>
some ((2 : Int) * r_190)
else
(F__law_power k ((n_ / (2 : Int)))).bind fun r_191 =>
(F__law_power k (((n_ / (2 : Int)) + (1 : Int)))).bind fun r_192 =>
some (r_191 + r_192)
theorem w__law_mirrored (n : Nat) (hn : 2 ≤ n) (n_ : Int) (k : Int) (v : Int) (h : F__law_mirrored n_ k = some v) : call gG T wW n 22 [eI n_, eI k] = some (.d (eI v)) := by
  obtain ⟨m, rfl⟩ : ∃ m, n = m + 1 := ⟨n - 1, by omega⟩
  refine call_run (fn := f22) rfl rfl ?_
  show Run _ _ _ f22.body [.va (eI n_), .va (eI k)] _
  simp only [f22]
  unfold F__law_mirrored at h
  refine r_ite (q_cmp (DV (q_mod (q_va rfl) q_cI (by decide))) (DV q_cI) (k_eq (e := eI))) h (fun h => ?_) (fun h => ?_)
  · obtain ⟨r_190, h_r_190, h⟩ := bd h
    cases h
    exact r_retV (q_mulL q_cI (q_callV (Dc (DV (q_va rfl)) (Dc (DV (q_add (q_div (q_va rfl) q_cI (by decide)) q_cI)) Dn)) (w__law_power m (by omega) _ _ _ h_r_190)) (by decide)) rfl
  · refine run_nil ?_
    obtain ⟨r_191, h_r_191, h⟩ := bd h
    obtain ⟨r_192, h_r_192, h⟩ := bd h
    cases h
    exact r_retV (q_add (q_callV (Dc (DV (q_va rfl)) (Dc (DV (q_div (q_va rfl) q_cI (by decide))) Dn)) (w__law_power m (by omega) _ _ _ h_r_191)) (q_callV (Dc (DV (q_va rfl)) (Dc (DV (q_add (q_div (q_va rfl) q_cI (by decide)) q_cI)) Dn)) (w__law_power m (by omega) _ _ _ h_r_192))) rfl
/-- _law_numbers -/
def F__law_numbers (n_ : Int) (k : Int) : Option (Bool) :=
(F__law_wheels n_ k).bind fun r_193 =>
(F_number_of_wheels n_ k).bind fun r_194 =>
(isF eI r_194 r_193).bind fun is_195 =>
if (!is_195) = true then
some false
else
(F_number_of_faces n_ k).bind fun r_196 =>
(F__law_mirrored n_ k).bind fun r_197 =>
(isF eI r_196 ((((2 : Int) * r_193) + r_197) / (4 : Int))).bind fun is_198 =>
some is_198
theorem w__law_numbers (n : Nat) (hn : 10 ≤ n) (n_ : Int) (k : Int) (v : Bool) (h : F__law_numbers n_ k = some v) : call gG T wW n 23 [eI n_, eI k] = some (.d (eB v)) := by
  obtain ⟨m, rfl⟩ : ∃ m, n = m + 1 := ⟨n - 1, by omega⟩
  refine call_run (fn := f23) rfl rfl ?_
  show Run _ _ _ f23.body [.va (eI n_), .va (eI k), .no] _
  simp only [f23]
  unfold F__law_numbers at h
  obtain ⟨r_193, h_r_193, h⟩ := bd h
  refine r_va (q_callV (Dc (DV (q_va rfl)) (Dc (DV (q_va rfl)) Dn)) (w__law_wheels m (by omega) _ _ _ h_r_193)) rfl rfl ?_
  obtain ⟨r_194, h_r_194, h⟩ := bd h
  obtain ⟨is_195, h_is_195, h⟩ := bd h
  refine r_ite (q_inv (t_leaf rfl (DVb (q_callV (Dc (DV (q_callV (Dc (DV (q_va rfl)) (Dc (DV (q_va rfl)) Dn)) (w_number_of_wheels m (by omega) _ _ _ h_r_194))) (Dc (DV (q_va rfl)) Dn)) (w__law_is m (by omega) _ _ _ h_is_195))) tr_B)) h (fun h => ?_) (fun h => ?_)
  · cases h
    exact r_retV q_cB rfl
  · refine run_nil ?_
    obtain ⟨r_196, h_r_196, h⟩ := bd h
    obtain ⟨r_197, h_r_197, h⟩ := bd h
    obtain ⟨is_198, h_is_198, h⟩ := bd h
    cases h
    exact r_retV (q_callV (Dc (DV (q_callV (Dc (DV (q_va rfl)) (Dc (DV (q_va rfl)) Dn)) (w_number_of_faces m (by omega) _ _ _ h_r_196))) (Dc (DV (q_div (q_add (q_mulL q_cI (q_va rfl) (by decide)) (q_callV (Dc (DV (q_va rfl)) (Dc (DV (q_va rfl)) Dn)) (w__law_mirrored m (by omega) _ _ _ h_r_197))) q_cI (by decide))) Dn)) (w__law_is m (by omega) _ _ _ h_is_198)) rfl
/-- _law_counted -/
def F__law_counted (n_ : Int) (k : Int) : Option (Bool) :=
(F__law_strings ((cutL [97, 98, 99, 100, 101, 102, 103, 104, 105, 106] none (some k))) n_).bind fun r_199 =>
(lcO r_199 (fun text_200 => (F__law_turns text_200).bind fun r_202 => (mnO eS r_202).bind fun x_203 => some (decide (text_200 = x_203))) (fun text_200 => some text_200)).bind fun l_201 =>
(lcO l_201 (fun text_204 => (F__law_turns text_204.reverse).bind fun r_206 => (mnO eS r_206).bind fun x_207 => some (!ltE eS x_207 text_204)) (fun text_204 => some text_204)).bind fun l_205 =>
(F_number_of_wheels n_ k).bind fun r_208 =>
(isF eI r_208 (l_201.length : Int)).bind fun is_209 =>
(if is_209 = true then ((F_number_of_faces n_ k).bind fun r_210 => (isF eI r_210 (l_205.length : Int)).bind fun is_211 => some is_211) else some false).bind fun q_212 =>
some q_212
theorem w__law_counted (n : Nat) (hn : 10 ≤ n) (n_ : Int) (k : Int) (v : Bool) (h : F__law_counted n_ k = some v) : call gG T wW n 24 [eI n_, eI k] = some (.d (eB v)) := by
  obtain ⟨m, rfl⟩ : ∃ m, n = m + 1 := ⟨n - 1, by omega⟩
  refine call_run (fn := f24) rfl rfl ?_
  show Run _ _ _ f24.body [.va (eI n_), .va (eI k), .no, .no, .no, .no] _
  simp only [f24]
  unfold F__law_counted at h
  obtain ⟨r_199, h_r_199, h⟩ := bd h
  refine r_ow (q_callF (Dc (DV (q_slS (q_cS kS_3) o_no (o_so (q_va rfl)))) (Dc (DV (q_va rfl)) Dn)) (w__law_strings m (by omega) _ _ _ h_r_199)) rfl rfl ?_
  obtain ⟨l_201, h_l_201, h⟩ := bd h
  refine r_ow (q_lcF (f := eS) (i_B (q_ow rfl)) (wipe_one rfl rfl) h_l_201 (fun text_200 _ => ⟨_, (g_nm rfl rfl), fun b hb => by obtain ⟨r_202, h_r_202, hb⟩ := bd hb; obtain ⟨x_203, h_x_203, hb⟩ := bd hb; cases hb; exact (q_cmp (DV (q_va rfl)) (DV (q_minL (e := eS) (DFt (q_callF (Dc (DV (q_va rfl)) Dn) (w__law_turns m (by omega) _ _ h_r_202))) h_x_203)) (k_eq (e := eS))), fun b hb => by cases hb; exact (SV (q_va rfl))⟩)) rfl rfl ?_
  obtain ⟨l_205, h_l_205, h⟩ := bd h
  refine r_ow (q_lcF (f := eS) (i_B (q_ow rfl)) (wipe_one rfl rfl) h_l_205 (fun text_204 _ => ⟨_, (g_nm rfl rfl), fun b hb => by obtain ⟨r_206, h_r_206, hb⟩ := bd hb; obtain ⟨x_207, h_x_207, hb⟩ := bd hb; cases hb; exact (q_cmp (DV (q_va rfl)) (DV (q_minL (e := eS) (DFt (q_callF (Dc (DV (q_rvS (q_va rfl))) Dn) (w__law_turns m (by omega) _ _ h_r_206))) h_x_207)) (k_le (e := eS))), fun b hb => by cases hb; exact (SV (q_va rfl))⟩)) rfl rfl ?_
  obtain ⟨r_208, h_r_208, h⟩ := bd h
  obtain ⟨is_209, h_is_209, h⟩ := bd h
  obtain ⟨q_212, h_q_212, h⟩ := bd h
  cases h
  exact r_retV (q_and (a_consO (q_callV (Dc (DV (q_callV (Dc (DV (q_va rfl)) (Dc (DV (q_va rfl)) Dn)) (w_number_of_wheels m (by omega) _ _ _ h_r_208))) (Dc (DV (q_lnL (DBt (q_ow rfl)))) Dn)) (w__law_is m (by omega) _ _ _ h_is_209)) h_q_212 (fun v hv => by obtain ⟨r_210, h_r_210, hv⟩ := bd hv; obtain ⟨is_211, h_is_211, hv⟩ := bd hv; cases hv; exact (a_one (q_callV (Dc (DV (q_callV (Dc (DV (q_va rfl)) (Dc (DV (q_va rfl)) Dn)) (w_number_of_faces m (by omega) _ _ _ h_r_210))) (Dc (DV (q_lnL (DBt (q_ow rfl)))) Dn)) (w__law_is m (by omega) _ _ _ h_is_211)))))) rfl
/-- law -/
def F_law (script : List (Int)) : Option (Bool) :=
(rg1 (3 : Int)).bind fun rg_213 =>
(loopO (γ := Bool) rg_213 () (fun k_226 (s_225 : Unit) =>
(F__law_cell script (((2 : Int) * k_226))).bind fun r_227 =>
(F__law_draws r_227 (20 : Int)).bind fun r_228 =>
(F__law_cell script ((((2 : Int) * k_226) + (1 : Int)))).bind fun r_229 =>
(F__law_draws r_229 (22 : Int)).bind fun r_230 =>
(atI r_228 (0 : Int)).bind fun i_231 =>
(atI [[97, 98], [97, 98, 99], [97], [115, 116, 117, 118, 119, 120, 121, 122]] (i_231 % (4 : Int))).bind fun i_232 =>
(atI r_228 (1 : Int)).bind fun i_233 =>
(atI [(6 : Int), (9 : Int), (12 : Int), (4 : Int), (2 : Int), (1 : Int), (16 : Int)] (i_233 % (7 : Int))).bind fun i_234 =>
(F__law_text r_230 i_234 i_232).bind fun r_235 =>
(atI r_228 (2 : Int)).bind fun i_236 =>
(mdO i_236 (r_235.length : Int)).bind fun m_237 =>
(adO (cutL r_235 (some m_237) none) (cutL r_235 none (some m_237))).bind fun j_238 =>
(atI r_228 (3 : Int)).bind fun i_239 =>
(mdO i_239 (i_232.length : Int)).bind fun m_240 =>
(atI (chs i_232) m_240).bind fun i_241 =>
(adO (cutL r_235 none (some m_237)) i_241).bind fun j_242 =>
(adO j_242 (cutL r_235 (some (m_237 + (1 : Int))) none)).bind fun j_243 =>
(adO r_235 r_235).bind fun j_245 =>
(loopO (γ := Bool) [j_238, j_238.reverse, j_243, r_235, (cutL r_235 none (some (m_237 + (1 : Int)))), j_245] () (fun other_248 (s_247 : Unit) =>
(F__law_right r_235 other_248).bind fun r_249 =>
(if (!r_249) = true then some true else ((F__law_right other_248 r_235).bind fun r_250 => some (!r_250))).bind fun q_251 =>
if q_251 = true then
some (.rt false)
else
some (.nx ()))).bind fun c_252 => c_252.go (fun b_ => some (.rt b_)) (fun s_253 =>
(atI r_228 (4 : Int)).bind fun i_254 =>
(atI r_228 (5 : Int)).bind fun i_255 =>
(F__law_numbers (((1 : Int) + (i_254 % (30 : Int)))) (((1 : Int) + (i_255 % (26 : Int))))).bind fun r_256 =>
(if (!r_256) = true then some true else ((F__law_numbers (((30 : Int) - k_226)) (((2 : Int) + k_226))).bind fun r_257 => some (!r_257))).bind fun q_258 =>
if q_258 = true then
some (.rt false)
else
(atI r_228 (6 : Int)).bind fun i_259 =>
(atI [((6 : Int), (2 : Int)), ((4 : Int), (3 : Int)), ((5 : Int), (2 : Int)), ((3 : Int), (4 : Int)), ((7 : Int), (1 : Int)), ((2 : Int), (9 : Int)), ((1 : Int), (10 : Int))] (i_259 % (7 : Int))).bind fun i_260 =>
(F__law_counted i_260.1 i_260.2).bind fun r_261 =>
if (!r_261) = true then
some (.rt false)
else
some (.nx ())))).bind fun c_262 => c_262.go (fun b_ => some b_) (fun s_263 =>
(F__law_counted (6 : Int) (2 : Int)).bind fun r_264 =>
(if r_264 = true then ((F__law_counted (4 : Int) (2 : Int)).bind fun r_265 => some r_265) else some false).bind fun q_266 =>
some q_266)
theorem w_law (n : Nat) (hn : 11 ≤ n) (script : List (Int)) (v : Bool) (h : F_law script = some v) : call gG T wW n 25 [(eL eI) script] = some (.d (eB v)) := by
  obtain ⟨m, rfl⟩ : ∃ m, n = m + 1 := ⟨n - 1, by omega⟩
  refine call_run (fn := f25) rfl rfl ?_
  show Run _ _ _ f25.body [.rd (List.map eI script), .no, .no, .no, .no, .no, .no, .no, .no, .no, .no, .no] _
  simp only [f25]
  unfold F_law at h
  obtain ⟨rg_213, h_rg_213, h⟩ := bd h
  obtain ⟨c_262, h_c_262, h⟩ := bd h
  refine r_loop (e := eI) (fun (s_225 : Unit) ρ => ∃ u_k_224 : Sl, ∃ u_draws_214 : Sl, ∃ u_part_215 : Sl, ∃ u_letters_216 : Sl, ∃ u_one_217 : Sl, ∃ u_at_218 : Sl, ∃ u_turned_219 : Sl, ∃ u_bent_220 : Sl, ∃ u_other_221 : Sl, ∃ u_n_222 : Sl, ∃ u_most_223 : Sl, ρ = [.rd (List.map eI script), u_k_224, u_draws_214, u_part_215, u_letters_216, u_one_217, u_at_218, u_turned_219, u_bent_220, u_other_221, u_n_222, u_most_223] ∧ nlk u_k_224 = true ∧ plainSl (some u_k_224) = true ∧ nlk u_draws_214 = true ∧ nlk u_part_215 = true ∧ nlk u_letters_216 = true ∧ nlk u_one_217 = true ∧ plainSl (some u_one_217) = true ∧ nlk u_at_218 = true ∧ nlk u_turned_219 = true ∧ nlk u_bent_220 = true ∧ nlk u_other_221 = true ∧ plainSl (some u_other_221) = true ∧ nlk u_n_222 = true ∧ plainSl (some u_n_222) = true ∧ nlk u_most_223 = true ∧ plainSl (some u_most_223) = true) (fun (b_ : Bool) r_ => r_ = R.d (eB b_)) (i_rg1 q_cI h_rg_213) h_c_262 h ⟨_, _, _, _, _, _, _, _, _, _, _, rfl, rfl, rfl, rfl, rfl, rfl, rfl, rfl, rfl, rfl, rfl, rfl, rfl, rfl, rfl, rfl, rfl⟩ (fun k_226 _ s_225 c_ ρ ⟨u_k_224, u_draws_214, u_part_215, u_letters_216, u_one_217, u_at_218, u_turned_219, u_bent_220, u_other_221, u_n_222, u_most_223, e_, nu_k_224, pu_k_224, nu_draws_214, nu_part_215, nu_letters_216, nu_one_217, pu_one_217, nu_at_218, nu_turned_219, nu_bent_220, nu_other_221, pu_other_221, nu_n_222, pu_n_222, nu_most_223, pu_most_223⟩ h => ?_) (fun b_ r_ h hq => by cases h; first | exact hq | (subst hq; rfl)) (fun s_263 ρ h ⟨u_k_224, u_draws_214, u_part_215, u_letters_216, u_one_217, u_at_218, u_turned_219, u_bent_220, u_other_221, u_n_222, u_most_223, e_, nu_k_224, pu_k_224, nu_draws_214, nu_part_215, nu_letters_216, nu_one_217, pu_one_217, nu_at_218, nu_turned_219, nu_bent_220, nu_other_221, pu_other_221, nu_n_222, pu_n_222, nu_most_223, pu_most_223⟩ => ?_)
  · subst e_
    refine ⟨_, (g_nm rfl nu_k_224), ?_⟩
    obtain ⟨r_227, h_r_227, h⟩ := bd h
    obtain ⟨r_228, h_r_228, h⟩ := bd h
    refine r_ow (q_callF (Dc (DV (q_callV (Dc (DBt (q_rd rfl)) (Dc (DV (q_mulL q_cI (q_va rfl) (by decide))) Dn)) (w__law_cell m (by omega) _ _ _ h_r_227))) (Dc (DV q_cI) Dn)) (w__law_draws m (by omega) _ _ _ h_r_228)) rfl nu_draws_214 ?_
    obtain ⟨r_229, h_r_229, h⟩ := bd h
    obtain ⟨r_230, h_r_230, h⟩ := bd h
    refine r_ow (q_callF (Dc (DV (q_callV (Dc (DBt (q_rd rfl)) (Dc (DV (q_add (q_mulL q_cI (q_va rfl) (by decide)) q_cI)) Dn)) (w__law_cell m (by omega) _ _ _ h_r_229))) (Dc (DV q_cI) Dn)) (w__law_draws m (by omega) _ _ _ h_r_230)) rfl nu_part_215 ?_
    obtain ⟨i_231, h_i_231, h⟩ := bd h
    obtain ⟨i_232, h_i_232, h⟩ := bd h
    refine r_va (q_ixT (mkT (e := eS) (s := [[97, 98], [97, 98, 99], [97], [115, 116, 117, 118, 119, 120, 121, 122]]) (q_tup (Sc (SV (q_cS kS_4)) (Sc (SV (q_cS kS_5)) (Sc (SV (q_cS kS_1)) (Sc (SV (q_cS kS_6)) Sn))))) rfl) (q_mod (q_int (q_ixL (DBt (q_ow rfl)) q_cI h_i_231)) q_cI (by decide)) h_i_232) rfl nu_letters_216 ?_
    obtain ⟨i_233, h_i_233, h⟩ := bd h
    obtain ⟨i_234, h_i_234, h⟩ := bd h
    obtain ⟨r_235, h_r_235, h⟩ := bd h
    refine r_va (q_callV (Dc (DBt (q_ow rfl)) (Dc (DV (q_ixT (mkT (e := eI) (s := [(6 : Int), (9 : Int), (12 : Int), (4 : Int), (2 : Int), (1 : Int), (16 : Int)]) (q_tup (Sc (SV q_cI) (Sc (SV q_cI) (Sc (SV q_cI) (Sc (SV q_cI) (Sc (SV q_cI) (Sc (SV q_cI) (Sc (SV q_cI) Sn)))))))) rfl) (q_mod (q_int (q_ixL (DBt (q_ow rfl)) q_cI h_i_233)) q_cI (by decide)) h_i_234)) (Dc (DV (q_va rfl)) Dn))) (w__law_text m (by omega) _ _ _ _ h_r_235)) rfl nu_one_217 ?_
    obtain ⟨i_236, h_i_236, h⟩ := bd h
    obtain ⟨m_237, h_m_237, h⟩ := bd h
    refine r_va (q_modO (q_int (q_ixL (DBt (q_ow rfl)) q_cI h_i_236)) (q_lnS (q_va rfl)) h_m_237) rfl nu_at_218 ?_
    obtain ⟨j_238, h_j_238, h⟩ := bd h
    refine r_va (q_addS (q_slS (q_va rfl) (o_so (q_va rfl)) o_no) (q_slS (q_va rfl) o_no (o_so (q_va rfl))) h_j_238) rfl nu_turned_219 ?_
    obtain ⟨i_239, h_i_239, h⟩ := bd h
    obtain ⟨m_240, h_m_240, h⟩ := bd h
    obtain ⟨i_241, h_i_241, h⟩ := bd h
    obtain ⟨j_242, h_j_242, h⟩ := bd h
    obtain ⟨j_243, h_j_243, h⟩ := bd h
    refine r_va (q_addS (q_addS (q_slS (q_va rfl) o_no (o_so (q_va rfl))) (q_ixS (q_va rfl) (q_modO (q_int (q_ixL (DBt (q_ow rfl)) q_cI h_i_239)) (q_lnS (q_va rfl)) h_m_240) h_i_241) h_j_242) (q_slS (q_va rfl) (o_so (q_add (q_va rfl) q_cI)) o_no) h_j_243) rfl nu_bent_220 ?_
    obtain ⟨j_245, h_j_245, h⟩ := bd h
    obtain ⟨c_252, h_c_252, h⟩ := bd h
    refine r_loop (e := eS) (fun (s_247 : Unit) ρ => ∃ u_other_246 : Sl, ∃ u_n_222 : Sl, ∃ u_most_223 : Sl, ρ = [.rd (List.map eI script), .va (eI k_226), .ow (List.map eI r_228), .ow (List.map eI r_230), .va (eS i_232), .va (eS r_235), .va (eI m_237), .va (eS j_238), .va (eS j_243), u_other_246, u_n_222, u_most_223] ∧ nlk u_other_246 = true ∧ plainSl (some u_other_246) = true ∧ nlk u_n_222 = true ∧ plainSl (some u_n_222) = true ∧ nlk u_most_223 = true ∧ plainSl (some u_most_223) = true) (fun (b_ : Bool) r_ => r_ = R.d (eB b_)) (i_T (e := eS) (mkT (e := eS) (s := [j_238, j_238.reverse, j_243, r_235, (cutL r_235 none (some (m_237 + (1 : Int)))), j_245]) (q_tup (Sc (SV (q_va rfl)) (Sc (SV (q_rvS (q_va rfl))) (Sc (SV (q_va rfl)) (Sc (SV (q_va rfl)) (Sc (SV (q_slS (q_va rfl) o_no (o_so (q_add (q_va rfl) q_cI)))) (Sc (SV (q_addS (q_va rfl) (q_va rfl) h_j_245)) Sn))))))) rfl)) h_c_252 h ⟨_, _, _, rfl, nu_other_221, pu_other_221, nu_n_222, pu_n_222, nu_most_223, pu_most_223⟩ (fun other_248 _ s_247 c_ ρ ⟨u_other_246, u_n_222, u_most_223, e_, nu_other_246, pu_other_246, nu_n_222, pu_n_222, nu_most_223, pu_most_223⟩ h => ?_) (fun b_ r_ h hq => by cases h; first | exact hq | (subst hq; rfl)) (fun s_253 ρ h ⟨u_other_246, u_n_222, u_most_223, e_, nu_other_246, pu_other_246, nu_n_222, pu_n_222, nu_most_223, pu_most_223⟩ => ?_)
    · subst e_
      refine ⟨_, (g_nm rfl nu_other_246), ?_⟩
      obtain ⟨r_249, h_r_249, h⟩ := bd h
      obtain ⟨q_251, h_q_251, h⟩ := bd h
      refine r_ite (q_or (r_consO (q_inv (t_leaf rfl (DVb (q_callV (Dc (DV (q_va rfl)) (Dc (DV (q_va rfl)) Dn)) (w__law_right m (by omega) _ _ _ h_r_249))) tr_B)) h_q_251 (fun v hv => by obtain ⟨r_250, h_r_250, hv⟩ := bd hv; cases hv; exact (r_one (q_inv (t_leaf rfl (DVb (q_callV (Dc (DV (q_va rfl)) (Dc (DV (q_va rfl)) Dn)) (w__law_right m (by omega) _ _ _ h_r_250))) tr_B)))))) h (fun h => ?_) (fun h => ?_)
      · cases h
        exact r_retV q_cB rfl
      · refine run_nil ?_
        cases h
        exact run_nil ⟨_, _, _, rfl, rfl, rfl, nu_n_222, pu_n_222, nu_most_223, pu_most_223⟩
    · subst e_
      show Run _ _ _ _ [.rd (List.map eI script), .va (eI k_226), .ow (List.map eI r_228), .ow (List.map eI r_230), .va (eS i_232), .va (eS r_235), .va (eI m_237), .va (eS j_238), .va (eS j_243), u_other_246, u_n_222, u_most_223] _
      obtain ⟨i_254, h_i_254, h⟩ := bd h
      obtain ⟨i_255, h_i_255, h⟩ := bd h
      obtain ⟨r_256, h_r_256, h⟩ := bd h
      obtain ⟨q_258, h_q_258, h⟩ := bd h
      refine r_ite (q_or (r_consO (q_inv (t_leaf rfl (DVb (q_callV (Dc (DV (q_add q_cI (q_mod (q_int (q_ixL (DBt (q_ow rfl)) q_cI h_i_254)) q_cI (by decide)))) (Dc (DV (q_add q_cI (q_mod (q_int (q_ixL (DBt (q_ow rfl)) q_cI h_i_255)) q_cI (by decide)))) Dn)) (w__law_numbers m (by omega) _ _ _ h_r_256))) tr_B)) h_q_258 (fun v hv => by obtain ⟨r_257, h_r_257, hv⟩ := bd hv; cases hv; exact (r_one (q_inv (t_leaf rfl (DVb (q_callV (Dc (DV (q_sub q_cI (q_va rfl))) (Dc (DV (q_add q_cI (q_va rfl))) Dn)) (w__law_numbers m (by omega) _ _ _ h_r_257))) tr_B)))))) h (fun h => ?_) (fun h => ?_)
      · cases h
        exact r_retV q_cB rfl
      · refine run_nil ?_
        obtain ⟨i_259, h_i_259, h⟩ := bd h
        obtain ⟨i_260, h_i_260, h⟩ := bd h
        refine r_tp (show jV _ _ _ _ ((eP eI eI) i_260) from (q_ixT (mkT (e := (eP eI eI)) (s := [((6 : Int), (2 : Int)), ((4 : Int), (3 : Int)), ((5 : Int), (2 : Int)), ((3 : Int), (4 : Int)), ((7 : Int), (1 : Int)), ((2 : Int), (9 : Int)), ((1 : Int), (10 : Int))]) (q_tup (Sc (SV (mkP2 (q_tup (Sc (SV q_cI) (Sc (SV q_cI) Sn))))) (Sc (SV (mkP2 (q_tup (Sc (SV q_cI) (Sc (SV q_cI) Sn))))) (Sc (SV (mkP2 (q_tup (Sc (SV q_cI) (Sc (SV q_cI) Sn))))) (Sc (SV (mkP2 (q_tup (Sc (SV q_cI) (Sc (SV q_cI) Sn))))) (Sc (SV (mkP2 (q_tup (Sc (SV q_cI) (Sc (SV q_cI) Sn))))) (Sc (SV (mkP2 (q_tup (Sc (SV q_cI) (Sc (SV q_cI) Sn))))) (Sc (SV (mkP2 (q_tup (Sc (SV q_cI) (Sc (SV q_cI) Sn))))) Sn)))))))) rfl) (q_mod (q_int (q_ixL (DBt (q_ow rfl)) q_cI h_i_259)) q_cI (by decide)) h_i_260)) (g_tp2 (pr := i_260) rfl nu_n_222 rfl nu_most_223) ?_
        obtain ⟨r_261, h_r_261, h⟩ := bd h
        refine r_ite (q_inv (t_leaf rfl (DVb (q_callV (Dc (DV (q_va rfl)) (Dc (DV (q_va rfl)) Dn)) (w__law_counted m (by omega) _ _ _ h_r_261))) tr_B)) h (fun h => ?_) (fun h => ?_)
        · cases h
          exact r_retV q_cB rfl
        · refine run_nil ?_
          cases h
          exact run_nil ⟨_, _, _, _, _, _, _, _, _, _, _, rfl, rfl, rfl, rfl, rfl, rfl, rfl, rfl, rfl, rfl, rfl, nu_other_246, pu_other_246, rfl, rfl, rfl, rfl⟩
  · subst e_
    show Run _ _ _ _ [.rd (List.map eI script), u_k_224, u_draws_214, u_part_215, u_letters_216, u_one_217, u_at_218, u_turned_219, u_bent_220, u_other_221, u_n_222, u_most_223] _
    obtain ⟨r_264, h_r_264, h⟩ := bd h
    obtain ⟨q_266, h_q_266, h⟩ := bd h
    cases h
    exact r_retV (q_and (a_consO (q_callV (Dc (DV q_cI) (Dc (DV q_cI) Dn)) (w__law_counted m (by omega) _ _ _ h_r_264)) h_q_266 (fun v hv => by obtain ⟨r_265, h_r_265, hv⟩ := bd hv; cases hv; exact (a_one (q_callV (Dc (DV q_cI) (Dc (DV q_cI) Dn)) (w__law_counted m (by omega) _ _ _ h_r_265)))))) rfl
end K84

namespace K84
open PySem PySem.Spec PyProof.Rows L2 WM
/-! ### what all laws share: cells and draws -/
theorem s_cell (ns : List Int) (k : Int) (h0 : 0 ≤ k) : ∃ c, F__law_cell ns k = some c := by
  unfold F__law_cell
  by_cases h : k < ns.length
  · rw [if_pos (decide_eq_true h), atI_some h0 h]
    exact ⟨_, rfl⟩
  · rw [if_neg (by rw [decide_eq_false h]; exact Bool.false_ne_true)]
    exact ⟨_, rfl⟩
theorem s_1018 : pwO (10 : Int) (18 : Int) = some 1000000000000000000 := by decide +kernel
theorem s_draws (c : Int) (n : Nat) (hn : n ≤ 1000) : Ok (F__law_draws c n) fun ds => ds.length = n ∧ ∀ d ∈ ds, 0 ≤ d ∧ d < 5040 := by
  unfold F__law_draws
  refine ok_let fun r0 _ => ok_eq s_1018 (ok_let fun dg _ => ok_let fun ds0 e0 => ok_eq (rg1_nat (by omega)) ?_)
  have md : ∀ x : Int, 0 ≤ x % 5040 ∧ x % 5040 < 5040 := fun x => ⟨Int.emod_nonneg _ (by decide), Int.emod_lt_of_pos _ (by decide)⟩
  refine ok_bind (foldO_rg (fun j (s : List Int × Int) => s.1.length = j ∧ ∀ d ∈ s.1, 0 ≤ d ∧ d < 5040) ⟨by rw [e0]; rfl, fun d hd => by rw [e0] at hd; cases hd⟩ (fun j x hj ⟨h1, h2⟩ => ?_)) fun y hy => ok_some hy
  have st : ∀ z : Int, 0 ≤ z ∧ z < 5040 → (x.1 ++ [z]).length = j + 1 ∧ ∀ d ∈ x.1 ++ [z], 0 ≤ d ∧ d < 5040 := fun z hz => by
    refine ⟨by rw [List.length_append, h1]; rfl, fun d hd => ?_⟩
    rcases List.mem_append.mp hd with w | w
    · exact h2 d w
    · rw [List.mem_singleton.mp w]; exact hz
  refine ok_ite (fun _ => ok_eq (apO_ok (by omega)) (ok_let fun r _ => ok_some (st _ (md _)))) fun _ => ok_let fun m hm => ?_
  have m0 := Int.emod_nonneg (r0 * 48271 + ((j : Int) + 1) * 69621 + 11) (show (2147483647 : Int) ≠ 0 by decide)
  have m1 := Int.emod_lt_of_pos (r0 * 48271 + ((j : Int) + 1) * 69621 + 11) (show (0 : Int) < 2147483647 by decide)
  rw [← hm] at m0 m1
  exact ok_eq (mulO_okL ⟨by omega, by omega⟩) (ok_let fun m2 _ => ok_eq (apO_ok (by omega)) (ok_some (st _ (md _))))

/-- the test in both root functions -/
def rootAt (l : List Nat) (d : Nat) : Bool := decide (l.length % d = 0) && decide ((List.replicate (l.length / d) (l.take d)).flatten = l)
/-- the shortest string repeated -/
def root (l : List Nat) : List Nat := match (List.range' 1 (l.length - 1)).find? (rootAt l) with
  | some d => l.take d
  | none => l
/-! ### words and their periods -/
theorem ga_l {a b : List Nat} {i : Nat} (h : i < a.length) : (a ++ b).getD i 0 = a.getD i 0 := by
  rw [List.getD_eq_getElem?_getD, List.getD_eq_getElem?_getD, List.getElem?_append_left h]
theorem ga_r {a b : List Nat} {i : Nat} (h : a.length ≤ i) : (a ++ b).getD i 0 = b.getD (i - a.length) 0 := by
  rw [List.getD_eq_getElem?_getD, List.getD_eq_getElem?_getD, List.getElem?_append_right h]
theorem g_ext {a b : List Nat} (h : a.length = b.length) (h2 : ∀ i, i < a.length → a.getD i 0 = b.getD i 0) : a = b := by
  refine List.ext_getElem h fun i h1 h3 => ?_
  have := h2 i h1
  rw [List.getD_eq_getElem?_getD, List.getD_eq_getElem?_getD, List.getElem?_eq_getElem h1, List.getElem?_eq_getElem h3] at this
  simpa using this
theorem g_take {a : List Nat} {d i : Nat} (h : i < d) : (a.take d).getD i 0 = a.getD i 0 := by
  rw [List.getD_eq_getElem?_getD, List.getD_eq_getElem?_getD, List.getElem?_take_of_lt h]
/-- a prefix taken off -/
theorem pre_off {u v : List Nat} (hl : u.length ≤ v.length) (h : ∀ p, p < u.length → u.getD p 0 = v.getD p 0) : v = u ++ v.drop u.length := by
  have : v.take u.length = u := by
    refine (g_ext (by rw [List.length_take]; omega) fun i hi => ?_).symm
    rw [g_take hi]; exact h i hi
  conv => lhs; rw [← List.take_append_drop u.length v, this]
theorem fine_wilf0 : ∀ (n : Nat) (u v : List Nat), u.length + v.length ≤ n → u ≠ [] → v ≠ [] → (∀ p, p < u.length + v.length - Nat.gcd u.length v.length → (u ++ v).getD p 0 = (v ++ u).getD p 0) → u ++ v = v ++ u
  | 0, u, v, hn, hu, hv, h => by
    have := List.length_pos_iff.mpr hu
    omega
  | n + 1, u, v, hn, hu, hv, h => by
    have u0 := List.length_pos_iff.mpr hu
    have v0 := List.length_pos_iff.mpr hv
    have key : ∀ u v : List Nat, u.length + v.length ≤ n + 1 → u ≠ [] → v ≠ [] → u.length ≤ v.length → (∀ p, p < u.length + v.length - Nat.gcd u.length v.length → (u ++ v).getD p 0 = (v ++ u).getD p 0) → u ++ v = v ++ u := by
      intro u v hn hu hv hl h
      have u0 := List.length_pos_iff.mpr hu
      have v0 := List.length_pos_iff.mpr hv
      have hg : Nat.gcd u.length v.length ≤ v.length := Nat.gcd_le_right _ v0
      have hp : ∀ p, p < u.length → u.getD p 0 = v.getD p 0 := fun p hp => by
        have := h p (by omega)
        rwa [ga_l hp, ga_l (by omega)] at this
      have hv2 := pre_off hl hp
      generalize hw : v.drop u.length = w at hv2
      by_cases hw0 : w = []
      · rw [hw0, List.append_nil] at hv2
        rw [hv2]
      · have w0 := List.length_pos_iff.mpr hw0
        have lv : v.length = u.length + w.length := by rw [hv2, List.length_append]
        have gg : Nat.gcd u.length w.length = Nat.gcd u.length v.length := by rw [lv, Nat.gcd_self_add_right]
        have ih := fine_wilf0 n u w (by omega) hu hw0 fun q hq => by
          have h1 : (u ++ v).getD (q + u.length) 0 = (u ++ w).getD q 0 := by rw [ga_r (by omega), Nat.add_sub_cancel, hv2]
          have h2 : (v ++ u).getD (q + u.length) 0 = (w ++ u).getD q 0 := by rw [hv2, List.append_assoc, ga_r (by omega), Nat.add_sub_cancel]
          rw [← h1, ← h2]
          exact h _ (by omega)
        rw [hv2, List.append_assoc, ← ih]
    rcases Nat.le_total u.length v.length with hl | hl
    · exact key u v hn hu hv hl h
    · exact (key v u (by omega) hv hu hl fun p hp => (h p (by rw [Nat.gcd_comm, Nat.add_comm]; exact hp)).symm).symm
theorem fine_wilf (u v : List Nat) (hu : u ≠ []) (hv : v ≠ []) (h : ∀ p, p < u.length + v.length - Nat.gcd u.length v.length → (u ++ v).getD p 0 = (v ++ u).getD p 0) : u ++ v = v ++ u := fine_wilf0 _ u v (Nat.le_refl _) hu hv h
/-- without end -/
def inf (u : List Nat) (i : Nat) : Nat := u.getD (i % u.length) 0
def Per (f : Nat → Nat) (d : Nat) : Prop := ∀ i, f (i + d) = f i
theorem per_mul {f : Nat → Nat} {d : Nat} (h : Per f d) : ∀ k, Per f (d * k)
  | 0 => fun i => rfl
  | k + 1 => fun i => by rw [Nat.mul_succ, ← Nat.add_assoc, h]; exact per_mul h k i
theorem per_mod {f : Nat → Nat} {d : Nat} (h : Per f d) (i : Nat) : f (i % d) = f i := by
  have := per_mul h (i / d) (i % d)
  rw [Nat.mod_add_div] at this
  exact this.symm
theorem per_gcd {f : Nat → Nat} (a b : Nat) : Per f a → Per f b → Per f (Nat.gcd a b) := by
  induction a, b using Nat.gcd.induction with
  | H0 n => intro _ h; rw [Nat.gcd_zero_left]; exact h
  | H1 m n hm ih =>
    intro h1 h2
    rw [Nat.gcd_rec]
    refine ih (fun i => ?_) h1
    have := per_mul h1 (n / m) (i + n % m)
    rw [Nat.add_assoc, Nat.mod_add_div] at this
    rw [← this]; exact h2 i
theorem inf_self (u : List Nat) : Per (inf u) u.length := fun i => by unfold inf; rw [Nat.add_mod_right]
theorem inf_lt {u : List Nat} {i : Nat} (h : i < u.length) : inf u i = u.getD i 0 := by unfold inf; rw [Nat.mod_eq_of_lt h]
theorem flat_get (x : List Nat) : ∀ k i, i < k * x.length → (List.replicate k x).flatten.getD i 0 = inf x i
  | 0, i, h => by omega
  | k + 1, i, h => by
    rw [List.replicate_succ, List.flatten_cons]
    by_cases hi : i < x.length
    · rw [ga_l hi, inf_lt hi]
    · have hi := Nat.le_of_not_lt hi
      rw [Nat.succ_mul] at h
      rw [ga_r hi, flat_get x k _ (by omega)]
      have := inf_self x (i - x.length)
      rw [Nat.sub_add_cancel hi] at this
      exact this.symm
theorem rootAt_iff (u : List Nat) (d : Nat) (hd : 0 < d) (hu : u ≠ []) : rootAt u d = true ↔ d ∣ u.length ∧ Per (inf u) d := by
  have u0 := List.length_pos_iff.mpr hu
  unfold rootAt
  simp only [Bool.and_eq_true, decide_eq_true_eq]
  rw [← Nat.dvd_iff_mod_eq_zero]
  refine and_congr_right fun hdv => ?_
  have hdl : d ≤ u.length := Nat.le_of_dvd u0 hdv
  have tl : (u.take d).length = d := by rw [List.length_take]; omega
  have fl : (List.replicate (u.length / d) (u.take d)).flatten.length = u.length := by
    rw [WM.len_rep, tl]
    exact Nat.div_mul_cancel hdv
  have fg : ∀ i, i < u.length → (List.replicate (u.length / d) (u.take d)).flatten.getD i 0 = u.getD (i % d) 0 := fun i hi => by
    rw [flat_get _ _ _ (by rw [tl, Nat.div_mul_cancel hdv]; exact hi)]
    unfold inf
    rw [tl, g_take (Nat.mod_lt _ hd)]
  constructor
  · intro e
    have h : ∀ i, i < u.length → u.getD (i % d) 0 = u.getD i 0 := fun i hi => by rw [← fg i hi, e]
    intro i
    have h2 : ∀ i, inf u i = u.getD (i % d) 0 := fun i => by
      unfold inf
      rw [← h _ (Nat.mod_lt _ u0), Nat.mod_mod_of_dvd _ hdv]
    rw [h2, h2, Nat.add_mod_right]
  · intro p
    refine g_ext fl fun i hi => ?_
    rw [fl] at hi
    rw [fg i hi, ← inf_lt hi, ← per_mod p i, inf_lt (Nat.lt_of_lt_of_le (Nat.mod_lt _ hd) hdl)]
theorem root_spec (u : List Nat) (hu : u ≠ []) : ∃ d, 0 < d ∧ d ∣ u.length ∧ Per (inf u) d ∧ root u = u.take d ∧ ∀ e, 0 < e → Per (inf u) e → d ≤ e := by
  have u0 := List.length_pos_iff.mpr hu
  have mn : ∀ d, (∀ e, 0 < e → e < d → rootAt u e = false) → ∀ e, 0 < e → Per (inf u) e → d ≤ e := by
    intro d hd e e0 he
    have g0 : 0 < Nat.gcd e u.length := Nat.gcd_pos_of_pos_left _ e0
    have ge : Nat.gcd e u.length ≤ e := Nat.gcd_le_left _ e0
    have hr := (rootAt_iff u _ g0 hu).mpr ⟨Nat.gcd_dvd_right _ _, per_gcd _ _ he (inf_self u)⟩
    rcases Nat.lt_or_ge (Nat.gcd e u.length) d with h | h
    · rw [hd _ g0 h] at hr; cases hr
    · omega
  unfold root
  cases hf : (List.range' 1 (u.length - 1)).find? (rootAt u) with
  | some d =>
    obtain ⟨h1, as, bs, h2, h3⟩ := List.find?_eq_some_iff_append.mp hf
    have hm := List.mem_range'_1.mp (List.mem_of_find?_eq_some hf)
    obtain ⟨k1, k2⟩ := (rootAt_iff u d (by omega) hu).mp h1
    refine ⟨d, by omega, k1, k2, rfl, mn d fun e e0 hed => ?_⟩
    have : e ∈ as := by
      have he : e ∈ List.range' 1 (u.length - 1) := List.mem_range'_1.mpr ⟨by omega, by omega⟩
      rw [h2] at he
      rcases List.mem_append.mp he with h | h
      · exact h
      · exfalso
        have hs : List.Pairwise (· < ·) (as ++ d :: bs) := by rw [← h2]; exact List.pairwise_lt_range'
        have hs2 := (List.pairwise_append.mp hs).2.1
        rcases List.mem_cons.mp h with h | h
        · omega
        · have := (List.pairwise_cons.mp hs2).1 e h
          omega
    have := h3 e this
    simpa using this
  | none =>
    refine ⟨u.length, u0, Nat.dvd_refl _, inf_self u, (List.take_length).symm, mn _ fun e e0 hed => ?_⟩
    have := List.find?_eq_none.mp hf e (List.mem_range'_1.mpr ⟨by omega, by omega⟩)
    simpa using this

theorem root_self (l : List Nat) (h : l ≠ []) : rootAt l l.length = true := by
  have h0 : 0 < l.length := List.length_pos_iff.mpr h
  unfold rootAt
  rw [Nat.mod_self, Nat.div_self h0, List.take_length]
  simp
/-! ### turns -/
def rot (u : List Nat) (k : Nat) : List Nat := u.drop k ++ u.take k
theorem rot_len (u : List Nat) {k : Nat} (hk : k ≤ u.length) : (rot u k).length = u.length := by
  unfold rot
  rw [List.length_append, List.length_drop, List.length_take]; omega
theorem inf_mod (u : List Nat) (x : Nat) : inf u (x % u.length) = inf u x := by unfold inf; rw [Nat.mod_mod]
theorem g_drop {a : List Nat} {d i : Nat} : (a.drop d).getD i 0 = a.getD (d + i) 0 := by
  rw [List.getD_eq_getElem?_getD, List.getD_eq_getElem?_getD, List.getElem?_drop]
theorem rot_get (u : List Nat) {k i : Nat} (hk : k ≤ u.length) (hi : i < u.length) : (rot u k).getD i 0 = inf u (i + k) := by
  unfold rot
  by_cases h : i < u.length - k
  · rw [ga_l (by rw [List.length_drop]; exact h), g_drop, Nat.add_comm, inf_lt (by omega)]
  · rw [ga_r (by rw [List.length_drop]; omega), List.length_drop, g_take (by omega)]
    have : inf u (i - (u.length - k)) = inf u (i + k) := by
      have := inf_self u (i - (u.length - k))
      rw [← this]; congr 1; omega
    rw [← this, inf_lt (by omega)]
theorem w_ext {u v : List Nat} (hl : u.length = v.length) (h : ∀ i, inf u i = inf v i) : u = v := g_ext hl fun i hi => by
  rw [← inf_lt hi, h, inf_lt (by omega)]
theorem inf_rot (u : List Nat) {k : Nat} (hk : k ≤ u.length) (hu : u ≠ []) (i : Nat) : inf (rot u k) i = inf u (i + k) := by
  have u0 := List.length_pos_iff.mpr hu
  show (rot u k).getD (i % (rot u k).length) 0 = _
  rw [rot_len u hk, rot_get u hk (Nat.mod_lt _ u0), ← inf_mod u (i % u.length + k), Nat.mod_add_mod, inf_mod]
theorem rot_rot (u : List Nat) {j k : Nat} (hj : j < u.length) (hk : k < u.length) : rot (rot u j) k = rot u ((j + k) % u.length) := by
  have hu : u ≠ [] := fun e => by rw [e] at hj; cases hj
  have u0 := List.length_pos_iff.mpr hu
  have hm := Nat.mod_lt (j + k) u0
  have l1 := rot_len u (Nat.le_of_lt hj)
  have hr : rot u j ≠ [] := fun e => by rw [e] at l1; simp at l1; omega
  refine w_ext (by rw [rot_len _ (by rw [l1]; omega), l1, rot_len u (Nat.le_of_lt hm)]) fun i => ?_
  rw [inf_rot _ (by rw [l1]; omega) hr, inf_rot u (by omega) hu, inf_rot u (by omega) hu, ← inf_mod u (i + (j + k) % u.length), Nat.add_mod_mod, inf_mod]
  congr 1; omega
def turns (u : List Nat) : List (List Nat) := (List.range u.length).map (rot u)
theorem mem_turns {u v : List Nat} : v ∈ turns u ↔ ∃ k, k < u.length ∧ rot u k = v := by
  unfold turns
  rw [List.mem_map]
  exact ⟨fun ⟨k, h, e⟩ => ⟨k, List.mem_range.mp h, e⟩, fun ⟨k, h, e⟩ => ⟨k, List.mem_range.mpr h, e⟩⟩
theorem turns_len {u v : List Nat} (h : v ∈ turns u) : v.length = u.length := by
  obtain ⟨k, hk, rfl⟩ := mem_turns.mp h
  exact rot_len u (Nat.le_of_lt hk)
theorem rot0 (u : List Nat) : rot u 0 = u := by unfold rot; simp
theorem turns_sym {u v : List Nat} (h : v ∈ turns u) : u ∈ turns v := by
  obtain ⟨k, hk, e⟩ := mem_turns.mp h
  have l1 := turns_len h
  refine mem_turns.mpr ⟨(u.length - k) % u.length, by rw [l1]; exact Nat.mod_lt _ (by omega), ?_⟩
  rw [← e, rot_rot u hk (Nat.mod_lt _ (by omega)), Nat.add_mod_mod, show k + (u.length - k) = u.length by omega, Nat.mod_self, rot0]
theorem turns_tr {u v w : List Nat} (h : v ∈ turns u) (h2 : w ∈ turns v) : w ∈ turns u := by
  obtain ⟨k, hk, rfl⟩ := mem_turns.mp h
  have l1 := turns_len h
  obtain ⟨j, hj, rfl⟩ := mem_turns.mp h2
  rw [l1] at hj
  exact mem_turns.mpr ⟨(k + j) % u.length, Nat.mod_lt _ (by omega), (rot_rot u hk hj).symm⟩
theorem turns_set {u v : List Nat} (h : v ∈ turns u) (x : List Nat) : x ∈ turns v ↔ x ∈ turns u := ⟨turns_tr h, turns_tr (turns_sym h)⟩
theorem self_turns {u : List Nat} (h : u ≠ []) : u ∈ turns u := mem_turns.mpr ⟨0, List.length_pos_iff.mpr h, rot0 u⟩
/-! ### the least -/
theorem lt_tot {a b : List Nat} (h : ¬ a < b) (h2 : ¬ b < a) : a = b := leT_anti a b (by unfold leT; exact decide_eq_true (List.not_lt.mp h2)) (by unfold leT; exact decide_eq_true (List.not_lt.mp h))
theorem nlt_tr {a b c : List Nat} (h : ¬ b < a) (h2 : ¬ c < b) : ¬ c < a := by
  have := leT_tr a b c (by unfold leT; exact decide_eq_true (List.not_lt.mp h)) (by unfold leT; exact decide_eq_true (List.not_lt.mp h2))
  unfold leT at this
  exact List.not_lt.mpr (of_decide_eq_true this)
theorem fold_min : ∀ (r : List (List Nat)) (x : List Nat), (r.foldl (fun a y => if ltE eS y a then y else a) x ∈ x :: r) ∧ ∀ y ∈ x :: r, ¬ y < r.foldl (fun a y => if ltE eS y a then y else a) x
  | [], x => ⟨List.mem_cons_self, fun y hy => by
    rw [List.mem_singleton.mp hy]
    exact List.lt_irrefl _⟩
  | z :: r, x => by
    rw [List.foldl_cons]
    have hz : ¬ x < (if ltE eS z x then z else x) ∧ ¬ z < (if ltE eS z x then z else x) ∧ (if ltE eS z x then z else x) ∈ [x, z] := by
      rw [ltE_S]
      by_cases h : z < x
      · rw [if_pos (decide_eq_true h)]
        exact ⟨List.not_lt.mpr (List.le_of_lt h), List.lt_irrefl _, by simp⟩
      · rw [if_neg (by rw [decide_eq_true_eq]; exact h)]
        exact ⟨List.lt_irrefl _, h, by simp⟩
    obtain ⟨h1, h2⟩ := fold_min r (if ltE eS z x then z else x)
    refine ⟨?_, fun y hy => ?_⟩
    · rcases List.mem_cons.mp h1 with q | q
      · rw [q]
        rcases List.mem_cons.mp hz.2.2 with q | q
        · rw [q]; exact List.mem_cons_self
        · rw [List.mem_singleton.mp q]; exact List.mem_cons_of_mem _ List.mem_cons_self
      · exact List.mem_cons_of_mem _ (List.mem_cons_of_mem _ q)
    · have hb := h2 _ List.mem_cons_self
      rcases List.mem_cons.mp hy with q | q
      · subst q; exact nlt_tr hb hz.1
      · rcases List.mem_cons.mp q with q | q
        · subst q; exact nlt_tr hb hz.2.1
        · exact h2 y (List.mem_cons_of_mem _ q)
theorem mn_spec {l : List (List Nat)} (h : l ≠ []) : ∃ w, mnO eS l = some w ∧ w ∈ l ∧ ∀ y ∈ l, ¬ y < w := by
  cases l with
  | nil => exact absurd rfl h
  | cons x r => exact ⟨_, rfl, (fold_min r x).1, (fold_min r x).2⟩
def tt (u : List Nat) : List Nat := (mnO eS (turns u)).getD []
theorem turns_ne {u : List Nat} (h : u ≠ []) : turns u ≠ [] := List.ne_nil_of_mem (self_turns h)
theorem tt_spec {u : List Nat} (h : u ≠ []) : mnO eS (turns u) = some (tt u) ∧ tt u ∈ turns u ∧ ∀ y ∈ turns u, ¬ y < tt u := by
  obtain ⟨w, e, h1, h2⟩ := mn_spec (turns_ne h)
  have : tt u = w := by unfold tt; rw [e]; rfl
  rw [this]
  exact ⟨e, h1, h2⟩
theorem ne_of_turn {u v : List Nat} (h : v ∈ turns u) (hu : u ≠ []) : v ≠ [] := fun e => hu (List.length_eq_zero_iff.mp (by rw [← turns_len h, e]; rfl))
theorem tt_eq {u v : List Nat} (hu : u ≠ []) (hv : v ≠ []) : decide (tt v = tt u) = memB v (turns u) := by
  obtain ⟨_, a1, a2⟩ := tt_spec hu
  obtain ⟨_, b1, b2⟩ := tt_spec hv
  rw [Bool.eq_iff_iff, decide_eq_true_eq, memB_iff]
  constructor
  · intro e
    rw [e] at b1
    exact turns_tr a1 (turns_sym b1)
  · intro h
    exact lt_tot (a2 _ ((turns_set h _).mp b1)) (b2 _ ((turns_set h _).mpr a1))
/-! ### roots and turns -/
theorem lt_app : ∀ {a b x y : List Nat}, a < b → a.length = b.length → a ++ x < b ++ y
  | [], [], _, _, h, _ => absurd h (List.lt_irrefl _)
  | a :: r, b :: t, x, y, h, hl => by
    rw [List.cons_append, List.cons_append, List.cons_lt_cons_iff]
    rcases List.cons_lt_cons_iff.mp h with q | ⟨q1, q2⟩
    · exact .inl q
    · exact .inr ⟨q1, lt_app q2 (by simpa using hl)⟩
theorem ded_count {u : List Nat} (hu : u ≠ []) : (ded (turns u)).length = (root u).length := by
  obtain ⟨d, d0, dd, dp, dr, dm⟩ := root_spec u hu
  have u0 := List.length_pos_iff.mpr hu
  have hdl : d ≤ u.length := Nat.le_of_dvd u0 dd
  have hrl : (root u).length = d := by rw [dr, List.length_take]; omega
  have hD : ((List.range d).map (rot u)).Nodup := by
    refine List.pairwise_map.mpr ((List.nodup_range (n := d)).imp_of_mem ?_)
    have key : ∀ j k, j < k → k < d → rot u j ≠ rot u k := fun j k hjk hk e => by
      have hp : Per (inf u) (k - j) := fun i => by
        have h1 : inf u (i + (u.length - j) + j) = inf u (i + (u.length - j) + k) := by
          rw [← inf_rot u (show j ≤ u.length by omega) hu, ← inf_rot u (show k ≤ u.length by omega) hu, e]
        rw [show i + (u.length - j) + j = i + u.length by omega, inf_self, show i + (u.length - j) + k = i + (k - j) + u.length by omega, inf_self] at h1
        exact h1.symm
      have := dm _ (by omega) hp
      omega
    intro j k hj hk hne
    have hj := List.mem_range.mp hj
    have hk := List.mem_range.mp hk
    rcases Nat.lt_or_ge j k with h | h
    · exact key j k h hk
    · exact fun e => key k j (by omega) hj e.symm
  have hlen : ((List.range d).map (rot u)).length = d := by rw [List.length_map, List.length_range]
  rw [hrl]
  refine Nat.le_antisymm ?_ ?_
  · rw [← hlen]
    refine nd_len (nd_ded _) fun x hx => ?_
    obtain ⟨k, hk, rfl⟩ := mem_turns.mp (mem_ded.mp hx)
    refine List.mem_map.mpr ⟨k % d, List.mem_range.mpr (Nat.mod_lt _ d0), ?_⟩
    have hkd := Nat.mod_lt k d0
    refine w_ext (by rw [rot_len u (by omega), rot_len u (by omega)]) fun i => ?_
    rw [inf_rot u (by omega) hu, inf_rot u (by omega) hu, ← per_mod dp (i + k % d), Nat.add_mod_mod, per_mod dp]
  · conv => lhs; rw [← hlen]
    refine nd_len hD fun x hx => mem_ded.mpr ?_
    obtain ⟨k, hk, rfl⟩ := List.mem_map.mp hx
    exact mem_turns.mpr ⟨k, by have := List.mem_range.mp hk; omega, rfl⟩
theorem ded_turn {u v : List Nat} (h : v ∈ turns u) : (ded (turns v)).length = (ded (turns u)).length :=
  Nat.le_antisymm (nd_len (nd_ded _) fun x hx => mem_ded.mpr ((turns_set h x).mp (mem_ded.mp hx))) (nd_len (nd_ded _) fun x hx => mem_ded.mpr ((turns_set h x).mpr (mem_ded.mp hx)))
/-- the root of the least turn is a peak -/
theorem peak {u : List Nat} (hu : u ≠ []) {j : Nat} (j0 : 0 < j) (hj : j < (root (tt u)).length) : root (tt u) < rot (root (tt u)) j := by
  obtain ⟨_, h1, h2⟩ := tt_spec hu
  have hw := ne_of_turn h1 hu
  have hall : ∀ y ∈ turns (tt u), ¬ y < tt u := fun y hy => h2 y ((turns_set h1 y).mp hy)
  generalize tt u = w at *
  obtain ⟨d, d0, dd, dp, dr, dm⟩ := root_spec w hw
  have w0 := List.length_pos_iff.mpr hw
  have hdl : d ≤ w.length := Nat.le_of_dvd w0 dd
  have hrl : (root w).length = d := by rw [dr, List.length_take]; omega
  rw [hrl] at hj
  have hp : root w ≠ [] := fun e => by rw [e] at hrl; simp at hrl; omega
  have hinf : ∀ i, inf (root w) i = inf w i := fun i => by
    have hm := Nat.mod_lt i d0
    show (root w).getD (i % (root w).length) 0 = _
    rw [hrl, dr, g_take hm, ← inf_lt (by omega), per_mod dp]
  have hne : rot (root w) j ≠ root w := fun e => by
    have : Per (inf w) j := fun i => by
      rw [← hinf, ← hinf, ← inf_rot (root w) (by omega) hp, e]
    have := dm j j0 this
    omega
  refine Classical.byContradiction fun hn => ?_
  have hlt : rot (root w) j < root w := Classical.byContradiction fun hn2 => hne (lt_tot hn2 hn)
  have e1 : rot w j = rot (root w) j ++ (rot w j).drop d := by
    have hl := rot_len (root w) (k := j) (by omega)
    have := pre_off (u := rot (root w) j) (v := rot w j) (by rw [hl, hrl, rot_len w (by omega)]; exact hdl) fun i hi => by
      rw [hl, hrl] at hi
      rw [rot_get (root w) (by omega) (by omega), rot_get w (by omega) (by omega), hinf]
    rw [hl, hrl] at this
    exact this
  have e2 : w = root w ++ w.drop d := by rw [dr]; exact (List.take_append_drop d w).symm
  have : rot w j < w := by
    have := lt_app (x := (rot w j).drop d) (y := w.drop d) hlt (by rw [rot_len _ (by omega)])
    rw [← e1, ← e2] at this
    exact this
  exact hall _ (mem_turns.mpr ⟨j, by omega, rfl⟩) this
/-! ### the defs -/
structure TW (u : List Nat) : Prop where
  ne : u ≠ []
  len : u.length ≤ 100
  let_ : ∀ c ∈ u, 97 ≤ c ∧ c ≤ 122
theorem rng_nat {n : Nat} (h : n ≤ 1000) : rg1 (n : Int) = some ((List.range n).map fun (k : Nat) => (k : Int)) := rg1_nat (by omega)
theorem cut_rot {u : List Nat} (k : Nat) (h : u.length ≤ 1000) : (adO (cutL u (some (k : Int)) none) (cutL u none (some (k : Int)))) = some (rot u k) := by
  rw [cut_from (by omega), cut_to (by omega), Int.toNat_natCast, adO_ok (by rw [List.length_drop, List.length_take]; omega)]
  rfl
theorem f_turned {u : List Nat} (k : Nat) (h : u.length ≤ 1000) : F_turned_by u (k : Int) = some (rot u k) := by
  unfold F_turned_by
  exact bnd (cut_rot k h) rfl
theorem map_rg {n : Nat} {α : Type} {f : Int → Option α} {g : Nat → α} (hn : n ≤ 1000) (h : ∀ k, k < n → f (k : Int) = some (g k)) : mapO ((List.range n).map fun (k : Nat) => (k : Int)) f = some ((List.range n).map g) := by
  have := mapO_some (f := f) (xs := (List.range n).map fun (k : Nat) => (k : Int)) (fun i => g i.toNat) (by simp; omega) fun i hi => by
    obtain ⟨k, hk, rfl⟩ := List.mem_map.mp hi
    rw [h k (List.mem_range.mp hk), Int.toNat_natCast]
  rw [this, List.map_map]
  rfl
theorem f_lturns {u : List Nat} (h : u.length ≤ 1000) : F__law_turns u = some (turns u) := by
  unfold F__law_turns
  exact bnd (rng_nat h) (bnd (map_rg h fun k hk => by rw [cut_rot k h]; rfl) rfl)
theorem f_tturn {u : List Nat} (hu : u ≠ []) (h : u.length ≤ 1000) : F_told_turn u = some (tt u) := by
  unfold F_told_turn
  refine bnd (rng_nat h) (bnd (map_rg (g := rot u) h fun k hk => by rw [f_turned k h]; rfl) ?_)
  exact bnd (tt_spec hu).1 rfl
theorem f_face {u : List Nat} (hu : u ≠ []) (h : u.length ≤ 1000) : F_told_face u = some (if decide (tt u.reverse < tt u) = true then tt u.reverse else tt u) := by
  unfold F_told_face
  exact bnd (f_tturn hu h) (bnd (f_tturn (by simpa using hu) (by rw [List.length_reverse]; exact h)) rfl)
/-- the place of the turn -/
def pl (u v : List Nat) : Option Nat := (List.range u.length).find? fun k => decide (rot u k = v)
theorem f_between {u v : List Nat} (h : u.length ≤ 1000) : F_turn_between u v = some ((pl u v).map fun (k : Nat) => (k : Int)) := by
  unfold F_turn_between pl
  refine bnd (rng_nat h) (bnd (loopO_find (fun i => decide (rot u i.toNat = v)) (fun i => some i) fun i hi => ?_) ?_)
  · obtain ⟨k, hk, rfl⟩ := List.mem_map.mp hi
    rw [f_turned k h, Int.toNat_natCast]
    show (if decide (rot u k = v) = true then some (Ctl.rt (some (k : Int))) else some (Ctl.nx ())) = _
    split <;> rfl
  · rw [List.find?_map]
    have e : ((fun i : Int => decide (rot u i.toNat = v)) ∘ fun (k : Nat) => (k : Int)) = fun k => decide (rot u k = v) := by
      funext k
      show decide (rot u (k : Int).toNat = v) = _
      rw [Int.toNat_natCast]
    rw [e]
    cases (List.range u.length).find? fun k => decide (rot u k = v) <;> rfl
theorem idx_eq (u v : List Nat) : (if (memB v (turns u)) = true then ((ixO (turns u) v).bind fun i => some (some i)) else (some none)) = some ((pl u v).map fun (k : Nat) => (k : Int)) := by
  have e : ixO (turns u) v = (pl u v).map fun (k : Nat) => (k : Int) := by
    unfold ixO turns pl
    rw [List.findIdx?_map]
    congr 1
    cases hq : (List.range u.length).find? fun k => decide (rot u k = v) with
    | none =>
      rw [List.findIdx?_eq_none_iff]
      intro k hk
      have := List.find?_eq_none.mp hq k hk
      simpa using this
    | some k =>
      obtain ⟨h1, h2, h3⟩ := List.find?_range_eq_some.mp hq
      rw [List.findIdx?_eq_some_iff_getElem]
      have hk := List.mem_range.mp h2
      refine ⟨by rw [List.length_range]; exact hk, by rw [List.getElem_range]; exact h1, fun j hj => ?_⟩
      rw [List.getElem_range]
      have := h3 j hj
      simpa using this
  rw [e]
  by_cases h : v ∈ turns u
  · rw [if_pos (memB_iff.mpr h)]
    have : pl u v ≠ none := fun q => by
      obtain ⟨k, hk, er⟩ := mem_turns.mp h
      have := List.find?_eq_none.mp q k (List.mem_range.mpr hk)
      rw [er] at this
      simp at this
    cases hq : pl u v with
    | none => exact absurd hq this
    | some k => rfl
  · rw [if_neg (by rw [memB_iff]; exact h)]
    cases hq : pl u v with
    | none => rfl
    | some k =>
      have h1 := List.find?_some hq
      have h2 := List.mem_range.mp (List.mem_of_find?_eq_some hq)
      exact absurd (mem_turns.mpr ⟨k, h2, of_decide_eq_true h1⟩) h
/-! roots -/
theorem mu_rep {a : List Nat} {k : Nat} (h : a.length * k ≤ 1000) (h2 : k ≤ 1000) : muO a (k : Int) = some (List.replicate k a).flatten := by
  unfold muO
  have p : (2 : Int) ^ 62 = 4611686018427387904 := by decide
  rw [p, Int.toNat_natCast, if_pos]
  rw [Bool.and_eq_true, Bool.and_eq_true]
  exact ⟨⟨szOk_ok (by omega), decide_eq_true (by omega)⟩, decide_eq_true (by omega)⟩
theorem root_step {u : List Nat} {d : Nat} (d0 : 0 < d) (hd : d ≤ u.length) (h : u.length ≤ 1000) {γ : Type} (K : Bool → Option γ) :
    ((mdO (u.length : Int) (d : Int)).bind fun m => (if (decide (m = (0 : Int))) = true then ((dvO (u.length : Int) (d : Int)).bind fun q => (muO (cutL u none (some (d : Int))) q).bind fun r => some (decide (r = u))) else some false).bind K) = K (rootAt u d) := by
  have em : ((u.length : Int) % (d : Int)) = ((u.length % d : Nat) : Int) := by omega
  rw [mdO_ok (by omega), Option.bind_some, em]
  unfold rootAt
  by_cases z : u.length % d = 0
  · rw [if_pos (decide_eq_true (by omega)), decide_eq_true z, Bool.true_and, dvO_ok (by omega) (by omega), Option.bind_some, cut_to (by omega), Int.toNat_natCast, ← Int.natCast_ediv, mu_rep, Option.bind_some, Option.bind_some]
    · rw [List.length_take, Nat.min_eq_left hd]
      have := Nat.mul_div_le u.length d
      omega
    · have := Nat.div_le_self u.length d
      omega
  · rw [if_neg (by rw [decide_eq_true_eq]; omega), decide_eq_false z]; rfl
theorem f_root {u : List Nat} (h : u.length ≤ 1000) : F_told_root u = some (root u) := by
  unfold F_told_root root
  refine bnd (show rg2 ((1 : Nat) : Int) (u.length : Int) = _ from rg2_nat (by omega) (by omega)) ?_
  refine bnd (loopO_find (fun i => rootAt u i.toNat) (fun i => u.take i.toNat) fun i hi => ?_) ?_
  · obtain ⟨k, hk, rfl⟩ := List.mem_map.mp hi
    have hk := List.mem_range'_1.mp hk
    rw [Int.toNat_natCast]
    refine (root_step (by omega) (by omega) h _).trans ?_
    rw [cut_to (by omega), Int.toNat_natCast]
    split <;> rfl
  · rw [List.find?_map]
    have e : ((fun i : Int => rootAt u i.toNat) ∘ fun (k : Nat) => (k : Int)) = rootAt u := by
      funext k
      show rootAt u (k : Int).toNat = _
      rw [Int.toNat_natCast]
    rw [e]
    cases (List.range' 1 (u.length - 1)).find? (rootAt u) <;> rfl
theorem f_lroot {u : List Nat} (hu : u ≠ []) (h : u.length ≤ 1000) : F__law_root u = some (root u) := by
  have u0 := List.length_pos_iff.mpr hu
  unfold F__law_root root
  refine bnd (show rg2 ((1 : Nat) : Int) ((u.length : Int) + 1) = _ from by
    rw [show ((u.length : Int) + 1) = ((u.length + 1 : Nat) : Int) by omega]
    exact rg2_nat (by omega) (by omega)) ?_
  refine bnd (loopO_find (fun i => rootAt u i.toNat) (fun i => u.take i.toNat) fun i hi => ?_) ?_
  · obtain ⟨k, hk, rfl⟩ := List.mem_map.mp hi
    have hk := List.mem_range'_1.mp hk
    rw [Int.toNat_natCast]
    refine (root_step (by omega) (by omega) h _).trans ?_
    rw [cut_to (by omega), Int.toNat_natCast]
    split <;> rfl
  · rw [List.find?_map]
    have e : ((fun i : Int => rootAt u i.toNat) ∘ fun (k : Nat) => (k : Int)) = rootAt u := by
      funext k
      show rootAt u (k : Int).toNat = _
      rw [Int.toNat_natCast]
    have er : List.range' 1 (u.length + 1 - 1) = List.range' 1 (u.length - 1) ++ [u.length] := by
      have := List.range'_concat (s := 1) (n := u.length - 1) (step := 1)
      rw [show u.length + 1 - 1 = u.length - 1 + 1 by omega, this]
      congr 2; omega
    rw [e, er, List.find?_append]
    cases (List.range' 1 (u.length - 1)).find? (rootAt u) with
    | some d => rfl
    | none =>
      rw [Option.none_or, List.find?_cons_of_pos (root_self u hu)]
      show some (u.take (u.length : Int).toNat) = _
      rw [Int.toNat_natCast, List.take_length]
theorem f_nturns {u : List Nat} (hu : u ≠ []) (h : u.length ≤ 1000) : F_number_of_turns u = some ((ded (turns u)).length : Int) := by
  unfold F_number_of_turns
  refine bnd (f_root h) ?_
  rw [ded_count hu]
/-! peaks -/
theorem lt_one (a b : Nat) : ltE eS [a] [b] = decide (a < b) := by
  rw [ltE_S, decide_eq_decide, List.cons_lt_cons_iff]
  exact ⟨fun h => h.elim id fun h => absurd h.2 (List.lt_irrefl _), .inl⟩
theorem f_peak {p : List Nat} (hp : p ≠ []) (h : p.length ≤ 1000) (hl : ∀ c ∈ p, 97 ≤ c ∧ c ≤ 122) (hk : ∀ j, 0 < j → j < p.length → p < rot p j) : F_is_peak p = some true := by
  unfold F_is_peak
  rw [if_neg (by rw [decide_eq_true_eq]; exact hp)]
  refine bnd (v := false) (bnd (allO_some (fun _ => true) fun l hl' => ?_) (by rw [List.all_eq_true.mpr fun _ _ => rfl]; rfl)) ?_
  · obtain ⟨c, hc, rfl⟩ := mem_chs.mp hl'
    obtain ⟨h1, h2⟩ := hl c hc
    rw [lt_one, lt_one, decide_eq_false (by omega), decide_eq_false (by omega)]; rfl
  · rw [if_neg Bool.false_ne_true]
    refine bnd (show rg2 ((1 : Nat) : Int) (p.length : Int) = _ from rg2_nat (by omega) (by omega)) (bnd (allO_some (fun _ => true) fun i hi => ?_) (by rw [List.all_eq_true.mpr fun _ _ => rfl]))
    obtain ⟨k, hk', rfl⟩ := List.mem_map.mp hi
    have hk' := List.mem_range'_1.mp hk'
    rw [f_turned k h, Option.bind_some, ltE_S, decide_eq_true (hk k (by omega) (by omega))]
theorem f_lpeak {p : List Nat} (hp : p ≠ []) (h : p.length ≤ 1000) (hl : ∀ c ∈ p, 97 ≤ c ∧ c ≤ 122) (hk : ∀ j, 0 < j → j < p.length → p < rot p j) : F__law_is_peak p = some true := by
  unfold F__law_is_peak
  rw [if_neg (by rw [decide_eq_true_eq]; exact hp)]
  refine bnd (v := false) (bnd (lcO_fil (fun _ => false) (by rw [chs_length]; omega) fun l hl' => ?_) (by rw [List.filter_eq_nil_iff.mpr (by simp)]; rfl)) ?_
  · obtain ⟨c, hc, rfl⟩ := mem_chs.mp hl'
    obtain ⟨h1, h2⟩ := hl c hc
    rw [lt_one, lt_one, decide_eq_false (by omega), decide_eq_false (by omega)]; rfl
  · rw [if_neg Bool.false_ne_true]
    refine bnd (f_lturns h) ?_
    rw [cut_from (by decide)]
    refine bnd (lcO_some (fun _ => false) (fun _ => (1 : Int)) ?_ (fun x hx => ?_) fun _ _ e => by cases e) (by rw [List.filter_eq_nil_iff.mpr (by simp)]; rfl)
    · rw [List.length_drop]; unfold turns; rw [List.length_map, List.length_range]; omega
    · obtain ⟨i, hi⟩ := List.getElem?_of_mem hx
      rw [List.getElem?_drop] at hi
      unfold turns at hi
      rw [List.getElem?_map] at hi
      obtain ⟨k, hk1, e⟩ := Option.map_eq_some_iff.mp hi
      obtain ⟨hk2, hk3⟩ := List.getElem?_eq_some_iff.mp hk1
      rw [List.getElem_range] at hk3
      rw [List.length_range] at hk2
      have h1 : (1 : Int).toNat = 1 := rfl
      rw [← e, ltE_S, decide_eq_true (hk k (by omega) (by omega))]; rfl
theorem f_right {u v : List Nat} (U : TW u) (V : TW v) : F__law_right u v = some true := by
  suffices h : Ok (F__law_right u v) fun v => v = true by
    obtain ⟨v, e, rfl⟩ := h; exact e
  unfold F__law_right
  have hul := U.len
  have hvl := V.len
  have hu := U.ne
  have hv := V.ne
  obtain ⟨a0, a1, a2⟩ := tt_spec hu
  have hr : u.reverse ≠ [] := by simpa using hu
  have hw := ne_of_turn a1 hu
  have hwl := turns_len a1
  refine ok_eq (f_lturns (by omega)) (ok_eq a0 (ok_eq (f_tturn hu (by omega)) (ok_eq (isF_S _ _) ?_)))
  refine ok_bind (Q := fun v => v = false) (ok_same rfl (ok_eq (f_face hu (by omega)) (ok_eq (f_lturns (by rw [List.length_reverse]; omega)) (ok_eq (tt_spec hr).1 (ok_eq (isF_S _ _) (ok_some (by rw [decide_eq_true rfl]; rfl))))))) fun v hv0 => ?_
  subst hv0
  refine ok_ite (fun z => by cases z) fun _ => ?_
  have htl : (turns u).length ≤ 100 := by unfold turns; rw [List.length_map, List.length_range]; omega
  have hsl : (srt (turns u)).length = (ded (turns u)).length := by unfold srt; rw [List.length_mergeSort]
  refine ok_eq (f_nturns hu (by omega)) (ok_eq (ssO_S (by omega)) ?_)
  rw [hsl]
  refine ok_eq (isF_I _ _) (ok_same rfl (ok_eq (f_between (by omega)) (ok_eq (idx_eq u v) (ok_eq (isF_OI _ _) (ok_same rfl (ok_eq (f_tturn hv (by omega)) ?_))))))
  refine ok_same (tt_eq hu hv) (ok_eq (f_root (by omega)) (ok_eq (f_lroot hw (by omega)) (ok_eq (isF_S _ _) ?_)))
  obtain ⟨d, d0, dd, dp, dr, dm⟩ := root_spec (tt u) hw
  have hdl : d ≤ (tt u).length := Nat.le_of_dvd (List.length_pos_iff.mpr hw) dd
  have hrl : (root (tt u)).length = d := by rw [dr, List.length_take]; omega
  have hp : root (tt u) ≠ [] := fun e => by rw [e] at hrl; simp at hrl; omega
  have hlet : ∀ c ∈ root (tt u), 97 ≤ c ∧ c ≤ 122 := fun c hc => by
    rw [dr] at hc
    have hc := List.mem_of_mem_take hc
    obtain ⟨k, _, e⟩ := mem_turns.mp a1
    rw [← e] at hc
    unfold rot at hc
    rcases List.mem_append.mp hc with q | q
    · exact U.let_ c (List.mem_of_mem_drop q)
    · exact U.let_ c (List.mem_of_mem_take q)
  have hpk := fun j j0 hj => peak hu (j := j) j0 hj
  refine ok_bind (Q := fun v => v = false) (ok_same rfl (ok_eq (f_lpeak hp (by omega) hlet hpk) (ok_bind (Q := fun v => v = false) (ok_ite (fun z => by cases z) fun _ => ok_eq (f_peak hp (by omega) hlet hpk) (ok_eq (isF_B _ _) (ok_some (by rw [decide_eq_true rfl]; rfl)))) fun v hv0 => ok_some hv0))) fun v hv0 => ?_
  subst hv0
  refine ok_ite (fun z => by cases z) fun _ => ?_
  have hat := (rootAt_iff (tt u) d d0 hw).mpr ⟨dd, dp⟩
  unfold rootAt at hat
  rw [Bool.and_eq_true, decide_eq_true_eq, decide_eq_true_eq, ← dr] at hat
  have hq := Nat.div_le_self u.length d
  have hm := Nat.mul_div_le u.length d
  rw [hwl] at hat
  rw [hrl]
  refine ok_eq (dvO_ok (by omega) (by omega)) ?_
  rw [← Int.natCast_ediv]
  refine ok_eq (mu_rep (by rw [hrl]; omega) (by omega)) ?_
  rw [hat.2]
  refine ok_bind (Q := fun v => v = true) (ok_ite (fun _ => ok_eq (ssO_S (by omega)) (ok_some ?_)) fun z => ?_) fun v hv0 => ok_some hv0
  · rw [hsl, ← ded_turn a1, ded_count hw, hrl]
    exact decide_eq_true rfl
  · rw [decide_eq_true rfl] at z; cases z
theorem nums0 : ((List.range 30).all fun a => (List.range 26).all fun b => decide (F__law_numbers ((1 : Int) + ((a : Nat) : Int)) ((1 : Int) + ((b : Nat) : Int)) = some true)) = true := by decide +kernel
theorem f_nums {n k : Int} (hn : 1 ≤ n ∧ n ≤ 30) (hk : 1 ≤ k ∧ k ≤ 26) : F__law_numbers n k = some true := by
  have h := List.all_eq_true.mp nums0 (n - 1).toNat (List.mem_range.mpr (by omega))
  have h := List.all_eq_true.mp h (k - 1).toNat (List.mem_range.mpr (by omega))
  have h := of_decide_eq_true h
  rw [show (1 : Int) + (((n - 1).toNat : Nat) : Int) = n by omega, show (1 : Int) + (((k - 1).toNat : Nat) : Int) = k by omega] at h
  exact h
theorem cnt0 : ([((6 : Int), (2 : Int)), (4, 3), (5, 2), (3, 4), (7, 1), (2, 9), (1, 10), (4, 2)].all fun p => decide (F__law_counted p.1 p.2 = some true)) = true := by decide +kernel
theorem f_cnt {p : Int × Int} (h : p ∈ [((6 : Int), (2 : Int)), (4, 3), (5, 2), (3, 4), (7, 1), (2, 9), (1, 10), (4, 2)]) : F__law_counted p.1 p.2 = some true := of_decide_eq_true (List.all_eq_true.mp cnt0 p h)
theorem s_text (ds : List Int) (n : Nat) (ls : List Nat) (hd : ds.length = 22) (hn : n ≤ 1000) (hl : 0 < ls.length) : Ok (F__law_text ds (n : Int) ls) fun r => r.length = n ∧ ∀ c ∈ r, c ∈ ls := by
  unfold F__law_text
  obtain ⟨d0, _, g0⟩ := atI_mem (s := ds) (i := 0) (by decide) (by omega)
  obtain ⟨d1, _, g1⟩ := atI_mem (s := ds) (i := 1) (by decide) (by omega)
  have zl : ∀ x : Int, ∃ c ∈ ls, atI (chs ls) (x % (ls.length : Int)) = some [c] := fun x => by
    obtain ⟨z, hz, ez⟩ := atI_mod (s := chs ls) (x := x) (m := (ls.length : Int)) (by rw [chs_length]) (by rw [chs_length]; exact hl)
    obtain ⟨c, hc, rfl⟩ := mem_chs.mp hz
    exact ⟨c, hc, ez⟩
  refine ok_eq g0 (ok_let fun way _ => ok_eq g1 (ok_let fun size hs => ok_let fun t0 et => ok_eq (rg1_nat (by omega)) ?_))
  have q0 := Int.emod_nonneg d1 (show (5 : Int) ≠ 0 by decide)
  refine ok_bind (foldO_rg (fun j (s : List Nat) => s.length = j ∧ ∀ c ∈ s, c ∈ ls) ⟨by rw [et]; rfl, fun c hc => by rw [et] at hc; cases hc⟩ fun j s hj ⟨h1, h2⟩ => ?_) fun f ⟨h1, h2⟩ => ?_
  · refine ok_bind (Q := fun c => 0 ≤ c) (ok_ite (fun _ => ok_some (by omega)) fun _ => ok_eq (mdO_ok (by omega)) (ok_some (Int.emod_nonneg _ (by omega)))) fun c hc => ?_
    rw [hd]
    refine ok_eq (mdO_ok (by decide)) ?_
    have r0 := Int.emod_nonneg c (show ((22 : Nat) : Int) - 2 ≠ 0 by decide)
    have r1 := Int.emod_lt_of_pos c (show (0 : Int) < ((22 : Nat) : Int) - 2 by decide)
    obtain ⟨x, _, gx⟩ := atI_mem (s := ds) (i := 2 + c % (((22 : Nat) : Int) - 2)) (by omega) (by omega)
    obtain ⟨z, hz, ez⟩ := zl (x / 5)
    refine ok_eq gx (ok_eq (mdO_ok (by omega)) (ok_eq ez (ok_eq (adO_ok (by simp; omega)) (ok_some ⟨by simp [h1], fun k hk => ?_⟩))))
    rcases List.mem_append.mp hk with q | q
    · exact h2 k q
    · rw [List.mem_singleton.mp q]; exact hz
  · refine ok_bind (Q := fun r : List Nat => r.length = n ∧ ∀ c ∈ r, c ∈ ls) (ok_ite (fun z => ?_) fun _ => ok_some ⟨h1, h2⟩) fun v hv => ok_some hv
    rw [Bool.and_eq_true, decide_eq_true_eq, decide_eq_true_eq] at z
    obtain ⟨z1, hz1, e1⟩ := zl (d0 / 9)
    have r0 := Int.emod_nonneg (d1 / 7) (show (n : Int) ≠ 0 by omega)
    have r1 := Int.emod_lt_of_pos (d1 / 7) z.2
    refine ok_eq g1 (ok_eq (mdO_ok z.2) (ok_eq g0 (ok_eq (mdO_ok (by omega)) (ok_eq e1 ?_))))
    generalize d1 / 7 % (n : Int) = m at r0 r1
    rw [cut_to r0, cut_from (by omega)]
    refine ok_eq (adO_ok (by simp; omega)) (ok_eq (adO_ok (by simp; omega)) (ok_some ⟨by simp; omega, fun k hk => ?_⟩))
    rcases List.mem_append.mp hk with q | q
    · rcases List.mem_append.mp q with q | q
      · exact h2 k (List.mem_of_mem_take q)
      · rw [List.mem_singleton.mp q]; exact hz1
    · exact h2 k (List.mem_of_mem_drop q)
theorem go_ok {β γ δ : Type} {s : β} {r : γ → Option δ} {n : β → Option δ} {P : δ → Prop} (h : Ok (n s) P) : Ok ((Ctl.nx s : Ctl β γ).go r n) P := h
theorem f_law (ns : List Int) : F_law ns = some true := by
  suffices h : Ok (F_law ns) fun v => v = true by
    obtain ⟨v, e, rfl⟩ := h; exact e
  unfold F_law
  have fin : (F__law_counted (6 : Int) (2 : Int)) = some true := f_cnt (p := (6, 2)) (by simp)
  have fin2 : (F__law_counted (4 : Int) (2 : Int)) = some true := f_cnt (p := (4, 2)) (by simp)
  refine ok_eq (rg1_nat (n := 3) (by decide)) (ok_eq (loopO_all fun k hk => ?_) (go_ok (ok_eq fin (ok_bind (Q := fun v => v = true) (ok_ite (fun _ => ok_eq fin2 (ok_some rfl)) fun z => by cases z) fun v hv => ok_some hv))))
  obtain ⟨k, hk', rfl⟩ := List.mem_map.mp hk
  have hk := List.mem_range.mp hk'
  suffices h : Ok _ fun v => v = Ctl.nx () by
    obtain ⟨v, e, rfl⟩ := h; exact e
  obtain ⟨c, ec⟩ := s_cell ns (2 * (k : Int)) (by omega)
  obtain ⟨c1, ec1⟩ := s_cell ns (2 * (k : Int) + 1) (by omega)
  refine ok_eq ec (ok_bind (s_draws c 20 (by decide)) fun ds ⟨dl, db⟩ => ok_eq ec1 (ok_bind (s_draws c1 22 (by decide)) fun pt ⟨pl, pb⟩ => ?_))
  have dat : ∀ i : Int, 0 ≤ i → i < 20 → ∃ x ∈ ds, atI ds i = some x := fun i h0 h1 => atI_mem h0 (by omega)
  obtain ⟨d0, _, g0⟩ := dat 0 (by decide) (by decide)
  obtain ⟨ls, hls, el⟩ := atI_mod (s := [[97, 98], [97, 98, 99], [97], [115, 116, 117, 118, 119, 120, 121, 122]]) (x := d0) (m := 4) rfl (by decide)
  obtain ⟨d1, _, g1⟩ := dat 1 (by decide) (by decide)
  obtain ⟨n', hn, en⟩ := atI_mod (s := [(6 : Int), (9 : Int), (12 : Int), (4 : Int), (2 : Int), (1 : Int), (16 : Int)]) (x := d1) (m := 7) rfl (by decide)
  have hls2 : 0 < ls.length ∧ ∀ c ∈ ls, 97 ≤ c ∧ c ≤ 122 := by
    simp only [List.mem_cons, List.not_mem_nil, or_false] at hls
    rcases hls with h | h | h | h <;> subst h <;> decide
  have hn2 : 1 ≤ n' ∧ n' ≤ 16 := by
    simp only [List.mem_cons, List.not_mem_nil, or_false] at hn
    omega
  refine ok_eq g0 (ok_eq el (ok_eq g1 (ok_eq en ?_)))
  clear en hn
  obtain ⟨n, rfl⟩ : ∃ n : Nat, n' = (n : Int) := ⟨n'.toNat, by omega⟩
  refine ok_bind (s_text pt n ls pl (by omega) hls2.1) fun u ⟨ul, uc⟩ => ?_
  obtain ⟨d2, _, g2⟩ := dat 2 (by decide) (by decide)
  obtain ⟨d3, _, g3⟩ := dat 3 (by decide) (by decide)
  have ulet : ∀ c ∈ u, 97 ≤ c ∧ c ≤ 122 := fun c hc => hls2.2 c (uc c hc)
  have U : TW u := ⟨fun e => by rw [e] at ul; simp at ul; omega, by omega, ulet⟩
  have r0 := Int.emod_nonneg d2 (show (u.length : Int) ≠ 0 by omega)
  have r1 := Int.emod_lt_of_pos d2 (show (0 : Int) < (u.length : Int) by omega)
  refine ok_eq g2 (ok_eq (mdO_ok (by omega)) ?_)
  generalize d2 % (u.length : Int) = m at r0 r1
  obtain ⟨z, hz, ez⟩ := atI_mod (s := chs ls) (x := d3) (m := (ls.length : Int)) (by rw [chs_length]) (by rw [chs_length]; exact hls2.1)
  obtain ⟨c, hc, rfl⟩ := mem_chs.mp hz
  rw [cut_from r0, cut_to r0, cut_from (show (0 : Int) ≤ m + 1 by omega), cut_to (show (0 : Int) ≤ m + 1 by omega)]
  refine ok_eq (adO_ok (by simp; omega)) (ok_eq g3 (ok_eq (mdO_ok (by omega)) (ok_eq ez (ok_eq (adO_ok (by simp; omega)) (ok_eq (adO_ok (by simp; omega)) (ok_eq (adO_ok (by omega)) ?_))))))
  refine ok_eq (loopO_all fun a ha => ?_) (go_ok ?_)
  · suffices h : Ok _ fun v => v = Ctl.nx () by
      obtain ⟨v, e, rfl⟩ := h; exact e
    have rt : TW (u.drop m.toNat ++ u.take m.toNat) := by
      refine ⟨fun e => ?_, by simp; omega, fun k hk => ?_⟩
      · have := congrArg List.length e
        simp at this; omega
      · rcases List.mem_append.mp hk with q | q
        · exact ulet k (List.mem_of_mem_drop q)
        · exact ulet k (List.mem_of_mem_take q)
    have A : TW a := by
      simp only [List.mem_cons, List.not_mem_nil, or_false] at ha
      rcases ha with h | h | h | h | h | h <;> subst h
      · exact rt
      · exact ⟨fun e => rt.ne (List.reverse_eq_nil_iff.mp e), by rw [List.length_reverse]; exact rt.len, fun k hk => rt.let_ k (List.mem_reverse.mp hk)⟩
      · refine ⟨by simp, by simp; omega, fun k hk => ?_⟩
        rcases List.mem_append.mp hk with q | q
        · rcases List.mem_append.mp q with q | q
          · exact ulet k (List.mem_of_mem_take q)
          · rw [List.mem_singleton.mp q]; exact hls2.2 c hc
        · exact ulet k (List.mem_of_mem_drop q)
      · exact U
      · refine ⟨fun e => ?_, by rw [List.length_take]; omega, fun k hk => ulet k (List.mem_of_mem_take hk)⟩
        have := congrArg List.length e
        rw [List.length_take, List.length_nil] at this
        omega
      · refine ⟨by simpa using U.ne, by rw [List.length_append]; omega, fun k hk => ?_⟩
        rcases List.mem_append.mp hk with q | q <;> exact ulet k q
    refine ok_eq (f_right U A) (ok_bind (Q := fun v => v = false) (ok_ite (fun z => by cases z) fun _ => ok_eq (f_right A U) (ok_some rfl)) fun v hv => ?_)
    subst hv
    exact ok_ite (fun z => by cases z) fun _ => ok_some rfl
  · obtain ⟨d4, _, g4⟩ := dat 4 (by decide) (by decide)
    obtain ⟨d5, _, g5⟩ := dat 5 (by decide) (by decide)
    obtain ⟨d6, _, g6⟩ := dat 6 (by decide) (by decide)
    refine ok_eq g4 (ok_eq g5 (ok_eq (f_nums ⟨by omega, by omega⟩ ⟨by omega, by omega⟩) ?_))
    refine ok_bind (Q := fun v => v = false) (ok_ite (fun z => by cases z) fun _ => ok_eq (f_nums ⟨by omega, by omega⟩ ⟨by omega, by omega⟩) (ok_some rfl)) fun v hv => ?_
    subst hv
    refine ok_ite (fun z => by cases z) fun _ => ?_
    obtain ⟨p, hp, ep⟩ := atI_mod (s := [((6 : Int), (2 : Int)), ((4 : Int), (3 : Int)), ((5 : Int), (2 : Int)), ((3 : Int), (4 : Int)), ((7 : Int), (1 : Int)), ((2 : Int), (9 : Int)), ((1 : Int), (10 : Int))]) (x := d6) (m := 7) rfl (by decide)
    refine ok_eq g6 (ok_eq ep (ok_eq (f_cnt (List.mem_append_left [((4 : Int), (2 : Int))] hp)) ?_))
    exact ok_ite (fun z => by cases z) fun _ => ok_some rfl
theorem law (ns : List Int) (hns : ns.length ≤ 63) : call gG T wW 20 25 [.list (ns.map .int)] = some (.d (.bool true)) := w_law 20 (by decide) ns true (f_law ns)

end K84

open PySem PySem.W PyProof.Rows
set_option maxHeartbeats 0 in
theorem PySem.Challenge.cw_wordmoot_k84_whole_wheels_turns_and_face_holds : PySem.Challenge.rw_wordmoot_k84_whole_wheels_turns_and_face.Holds := by
  w_on; o_law; k_head; (case hw => w_witness2)
  k_fill
  refine WM.walk_ofG (l := PySem.Challenge.rw_wordmoot_k84_whole_wheels_turns_and_face) (n := 63) (k := 2 * 20) (x := "script") (CX := fun _ => L2.CX0) rfl (by decide) rfl ⟨rfl, by decide, by decide⟩ (fun w h Y => PySem.W.kIn_of Y) ?F (fun _ _ _ _ _ h => h)
  case F =>
    intro w mg fa h KX G hmg tab
    refine WM.lawAt (l := PySem.Challenge.rw_wordmoot_k84_whole_wheels_turns_and_face) (i := 25) (d := K84.d25) (K84.TopK.top ?T) (K84.TopK.tabs ?T) ?Q rfl rfl ?NL (fun ns hl => K84.law ns hl) KX G hmg tab
    case NL => exact rfl
    case Q =>
      intro d hd hg
      simp only [K84.dS, List.mem_cons, List.not_mem_nil, or_false] at hd
      rcases hd with rfl | rfl | rfl | rfl | rfl | rfl | rfl | rfl | rfl | rfl | rfl | rfl | rfl | rfl | rfl | rfl | rfl | rfl | rfl | rfl | rfl | rfl | rfl | rfl | rfl | rfl
      · cases hg
      · cases hg
      · cases hg
      · cases hg
      · cases hg
      · cases hg
      · cases hg
      · cases hg
      · cases hg
      · rfl
      · cases hg
      · cases hg
      · cases hg
      · cases hg
      · cases hg
      · cases hg
      · cases hg
      · cases hg
      · cases hg
      · cases hg
      · cases hg
      · cases hg
      · cases hg
      · cases hg
      · cases hg
      · cases hg
    refine' ⟨?t0, ?t1, ?t2, ?t3, ?t4, ?t5, ?t6, ?t7, ?t8, ?t9, ?t10, ?t11, ?t12, ?t13, ?t14, ?t15, ?t16, ?t17, ?t18, ?t19, ?t20, ?t21, ?t22, ?t23, ?t24, ?t25, ?z0, ?z1, ?z2, ?z3, ?z4, ?z5, ?z6, ?z7, ?z8, ?z9, ?z10, ?z11, ?z12, ?gc, ?x9⟩
    case t0 => refine' ⟨_, _, WM.At.mk' ?a ?l ?c ?k⟩; (case a => k_is); (case l => k_is); (case c => k_is); (case k => k_is)
    case t1 => refine' ⟨_, _, WM.At.mk' ?a ?l ?c ?k⟩; (case a => k_is); (case l => k_is); (case c => k_is); (case k => k_is)
    case t2 => refine' ⟨_, _, WM.At.mk' ?a ?l ?c ?k⟩; (case a => k_is); (case l => k_is); (case c => k_is); (case k => k_is)
    case t3 => refine' ⟨_, _, WM.At.mk' ?a ?l ?c ?k⟩; (case a => k_is); (case l => k_is); (case c => k_is); (case k => k_is)
    case t4 => refine' ⟨_, _, WM.At.mk' ?a ?l ?c ?k⟩; (case a => k_is); (case l => k_is); (case c => k_is); (case k => k_is)
    case t5 => refine' ⟨_, _, WM.At.mk' ?a ?l ?c ?k⟩; (case a => k_is); (case l => k_is); (case c => k_is); (case k => k_is)
    case t6 => refine' ⟨_, _, WM.At.mk' ?a ?l ?c ?k⟩; (case a => k_is); (case l => k_is); (case c => k_is); (case k => k_is)
    case t7 => refine' ⟨_, _, WM.At.mk' ?a ?l ?c ?k⟩; (case a => k_is); (case l => k_is); (case c => k_is); (case k => k_is)
    case t8 => refine' ⟨_, _, WM.At.mk' ?a ?l ?c ?k⟩; (case a => k_is); (case l => k_is); (case c => k_is); (case k => k_is)
    case t9 => refine' ⟨_, _, WM.At.mk' ?a ?l ?c ?k⟩; (case a => k_is); (case l => k_is); (case c => k_is); (case k => k_is)
    case t10 => refine' ⟨_, _, WM.At.mk' ?a ?l ?c ?k⟩; (case a => k_is); (case l => k_is); (case c => k_is); (case k => k_is)
    case t11 => refine' ⟨_, _, WM.At.mk' ?a ?l ?c ?k⟩; (case a => k_is); (case l => k_is); (case c => k_is); (case k => k_is)
    case t12 => refine' ⟨_, _, WM.At.mk' ?a ?l ?c ?k⟩; (case a => k_is); (case l => k_is); (case c => k_is); (case k => k_is)
    case t13 => refine' ⟨_, _, WM.At.mk' ?a ?l ?c ?k⟩; (case a => k_is); (case l => k_is); (case c => k_is); (case k => k_is)
    case t14 => refine' ⟨_, _, WM.At.mk' ?a ?l ?c ?k⟩; (case a => k_is); (case l => k_is); (case c => k_is); (case k => k_is)
    case t15 => refine' ⟨_, _, WM.At.mk' ?a ?l ?c ?k⟩; (case a => k_is); (case l => k_is); (case c => k_is); (case k => k_is)
    case t16 => refine' ⟨_, _, WM.At.mk' ?a ?l ?c ?k⟩; (case a => k_is); (case l => k_is); (case c => k_is); (case k => k_is)
    case t17 => refine' ⟨_, _, WM.At.mk' ?a ?l ?c ?k⟩; (case a => k_is); (case l => k_is); (case c => k_is); (case k => k_is)
    case t18 => refine' ⟨_, _, WM.At.mk' ?a ?l ?c ?k⟩; (case a => k_is); (case l => k_is); (case c => k_is); (case k => k_is)
    case t19 => refine' ⟨_, _, WM.At.mk' ?a ?l ?c ?k⟩; (case a => k_is); (case l => k_is); (case c => k_is); (case k => k_is)
    case t20 => refine' ⟨_, _, WM.At.mk' ?a ?l ?c ?k⟩; (case a => k_is); (case l => k_is); (case c => k_is); (case k => k_is)
    case t21 => refine' ⟨_, _, WM.At.mk' ?a ?l ?c ?k⟩; (case a => k_is); (case l => k_is); (case c => k_is); (case k => k_is)
    case t22 => refine' ⟨_, _, WM.At.mk' ?a ?l ?c ?k⟩; (case a => k_is); (case l => k_is); (case c => k_is); (case k => k_is)
    case t23 => refine' ⟨_, _, WM.At.mk' ?a ?l ?c ?k⟩; (case a => k_is); (case l => k_is); (case c => k_is); (case k => k_is)
    case t24 => refine' ⟨_, _, WM.At.mk' ?a ?l ?c ?k⟩; (case a => k_is); (case l => k_is); (case c => k_is); (case k => k_is)
    case t25 => refine' ⟨_, _, WM.At.mk' ?a ?l ?c ?k⟩; (case a => k_is); (case l => k_is); (case c => k_is); (case k => k_is)
    case z0 => k_is
    case z1 => k_is
    case z2 => k_is
    case z3 => k_is
    case z4 => k_is
    case z5 => k_is
    case z6 => k_is
    case z7 => k_is
    case z8 => k_is
    case z9 => k_is
    case z10 => k_is
    case z11 => k_is
    case z12 => k_is
    case gc => k_is
    case x9 => refine' WM.tab_mk (st := K84.d9.st) ?ya ?yl ?yq ?yr ?yn; (case ya => k_is); (case yl => k_is); (case yq => k_is); (case yr => rfl); (case yn => kernel_rfl)
