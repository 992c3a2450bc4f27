import PyProof.Rows.All
import Wide.All
import OpenK.AllK
import Wide.FinOn
import HandS.ForMost
import HandS.Exc
import HandS.Star
import HandS.Conv
import HandS.Zip
import HandS.Gcd
import HandS.Flow
import HandS.IsInst
import HandS.EndBits
import HandS.TupAny
import HandS.TupMul
import KE.DataCmp
import KE.DataMinMax
import KE.DataAny
import KE.SortData
import HandS.ExcOwn
import HandS.WordsExc
import HandS.Style
import PyProof.ReprRoads
import HandS.Dict
import HandS.HeadHook2
import HandS.Codes
import PySem.Challenge.RW_trialways_k02_whole_trials_worlds_questi
set_option Elab.async false
set_option linter.all false
set_option maxRecDepth 100000
section STwA
/-! Part A: values over the abstract heap as plain data; what stands in the slots of a def. -/
namespace Tw
open PySem PySem.Spec PyProof.Rows L2

/-! ### plain data at a value; B: lists that may still change, which the value must not lead to -/
mutual
inductive Rp (K : PySem.W.Frag) (H : Hp) (B : Addr → Prop) : V → PyData → Prop
  | non : Rp K H B .non .none
  | bl (b : Bool) : Rp K H B (.bl b) (.bool b)
  | int (i : Int) : Rp K H B (.int i) (.int i)
  | str (x : Str) : Rp K H B (.str x) (.str x)
  | lst {a : Addr} {xs : List V} {ds : List PyData} : H a = some (.lst xs) → ¬ B a → Rps K H B xs ds → Rp K H B (.ref a) (.list ds)
  | tup {a : Addr} {xs : List V} {ds : List PyData} : SqT K H a xs → Rps K H B xs ds → Rp K H B (.ref a) (.tuple ds)
  | dct {a : Addr} : H a = some (.dK []) → Rp K H B (.ref a) (.dict [])
inductive Rps (K : PySem.W.Frag) (H : Hp) (B : Addr → Prop) : List V → List PyData → Prop
  | nil : Rps K H B [] []
  | cons {v : V} {vs : List V} {d : PyData} {ds : List PyData} : Rp K H B v d → Rps K H B vs ds → Rps K H B (v :: vs) (d :: ds)
end

/-- only lists at P may change, and they stay lists -/
structure Keep (P : Addr → Prop) (H H' : Hp) : Prop where
  same : ∀ a o, H a = some o → (¬ P a ∨ ∀ xs, o ≠ .lst xs) → H' a = some o
  lst : ∀ a xs, H a = some (.lst xs) → ∃ ys, H' a = some (.lst ys)

section
variable {P P' B B' : Addr → Prop} {H H1 H' : Hp} {K : PySem.W.Frag}
theorem Keep.refl : Keep P H H := ⟨fun _ _ e _ => e, fun _ xs e => ⟨xs, e⟩⟩
theorem Keep.ofSame (h : ∀ a o, H a = some o → H' a = some o) : Keep P H H' := ⟨fun a o e _ => h a o e, fun a xs e => ⟨xs, h a _ e⟩⟩
theorem Keep.upd {p : Addr} {o : HO} (h : H p = none) : Keep P H (upd H p o) := .ofSame fun a u e => by
  rw [upd_ne (ne_of_none e h)]; exact e
theorem Keep.all (k : Keep (fun _ => False) H H1) : ∀ a o, H a = some o → H1 a = some o := fun a o e => k.same a o e (.inl id)
theorem Keep.mono (k : Keep P H H') (h : ∀ a, P a → P' a) : Keep P' H H' :=
  ⟨fun a o e z => k.same a o e (z.elim (fun n => .inl fun q => n (h a q)) .inr), k.lst⟩
/-- changes that are new, or let -/
theorem Keep.trans (k : Keep P H H1) (k2 : Keep P' H1 H') (h : ∀ a, P' a → P a ∨ H a = none) : Keep P H H' := by
  refine ⟨fun a o e z => ?_, fun a xs e => ?_⟩
  · refine k2.same a o (k.same a o e z) ?_
    rcases z with z | z
    · refine .inl fun q => ?_
      rcases h a q with r | r
      · exact z r
      · rw [r] at e; cases e
    · exact .inr z
  · obtain ⟨ys, e1⟩ := k.lst a xs e
    exact k2.lst a ys e1
theorem Keep.there (k : Keep P H H') {a : Addr} {o : HO} (e : H a = some o) : ∃ o', H' a = some o' := by
  cases o with
  | lst xs => obtain ⟨ys, q⟩ := k.lst a xs e; exact ⟨_, q⟩
  | _ => exact ⟨_, k.same a _ e (.inr fun xs z => by cases z)⟩
theorem Keep.new (k : Keep P H H') {a : Addr} (e : H' a = none) : H a = none := by
  cases q : H a with
  | none => rfl
  | some o => obtain ⟨o', z⟩ := k.there q; rw [e] at z; cases z
theorem Keep.setLst {p : Addr} {xs ys : List V} (hp : P p) (h : H p = some (.lst xs)) : Keep P H (L2.upd H p (.lst ys)) := by
  refine ⟨fun a o e z => ?_, fun a zs e => ?_⟩
  · have n : a ≠ p := by
      rintro rfl
      rw [h] at e; cases e
      rcases z with z | z
      · exact z hp
      · exact z _ rfl
    rw [upd_ne n]; exact e
  · by_cases n : a = p
    · subst n; exact ⟨ys, upd_same⟩
    · exact ⟨zs, by rw [upd_ne n]; exact e⟩

theorem SqT.keep {a : Addr} {xs : List V} (k : Keep P H H') (h : SqT K H a xs) : SqT K H' a xs := by
  rcases h with (h | ⟨o, h⟩) | h
  · exact .inl (.inl (k.same _ _ h (.inr fun _ z => by cases z)))
  · exact .inl (.inr ⟨o, k.same _ _ h (.inr fun _ z => by cases z)⟩)
  · exact .inr h

mutual
theorem Rp.move (k : Keep P H H') (h1 : ∀ a, P a → B a) (h2 : ∀ a, B' a → B a ∨ H a = none) : ∀ {v : V} {d : PyData}, Rp K H B v d → Rp K H' B' v d
  | _, _, .non => .non
  | _, _, .bl b => .bl b
  | _, _, .int i => .int i
  | _, _, .str x => .str x
  | _, _, .lst (a := a) r n s => by
    refine .lst (k.same _ _ r (.inl fun q => n (h1 a q))) ?_ (Rps.move k h1 h2 s)
    intro q
    rcases h2 a q with z | z
    · exact n z
    · rw [z] at r; cases r
  | _, _, .tup r s => .tup (SqT.keep k r) (Rps.move k h1 h2 s)
  | _, _, .dct h => .dct (k.same _ _ h (.inr fun _ z => by cases z))
theorem Rps.move (k : Keep P H H') (h1 : ∀ a, P a → B a) (h2 : ∀ a, B' a → B a ∨ H a = none) : ∀ {vs : List V} {ds : List PyData}, Rps K H B vs ds → Rps K H' B' vs ds
  | _, _, .nil => .nil
  | _, _, .cons r s => .cons (Rp.move k h1 h2 r) (Rps.move k h1 h2 s)
end
theorem Rp.weak {v : V} {d : PyData} (r : Rp K H B v d) (h : ∀ a, B' a → B a) : Rp K H B' v d := Rp.move (P := fun _ => False) .refl (fun _ z => z.elim) (fun a q => .inl (h a q)) r
theorem Rps.weak {vs : List V} {ds : List PyData} (r : Rps K H B vs ds) (h : ∀ a, B' a → B a) : Rps K H B' vs ds := Rps.move (P := fun _ => False) .refl (fun _ z => z.elim) (fun a q => .inl (h a q)) r
theorem Rp.grow {v : V} {d : PyData} (r : Rp K H B v d) (h : ∀ a o, H a = some o → H' a = some o) : Rp K H' B v d := Rp.move (P := fun _ => False) (.ofSame h) (fun _ z => z.elim) (fun a q => .inl q) r
theorem Rps.grow {vs : List V} {ds : List PyData} (r : Rps K H B vs ds) (h : ∀ a o, H a = some o → H' a = some o) : Rps K H' B vs ds := Rps.move (P := fun _ => False) (.ofSame h) (fun _ z => z.elim) (fun a q => .inl q) r

theorem Rps.length : ∀ {vs : List V} {ds : List PyData}, Rps K H B vs ds → vs.length = ds.length
  | _, _, .nil => rfl
  | _, _, .cons _ s => by rw [List.length_cons, List.length_cons, Rps.length s]
theorem Rps.get : ∀ {vs : List V} {ds : List PyData} {i : Nat} {d : PyData}, Rps K H B vs ds → ds[i]? = some d → ∃ v, vs[i]? = some v ∧ Rp K H B v d
  | _, _, _, _, .nil, e => by simp at e
  | _, _, 0, _, .cons r _, e => by simp at e; subst e; exact ⟨_, rfl, r⟩
  | _, _, i + 1, d, .cons _ s, e => by
    obtain ⟨v, h1, h2⟩ := Rps.get (i := i) (d := d) s (by simpa using e)
    exact ⟨v, by simpa using h1, h2⟩
theorem Rps.at : ∀ {vs : List V} {ds : List PyData} {i : Nat} {v : V}, Rps K H B vs ds → vs[i]? = some v → ∃ d, ds[i]? = some d ∧ Rp K H B v d
  | _, _, _, _, .nil, e => by simp at e
  | _, _, 0, _, .cons r _, e => by simp at e; subst e; exact ⟨_, rfl, r⟩
  | _, _, i + 1, v, .cons _ s, e => by
    obtain ⟨d, h1, h2⟩ := Rps.at (i := i) (v := v) s (by simpa using e)
    exact ⟨d, by simpa using h1, h2⟩
theorem Rps.append : ∀ {vs ws : List V} {ds es : List PyData}, Rps K H B vs ds → Rps K H B ws es → Rps K H B (vs ++ ws) (ds ++ es)
  | _, _, _, _, .nil, q => q
  | _, _, _, _, .cons r s, q => .cons r (Rps.append s q)
theorem Rps.take : ∀ {vs : List V} {ds : List PyData} (n : Nat), Rps K H B vs ds → Rps K H B (vs.take n) (ds.take n)
  | _, _, 0, _ => .nil
  | _, _, _ + 1, .nil => .nil
  | _, _, n + 1, .cons r s => .cons r (Rps.take n s)
theorem Rps.drop : ∀ {vs : List V} {ds : List PyData} (n : Nat), Rps K H B vs ds → Rps K H B (vs.drop n) (ds.drop n)
  | _, _, 0, r => r
  | _, _, _ + 1, .nil => .nil
  | _, _, n + 1, .cons _ s => Rps.drop n s
theorem Rps.set {x : V} {d : PyData} (q : Rp K H B x d) : ∀ {vs : List V} {ds : List PyData} (i : Nat), Rps K H B vs ds → Rps K H B (vs.set i x) (ds.set i d)
  | _, _, _, .nil => .nil
  | _, _, 0, .cons _ s => .cons q s
  | _, _, i + 1, .cons r s => .cons r (Rps.set q i s)
theorem Rps.reverse {vs : List V} {ds : List PyData} (r : Rps K H B vs ds) : Rps K H B vs.reverse ds.reverse := by
  induction vs generalizing ds with
  | nil => cases r; exact .nil
  | cons v vs ih =>
    cases r with
    | cons r s =>
      rw [List.reverse_cons, List.reverse_cons]
      exact (ih s).append (.cons r .nil)
theorem Rps.one {v : V} {d : PyData} (r : Rp K H B v d) : Rps K H B [v] [d] := .cons r .nil
theorem Rps.eraseIdx : ∀ {vs : List V} {ds : List PyData} (i : Nat), Rps K H B vs ds → Rps K H B (vs.eraseIdx i) (ds.eraseIdx i)
  | _, _, _, .nil => .nil
  | _, _, 0, .cons _ s => s
  | _, _, i + 1, .cons r s => .cons r (Rps.eraseIdx i s)
theorem Rps.rep {vs : List V} {ds : List PyData} (r : Rps K H B vs ds) : ∀ n : Nat, Rps K H B (List.replicate n vs).flatten (List.replicate n ds).flatten
  | 0 => .nil
  | n + 1 => by
    rw [List.replicate_succ, List.replicate_succ, List.flatten_cons, List.flatten_cons]
    exact r.append (Rps.rep r n)
theorem Rps.ints : ∀ ns : List Int, Rps K H B (ns.map V.int) (ns.map PyData.int)
  | [] => .nil
  | n :: r => .cons (.int n) (Rps.ints r)
end

/-! ### slots -/
abbrev St := List (Option V)
/-- what a slot holds: data; a list of one's own that may change; one that is lent (read alone); one that a caller lets change -/
inductive SV where
  | frz (d : PyData)
  | own (ds : List PyData)
  | lent (ds : List PyData)
  | io (ds : List PyData)
  /-- the script -/
  | scr (ds : List PyData)
abbrev EV := List (Option SV)
def SV.items : SV → Option (List PyData)
  | .frz _ | .scr _ => none
  | .own ds | .lent ds | .io ds => some ds
def SV.isMut : SV → Bool
  | .own _ | .io _ => true
  | _ => false
def SV.isOwn : SV → Bool
  | .own _ => true
  | _ => false
/-- the addresses of slots that pass a test -/
def AtS (p : SV → Bool) (env : EV) (σ : St) (a : Addr) : Prop := ∃ (i : Nat) (s : SV), env[i]? = some (some s) ∧ p s = true ∧ σ[i]? = some (some (V.ref a))
abbrev Mt (env : EV) (σ : St) : Addr → Prop := AtS SV.isMut env σ
def SV.isLs (s : SV) : Bool := s.items.isSome
/-- what data must not lead to: A, and all lists in slots -/
def Av (A : Addr → Prop) (env : EV) (σ : St) (a : Addr) : Prop := A a ∨ AtS SV.isLs env σ a
/-- a list that nobody changes: locked, or an object of the module -/
def SqF (K : PySem.W.Frag) (H : Hp) (a : Addr) (xs : List V) : Prop :=
  (∃ o, H a = some (.frz o (.lst xs))) ∨ SqL K (fun _ => none) a xs
theorem SqF.sql {K : PySem.W.Frag} {H : Hp} {a : Addr} {xs : List V} (h : SqF K H a xs) : SqL K H a xs := by
  rcases h with h | (h | ⟨o, h⟩) | h
  · exact .inl (.inr h)
  · cases h
  · cases h
  · exact .inr h
theorem SqF.keep {K : PySem.W.Frag} {P : Addr → Prop} {H H' : Hp} {a : Addr} {xs : List V} (k : Keep P H H') (h : SqF K H a xs) : SqF K H' a xs := by
  rcases h with ⟨o, h⟩ | h
  · exact .inl ⟨o, k.same _ _ h (.inr fun _ z => by cases z)⟩
  · exact .inr h
def SlotOk (K : PySem.W.Frag) (H : Hp) (B : Addr → Prop) (v : V) : SV → Prop
  | .frz d => Rp K H B v d
  | .own ds | .lent ds | .io ds => ∃ a xs, v = .ref a ∧ H a = some (.lst xs) ∧ Rps K H B xs ds
  | .scr ds => ∃ a xs, v = .ref a ∧ SqF K H a xs ∧ Rps K H B xs ds
/-- the slots' values stand for these -/
structure Den (K : PySem.W.Frag) (A : Addr → Prop) (env : EV) (σ : St) (H : Hp) : Prop where
  len : env.length = σ.length
  slot : ∀ (i : Nat) (s : SV), env[i]? = some (some s) → ∃ v, σ[i]? = some (some v) ∧ SlotOk K H (Av A env σ) v s
  inj : ∀ (i j : Nat) (s t : SV) (a : Addr), env[i]? = some (some s) → env[j]? = some (some t) → s.isLs = true → t.isLs = true → σ[i]? = some (some (V.ref a)) → σ[j]? = some (some (V.ref a)) → i = j
  amb : ∀ a, A a → ∃ xs, H a = some (.lst xs)
  dis : ∀ a, AtS SV.isOwn env σ a → ¬ A a
theorem SV.ls_of_mut {s : SV} (h : s.isMut = true) : s.isLs = true := by cases s <;> first | rfl | cases h
theorem SV.mut_of_own {s : SV} (h : s.isOwn = true) : s.isMut = true := by cases s <;> first | rfl | cases h
theorem AtS.mono {p q : SV → Bool} (h : ∀ s, p s = true → q s = true) {env : EV} {σ : St} {a : Addr} : AtS p env σ a → AtS q env σ a := fun ⟨i, s, e, z, r⟩ => ⟨i, s, e, h s z, r⟩
theorem Mt.av {A : Addr → Prop} {env : EV} {σ : St} {a : Addr} (h : Mt env σ a) : Av A env σ a := .inr (h.mono fun _ => SV.ls_of_mut)
section
variable {K : PySem.W.Frag} {A : Addr → Prop} {env env' : EV} {σ : St} {H H' : Hp}
theorem SlotOk.ls {B : Addr → Prop} {v : V} {s : SV} (h : SlotOk K H B v s) (l : s.isLs = true) : ∃ a xs ds, v = .ref a ∧ H a = some (.lst xs) ∧ s.items = some ds ∧ Rps K H B xs ds := by
  cases s with
  | frz d => cases l
  | scr d => cases l
  | own ds => obtain ⟨a, xs, e, h, r⟩ := h; exact ⟨a, xs, ds, e, h, rfl, r⟩
  | lent ds => obtain ⟨a, xs, e, h, r⟩ := h; exact ⟨a, xs, ds, e, h, rfl, r⟩
  | io ds => obtain ⟨a, xs, e, h, r⟩ := h; exact ⟨a, xs, ds, e, h, rfl, r⟩
theorem SlotOk.mk {B : Addr → Prop} {s : SV} {a : Addr} {xs : List V} {ds : List PyData} (l : s.items = some ds) (h : H a = some (.lst xs)) (r : Rps K H B xs ds) : SlotOk K H B (.ref a) s := by
  cases s with
  | frz d => cases l
  | scr d => cases l
  | own es => cases l; exact ⟨a, xs, rfl, h, r⟩
  | lent es => cases l; exact ⟨a, xs, rfl, h, r⟩
  | io es => cases l; exact ⟨a, xs, rfl, h, r⟩
/-- the list in a slot -/
theorem Den.list (D : Den K A env σ H) {i : Nat} {s : SV} {ds : List PyData} (e : env[i]? = some (some s)) (l : s.items = some ds) :
    ∃ a xs, σ[i]? = some (some (V.ref a)) ∧ H a = some (.lst xs) ∧ Rps K H (Av A env σ) xs ds := by
  obtain ⟨v, hv, h⟩ := D.slot i s e
  obtain ⟨a, xs, es, rfl, ha, l2, r⟩ := h.ls (by rw [SV.isLs, l]; rfl)
  rw [l] at l2; cases l2
  exact ⟨a, xs, hv, ha, r⟩
theorem Den.tracked (D : Den K A env σ H) {a : Addr} (h : Av A env σ a) : ∃ xs, H a = some (.lst xs) := by
  rcases h with h | ⟨i, s, e, l, r⟩
  · exact D.amb a h
  · obtain ⟨v, hv, q⟩ := D.slot i s e
    obtain ⟨b, xs, ds, rfl, hb, _, _⟩ := q.ls l
    rw [r] at hv; cases hv
    exact ⟨xs, hb⟩
theorem Den.fresh (D : Den K A env σ H) {a : Addr} (h : H a = none) : ¬ Av A env σ a := fun q => by
  obtain ⟨xs, e⟩ := D.tracked q
  rw [h] at e; cases e
/-- slots behind changes that are not theirs -/
theorem SlotOk.move {P B B' : Addr → Prop} {v : V} {s : SV} (k : Keep P H H') (h1 : ∀ a, P a → B a) (h2 : ∀ a, B' a → B a ∨ H a = none) (hs : s.isLs = true → ∀ a, v = .ref a → ¬ P a) (q : SlotOk K H B v s) : SlotOk K H' B' v s := by
  cases s with
  | frz d => exact Rp.move k h1 h2 q
  | own ds => obtain ⟨a, xs, e, ha, r⟩ := q; exact ⟨a, xs, e, k.same _ _ ha (.inl (hs rfl a e)), Rps.move k h1 h2 r⟩
  | lent ds => obtain ⟨a, xs, e, ha, r⟩ := q; exact ⟨a, xs, e, k.same _ _ ha (.inl (hs rfl a e)), Rps.move k h1 h2 r⟩
  | io ds => obtain ⟨a, xs, e, ha, r⟩ := q; exact ⟨a, xs, e, k.same _ _ ha (.inl (hs rfl a e)), Rps.move k h1 h2 r⟩
  | scr ds => obtain ⟨a, xs, e, ha, r⟩ := q; exact ⟨a, xs, e, SqF.keep k ha, Rps.move k h1 h2 r⟩
theorem SlotOk.weak {B B' : Addr → Prop} {v : V} {s : SV} (q : SlotOk K H B v s) (h : ∀ a, B' a → B a) : SlotOk K H B' v s :=
  SlotOk.move (P := fun _ => False) .refl (fun _ z => z.elim) (fun a z => .inl (h a z)) (fun _ _ _ z => z) q
theorem Den.grow (D : Den K A env σ H) (h : ∀ a o, H a = some o → H' a = some o) : Den K A env σ H' := by
  refine ⟨D.len, fun i s e => ?_, D.inj, fun a q => ?_, D.dis⟩
  · obtain ⟨v, hv, q⟩ := D.slot i s e
    exact ⟨v, hv, SlotOk.move (P := fun _ => False) (.ofSame h) (fun _ z => z.elim) (fun a z => .inl z) (fun _ _ _ z => z) q⟩
  · obtain ⟨xs, e⟩ := D.amb a q
    exact ⟨xs, h _ _ e⟩
theorem Den.upd (D : Den K A env σ H) {p : Addr} {o : HO} (hp : H p = none) : Den K A env σ (L2.upd H p o) := D.grow fun a u e => by
  rw [upd_ne (ne_of_none e hp)]; exact e
/-- more that data does not lead to: a new list -/
theorem Den.amb1 (D : Den K A env σ H) {p : Addr} {xs : List V} (hp : H p = none) : Den K (fun a => A a ∨ a = p) env σ (L2.upd H p (.lst xs)) := by
  have D2 := D.upd (o := .lst xs) hp
  refine ⟨D.len, fun i s e => ?_, D.inj, fun a q => ?_, fun a q z => ?_⟩
  · have hb : ∀ a, Av (fun a => A a ∨ a = p) env σ a → Av A env σ a ∨ H a = none := fun a q => by
      rcases q with (q | q) | q
      · exact .inl (.inl q)
      · exact .inr (by rw [q]; exact hp)
      · exact .inl (.inr q)
    have k : Keep (fun _ => False) H (L2.upd H p (.lst xs)) := .upd hp
    obtain ⟨v, hv, q⟩ := D.slot i s e
    exact ⟨v, hv, SlotOk.move k (fun _ z => z.elim) hb (fun _ _ _ z => z) q⟩
  · rcases q with q | rfl
    · exact D2.amb a q
    · exact ⟨xs, upd_same⟩
  · rcases z with z | rfl
    · exact D.dis a q z
    · exact D.fresh hp (.inr (q.mono fun _ h => SV.ls_of_mut (SV.mut_of_own h)))
end
end Tw
end STwA

section STwB
/-! Part B: meanings of expressions over slots, and that the model's run has them. -/
namespace Tw
open PySem PySem.Spec PyProof.Rows L2

/-! ### how slots may turn within an expression -/
inductive Tr : SV → SV → Prop
  | frz (d) : Tr (.frz d) (.frz d)
  | own (ds es) : Tr (.own ds) (.own es)
  | off (ds d) : Tr (.own ds) (.frz d)
  | lent (ds) : Tr (.lent ds) (.lent ds)
  | io (ds es) : Tr (.io ds) (.io es)
  | scr (ds) : Tr (.scr ds) (.scr ds)
theorem Tr.refl : ∀ s, Tr s s
  | .frz d => .frz d
  | .own ds => .own ds ds
  | .lent ds => .lent ds
  | .io ds => .io ds ds
  | .scr ds => .scr ds
theorem Tr.trans {a b c : SV} (h : Tr a b) (g : Tr b c) : Tr a c := by cases h <;> cases g <;> constructor
structure Sub (env' env : EV) : Prop where
  len : env'.length = env.length
  back : ∀ (i : Nat) (s : SV), env'[i]? = some (some s) → ∃ t, env[i]? = some (some t) ∧ Tr t s
theorem Sub.refl {env : EV} : Sub env env := ⟨rfl, fun _ s e => ⟨s, e, .refl s⟩⟩
theorem Sub.trans {a b c : EV} (h : Sub a b) (g : Sub b c) : Sub a c := ⟨h.len.trans g.len, fun i s e => by
  obtain ⟨t, e1, r1⟩ := h.back i s e
  obtain ⟨u, e2, r2⟩ := g.back i t e1
  exact ⟨u, e2, r2.trans r1⟩⟩
theorem Sub.at {p : SV → Bool} (hp : ∀ s t, Tr t s → p s = true → p t = true) {env' env : EV} {σ : St} {a : Addr} (h : Sub env' env) : AtS p env' σ a → AtS p env σ a := fun ⟨i, s, e, z, r⟩ => by
  obtain ⟨t, e1, q⟩ := h.back i s e
  exact ⟨i, t, e1, hp s t q z, r⟩
theorem Sub.mt {env' env : EV} {σ : St} {a : Addr} (h : Sub env' env) : Mt env' σ a → Mt env σ a := h.at fun s t q z => by cases q <;> first | rfl | cases z
theorem Sub.ls {env' env : EV} {σ : St} {a : Addr} (h : Sub env' env) : AtS SV.isLs env' σ a → AtS SV.isLs env σ a := h.at fun s t q z => by cases q <;> first | rfl | cases z
theorem Sub.av {A : Addr → Prop} {env' env : EV} {σ : St} {a : Addr} (h : Sub env' env) : Av A env' σ a → Av A env σ a := fun q => q.elim .inl fun z => .inr (h.ls z)
structure Post (K : PySem.W.Frag) (A : Addr → Prop) (env : EV) (σ : St) (H : Hp) (env' : EV) (H' : Hp) : Prop where
  keep : Keep (Mt env σ) H H'
  den : Den K A env' σ H'
  sub : Sub env' env
section
variable {K : PySem.W.Frag} {A : Addr → Prop} {env env1 env2 : EV} {σ : St} {H H1 H2 H' : Hp}
theorem Den.post (D : Den K A env σ H) : Post K A env σ H env H := ⟨.refl, D, .refl⟩
theorem Post.trans (p : Post K A env σ H env1 H1) (q : Post K A env1 σ H1 env2 H2) : Post K A env σ H env2 H2 :=
  ⟨p.keep.trans q.keep fun a z => .inl (p.sub.mt z), q.den, q.sub.trans p.sub⟩
theorem Post.grow (p : Post K A env σ H env1 H1) (h : ∀ a o, H1 a = some o → H' a = some o) : Post K A env σ H env1 H' :=
  ⟨p.keep.trans (P' := fun _ => False) (.ofSame h) fun _ z => z.elim, p.den.grow h, p.sub⟩
theorem Post.rp (q : Post K A env1 σ H1 env2 H2) {v : V} {d : PyData} (r : Rp K H1 (Av A env1 σ) v d) : Rp K H2 (Av A env2 σ) v d :=
  Rp.move q.keep (fun _ z => z.av) (fun _ z => .inl (q.sub.av z)) r
theorem Post.rps (q : Post K A env1 σ H1 env2 H2) {v : List V} {d : List PyData} (r : Rps K H1 (Av A env1 σ) v d) : Rps K H2 (Av A env2 σ) v d :=
  Rps.move q.keep (fun _ z => z.av) (fun _ z => .inl (q.sub.av z)) r
end

/-! ### results, operands -/
def SV.data : SV → PyData
  | .frz d => d
  | .own ds | .lent ds | .io ds | .scr ds => .list ds
def SV.freeze : SV → Option PyData
  | .frz d => some d
  | .own ds => some (.list ds)
  | _ => none
/-- a result: data, or a new list of one's own -/
def Rr (K : PySem.W.Frag) (H H' : Hp) (B : Addr → Prop) (v : V) : SV → Prop
  | .frz d => Rp K H' B v d
  | .own ds => ∃ a xs, v = .ref a ∧ H a = none ∧ H' a = some (.lst xs) ∧ ¬ B a ∧ Rps K H' (fun b => B b ∨ b = a) xs ds
  | _ => False
/-- data that is read at once: it may be a list in a slot; st: not the script -/
def Ro (st : Bool) (K : PySem.W.Frag) (H : Hp) (B : Addr → Prop) (v : V) : PyData → Prop
  | .list ds => ∃ a xs, v = .ref a ∧ SqL K H a xs ∧ (st = true → H a = some (.lst xs)) ∧ Rps K H B xs ds
  | d => Rp K H B v d
inductive Opd where
  | slot (i : Nat)
  | dat (d : PyData)
def SV.isScr : SV → Bool
  | .scr _ => true
  | _ => false
def rd (st : Bool) (env : EV) : Opd → Option PyData
  | .slot i => match env[i]? with
    | some (some s) => if st && s.isScr then none else some s.data
    | _ => none
  | .dat d => some d
def rds (st : Bool) (env : EV) : List Opd → Option (List PyData)
  | [] => some []
  | o :: r => (rd st env o).bind fun d => (rds st env r).bind fun ds => some (d :: ds)
def RoS (K : PySem.W.Frag) (H : Hp) (B : Addr → Prop) (σ : St) (v : V) : Opd → Prop
  | .slot i => σ[i]? = some (some v)
  | .dat d => Rp K H B v d
inductive RoSs (K : PySem.W.Frag) (H : Hp) (B : Addr → Prop) (σ : St) : List V → List Opd → Prop
  | nil : RoSs K H B σ [] []
  | cons {v : V} {vs : List V} {o : Opd} {os : List Opd} : RoS K H B σ v o → RoSs K H B σ vs os → RoSs K H B σ (v :: vs) (o :: os)
inductive Ros (st : Bool) (K : PySem.W.Frag) (H : Hp) (B : Addr → Prop) : List V → List PyData → Prop
  | nil : Ros st K H B [] []
  | cons {v : V} {vs : List V} {d : PyData} {ds : List PyData} : Ro st K H B v d → Ros st K H B vs ds → Ros st K H B (v :: vs) (d :: ds)
section
variable {st : Bool} {K : PySem.W.Frag} {A B B' : Addr → Prop} {env env1 env2 : EV} {σ : St} {H H1 H2 H' : Hp} {v : V} {s : SV} {d : PyData} {o : Opd}
theorem Ro.ofRp (r : Rp K H B v d) : Ro st K H B v d := by
  cases r with
  | lst q n s => exact ⟨_, _, rfl, .of q, fun _ => q, s⟩
  | non => exact .non
  | bl b => exact .bl b
  | int i => exact .int i
  | str x => exact .str x
  | tup q s => exact .tup q s
  | dct q => exact .dct q
theorem Rr.freeze (r : Rr K H H' B v s) (e : s.freeze = some d) : Rp K H' B v d := by
  cases s with
  | frz c => cases e; exact r
  | own ds =>
    cases e
    obtain ⟨a, xs, rfl, _, h, n, q⟩ := r
    exact .lst h n (q.weak fun _ z => .inl z)
  | lent ds => cases e
  | io ds => cases e
  | scr ds => cases e
/-- a new list -/
theorem Rps.newIn {p : Addr} {o : HO} {xs : List V} {ds : List PyData} (r : Rps K H B xs ds) (hp : H p = none) : Rps K (upd H p o) (fun b => B b ∨ b = p) xs ds :=
  Rps.move (P := fun _ => False) (.upd hp) (fun _ z => z.elim) (fun a q => q.elim .inl fun e => .inr (by rw [e]; exact hp)) r
theorem Rr.back {H0 : Hp} (r : Rr K H1 H' B v s) (h : ∀ a, H1 a = none → H0 a = none) : Rr K H0 H' B v s := by
  cases s with
  | frz c => exact r
  | own ds => obtain ⟨a, xs, e, n, q⟩ := r; exact ⟨a, xs, e, h a n, q⟩
  | lent ds => exact r
  | io ds => exact r
  | scr ds => exact r
theorem SlotOk.ro (r : SlotOk K H B v s) (h : ¬ (st && s.isScr) = true) : Ro st K H B v s.data := by
  cases s with
  | frz c => exact .ofRp r
  | own ds => obtain ⟨a, xs, e, h, q⟩ := r; exact ⟨a, xs, e, .of h, fun _ => h, q⟩
  | lent ds => obtain ⟨a, xs, e, h, q⟩ := r; exact ⟨a, xs, e, .of h, fun _ => h, q⟩
  | io ds => obtain ⟨a, xs, e, h, q⟩ := r; exact ⟨a, xs, e, .of h, fun _ => h, q⟩
  | scr ds =>
    obtain ⟨a, xs, e, hf, q⟩ := r
    refine ⟨a, xs, e, hf.sql, fun z => ?_, q⟩
    exact absurd (by rw [z]; rfl) h
theorem RoS.post (q : Post K A env1 σ H1 env2 H2) (r : RoS K H1 (Av A env1 σ) σ v o) : RoS K H2 (Av A env2 σ) σ v o := by
  cases o with
  | slot i => exact r
  | dat d => exact q.rp r
theorem RoS.read (D : Den K A env σ H) (r : RoS K H (Av A env σ) σ v o) (e : rd st env o = some d) : Ro st K H (Av A env σ) v d := by
  cases o with
  | dat c => cases e; exact .ofRp r
  | slot i =>
    simp only [rd] at e
    split at e
    · rename_i s hs
      split at e
      · cases e
      · rename_i hz
        cases e
        obtain ⟨u, hu, q⟩ := D.slot i s hs
        have r' : σ[i]? = some (some v) := r
        rw [r'] at hu; cases hu
        exact q.ro hz
    · cases e
theorem RoSs.post (q : Post K A env1 σ H1 env2 H2) : ∀ {vs : List V} {os : List Opd}, RoSs K H1 (Av A env1 σ) σ vs os → RoSs K H2 (Av A env2 σ) σ vs os
  | _, _, .nil => .nil
  | _, _, .cons r s => .cons (r.post q) (RoSs.post q s)
theorem RoSs.read (D : Den K A env σ H) : ∀ {vs : List V} {os : List Opd} {ds : List PyData}, RoSs K H (Av A env σ) σ vs os → rds st env os = some ds → Ros st K H (Av A env σ) vs ds
  | _, _, _, .nil, e => by cases e; exact .nil
  | _, _, _, .cons r s, e => by
    obtain ⟨d, h1, e⟩ := Option.bind_eq_some_iff.mp e
    obtain ⟨ds, h2, e⟩ := Option.bind_eq_some_iff.mp e
    cases e
    exact .cons (r.read D h1) (RoSs.read D s h2)
end

/-! ### results: a new list is nowhere in the slots -/
def Rv (K : PySem.W.Frag) (A : Addr → Prop) (env : EV) (σ : St) (H H' : Hp) (v : V) : SV → Prop
  | .frz d => Rp K H' (Av A env σ) v d
  | .own ds => ∃ a xs, v = .ref a ∧ H a = none ∧ H' a = some (.lst xs) ∧ ¬ Av A env σ a ∧ Den K (fun b => A b ∨ b = a) env σ H' ∧ Rps K H' (fun b => Av A env σ b ∨ b = a) xs ds
  | _ => False
section
variable {K : PySem.W.Frag} {A : Addr → Prop} {env env1 env2 : EV} {σ : St} {H H0 H1 H2 H' : Hp} {v : V} {s : SV} {d : PyData}
/-- slots that stood before a list came lead nowhere into it -/
theorem Den.late (D : Den K A env σ H) {a : Addr} {xs : List V} (n : H a = none) (g : ∀ b o, H b = some o → H' b = some o) (h : H' a = some (.lst xs)) : Den K (fun b => A b ∨ b = a) env σ H' := by
  refine ⟨D.len, fun i s e => ?_, D.inj, fun b q => ?_, fun b q z => ?_⟩
  · obtain ⟨v, hv, q⟩ := D.slot i s e
    refine ⟨v, hv, SlotOk.move (P := fun _ => False) (.ofSame g) (fun _ z => z.elim) (fun b z => ?_) (fun _ _ _ z => z) q⟩
    rcases z with (z | z) | z
    · exact .inl (.inl z)
    · exact .inr (by rw [z]; exact n)
    · exact .inl (.inr z)
  · rcases q with q | rfl
    · obtain ⟨ys, e⟩ := D.amb b q; exact ⟨ys, g _ _ e⟩
    · exact ⟨xs, h⟩
  · rcases z with z | rfl
    · exact D.dis b q z
    · exact D.fresh n (.inr (q.mono fun _ h => SV.ls_of_mut (SV.mut_of_own h)))
theorem Rv.ofRr (D : Den K A env σ H1) (g : ∀ b o, H1 b = some o → H' b = some o) (r : Rr K H1 H' (Av A env σ) v s) : Rv K A env σ H1 H' v s := by
  cases s with
  | frz c => exact r
  | own ds => obtain ⟨a, xs, e, n, h, nb, q⟩ := r; exact ⟨a, xs, e, n, h, nb, D.late n g h, q⟩
  | lent ds => exact r
  | io ds => exact r
  | scr ds => exact r
theorem Rv.freeze (r : Rv K A env σ H H' v s) (e : s.freeze = some d) : Rp K H' (Av A env σ) v d := by
  cases s with
  | frz c => cases e; exact r
  | own ds =>
    cases e
    obtain ⟨a, xs, rfl, _, h, n, _, q⟩ := r
    exact .lst h n (q.weak fun _ z => .inl z)
  | lent ds => cases e
  | io ds => cases e
  | scr ds => cases e
theorem Rv.back (r : Rv K A env σ H1 H' v s) (h : ∀ a, H1 a = none → H0 a = none) : Rv K A env σ H0 H' v s := by
  cases s with
  | frz c => exact r
  | own ds => obtain ⟨a, xs, e, n, q⟩ := r; exact ⟨a, xs, e, h a n, q⟩
  | lent ds => exact r
  | io ds => exact r
  | scr ds => exact r
end

/-! ### truth -/
def truthD : PyData → Option Bool
  | .none => some false
  | .bool b => some b
  | .int i => some (i != 0)
  | .str x => if x.length ≤ sizeLine then some ((x.length : Int) != 0) else none
  | .list ds => some (!ds.isEmpty)
  | .tuple ds => some (!ds.isEmpty)
  | .dict [] => some false
  | .dict _ => none
theorem Rps.empty {K : PySem.W.Frag} {H : Hp} {B : Addr → Prop} {vs : List V} {ds : List PyData} (r : Rps K H B vs ds) : vs.isEmpty = ds.isEmpty := by cases r <;> rfl
theorem Ro.truth {st : Bool} {K : PySem.W.Frag} {H : Hp} {B : Addr → Prop} {v : V} {d : PyData} {b : Bool} (r : Ro st K H B v d) (e : truthD d = some b) : TruV K v H b := by
  cases d with
  | none => cases r; cases e; exact rfl
  | bool c => cases r; cases e; exact rfl
  | int i => cases r; cases e; exact rfl
  | str x =>
    cases r
    simp only [truthD] at e
    split at e
    · rename_i h; cases e; exact ⟨h, rfl⟩
    · cases e
  | list ds =>
    cases e
    obtain ⟨a, xs, rfl, h, _, q⟩ := r
    exact .inl ⟨xs, h, by rw [q.empty]⟩
  | tuple ds =>
    cases e
    cases r with
    | tup h q => exact .inr (.inl ⟨_, h, by rw [q.empty]⟩)
  | dict kvs =>
    cases r with
    | dct h => cases e; exact .inr (.inr ⟨[], h, rfl⟩)

/-! ### outcomes: a value, an exception, or stuck -/
structure Ex where
  cls : Str
  fld : Option (Str × PyData)
inductive Out (α : Type) where
  | ok (a : α) (env : EV)
  | er (x : Ex) (env : EV)
abbrev Res (α : Type) := Option (Out α)
/-- so that f is left as it is where r is rewritten -/
def Dp {α : Type} (_ : α) : Type := Unit
def Res.bd {α β : Type} (r : Res α) (f : α → EV → Res β) (_ : Dp f := ()) : Res β := match r with
  | some (.ok a env) => f a env
  | some (.er x env) => some (.er x env)
  | none => none
def Res.mk {α : Type} (a : α) (env : EV) : Res α := some (.ok a env)
/-- a step that may be stuck -/
def sure {α β : Type} (o : Option α) (f : α → Res β) (_ : Dp f := ()) : Res β := match o with
  | some a => f a
  | none => none
def wp {α : Type} (r : Res α) (k : α → EV → Prop) (w : Ex → EV → Prop) : Prop := match r with
  | some (.ok a env) => k a env
  | some (.er x env) => w x env
  | none => False
section
variable {α β : Type} {r : Res α} {f : α → EV → Res β} {k : α → EV → Prop} {kb : β → EV → Prop} {w w' : Ex → EV → Prop}
theorem wp_bd : wp (r.bd f) kb w = wp r (fun a env => wp (f a env) kb w) w := by
  cases r with
  | none => rfl
  | some o => cases o <;> rfl
theorem wp_mk {a : α} {env : EV} : wp (Res.mk a env) k w = k a env := rfl
theorem wp_sure {o : Option α} {g : α → Res β} : wp (sure o g) kb w → ∃ a, o = some a ∧ wp (g a) kb w := fun h => by
  cases o with
  | none => exact h.elim
  | some a => exact ⟨a, rfl, h⟩
theorem wp.imp {k' : α → EV → Prop} (h : wp r k w) (hk : ∀ a env, k a env → k' a env) (hw : ∀ x env, w x env → w' x env) : wp r k' w' := by
  cases r with
  | none => exact h
  | some o =>
    cases o with
    | ok a env => exact hk a env h
    | er x env => exact hw x env h
end

/-! ### meanings -/
structure Sm where
  v : EV → Res SV
  t : EV → Res Bool
  o : EV → Res Opd
def oOf (v : EV → Res SV) (env : EV) : Res Opd := (v env).bd fun s env1 => sure s.freeze fun d => .mk (.dat d) env1
def tOf (o : EV → Res Opd) (env : EV) : Res Bool := (o env).bd fun o env1 => sure (rd false env1 o) fun d => sure (truthD d) fun b => .mk b env1
def Sm.of (v : EV → Res SV) : Sm := ⟨v, tOf (oOf v), oOf v⟩
/-- what a reading leans on: the written part, the module's names, the wish about exceptions -/
structure Ct where
  K : PySem.W.Frag
  mg : Str → Option Value
  W : WX
abbrev Ct.ofX (X : Cx) (W : WX) : Ct := ⟨X.K, X.mg, W⟩
/-- an exception as it lies: its class, its one field -/
def ExOk (c : Ct) (H : Hp) (B : Addr → Prop) (x : Ex) (u : Value) (dx : Option Addr) : Prop :=
  ∃ C, c.mg x.cls = some (.ref C) ∧ u = .ref C ∧ match x.fld with
    | none => dx = none
    | some (f, d) => ∃ a v, dx = some a ∧ H a = some (.xd [(f, v)]) ∧ Rp c.K H B v d
/-- what is wanted of a raise -/
def XW (c : Ct) (A : Addr → Prop) (env : EV) (σ : St) (H : Hp) (x : Ex) (env' : EV) : Prop := ∀ u dx H', Post c.K A env σ H env' H' → ExOk c H' (Av A env' σ) x u dx → c.W u dx σ H'
theorem XW.behind {c : Ct} {A : Addr → Prop} {env env1 env' : EV} {σ : St} {H H1 : Hp} {x : Ex} (P : Post c.K A env σ H env1 H1) (h : XW c A env σ H x env') : XW c A env1 σ H1 x env' :=
  fun u dx H' P' q => h u dx H' (P.trans P') q
def tV (c : Ct) (s : Sm) : TE := fun σ H Q => ∃ A env, Den c.K A env σ H ∧ wp (s.v env) (fun r env' => ∀ v H', Post c.K A env σ H env' H' → Rv c.K A env' σ H H' v r → Q v H') (XW c A env σ H)
def tT (c : Ct) (s : Sm) : TT := fun σ H Q => ∃ A env, Den c.K A env σ H ∧ wp (s.t env) (fun b env' => ∀ H', Post c.K A env σ H env' H' → Q b H') (XW c A env σ H)
def tO (c : Ct) (s : Sm) : TE := fun σ H Q => ∃ A env, Den c.K A env σ H ∧ wp (s.o env) (fun o env' => ∀ v H', Post c.K A env σ H env' H' → RoS c.K H' (Av A env' σ) σ v o → Q v H') (XW c A env σ H)
structure Snd (X : Cx) (W : WX) (e : Expr) (s : Sm) : Prop where
  v : PE X e (tV (.ofX X W) s)
  t : PT X e (tT (.ofX X W) s)
  o : PE X e (tO (.ofX X W) s)
end Tw
namespace L2
open PySem PySem.Spec PyProof.Rows
theorem PE.imp {X : Cx} {e : Expr} {t t' : TE} (h : PE X e t) (i : ∀ σ H Q, t' σ H Q → t σ H Q) : PE X e t' := ⟨fun p s σ H Q I q => h.run p s σ H Q I (i σ H Q q)⟩
theorem PT.imp {X : Cx} {e : Expr} {t t' : TT} (h : PT X e t) (i : ∀ σ H Q, t' σ H Q → t σ H Q) : PT X e t' := ⟨fun p s σ H Q I q => h.run p s σ H Q I (i σ H Q q)⟩
theorem PA.imp {X : Cx} {e : List Expr} {t t' : TA} (h : PA X e t) (i : ∀ σ H Q, t' σ H Q → t σ H Q) : PA X e t' := ⟨fun c p s σ H Q I q => h.run c p s σ H Q I (i σ H Q q)⟩
end L2
namespace Tw
open PySem PySem.Spec PyProof.Rows L2
/-- an expression whose test is the truth of its value -/
def plainTest : Expr → Bool
  | .UnaryOp .Not _ _ | .BoolOp .. | .IfExp .. | .Compare .. => false
  | _ => true
theorem plainTest_is {e : Expr} (h : plainTest e = true) (env : Env) (whole : Sem Value) : isTrue e env whole = (do let v ← whole; standAt e.pos; holding [v] (truthy v)) := by
  cases e <;> first | rfl | cases h | (rename_i op _ _; cases op <;> first | rfl | cases h)
section
variable {X : Cx} {W : WX} {e : Expr}
theorem pt_of_o {s : Sm} (h : PE X e (tO (.ofX X W) s)) (hp : plainTest e = true) (ht : s.t = tOf s.o) : PT X e (tT (.ofX X W) s) := by
  refine (pt_truth h (plainTest_is hp X.env)).imp fun σ H Q q => ?_
  obtain ⟨A, env, D, q⟩ := q
  rw [ht] at q
  unfold tOf at q
  rw [wp_bd] at q
  refine ⟨A, env, D, q.imp (fun o env1 q v H1 P r => ?_) fun _ _ z => z⟩
  obtain ⟨d, e2, q⟩ := wp_sure q
  obtain ⟨b, e3, q⟩ := wp_sure q
  exact ⟨b, (r.read P.den e2).truth e3, q H1 P⟩
theorem tO_of_v {c : Ct} {v : EV → Res SV} {s : Sm} (hv : s.v = v) (ho : s.o = oOf v) (σ : St) (H : Hp) (Q : VK) (q : tO c s σ H Q) : tV c s σ H Q := by
  obtain ⟨A, env, D, q⟩ := q
  rw [ho] at q
  unfold oOf at q
  rw [wp_bd] at q
  refine ⟨A, env, D, ?_⟩
  rw [hv]
  refine q.imp (fun r env1 q v H1 P z => ?_) fun _ _ z => z
  obtain ⟨d, e2, q⟩ := wp_sure q
  exact q v H1 P (z.freeze e2)
theorem Snd.of {v : EV → Res SV} (h : PE X e (tV (.ofX X W) (.of v))) (hp : plainTest e = true) : Snd X W e (.of v) :=
  have o := h.imp (tO_of_v rfl rfl)
  ⟨h, pt_of_o o hp rfl, o⟩
end

/-! ### names, constants -/
def vVar (i : Nat) (env : EV) : Res SV := match env[i]? with
  | some (some (.frz d)) => .mk (.frz d) env
  | some (some (.own ds)) => .mk (.frz (.list ds)) (env.set i (some (.frz (.list ds))))
  | _ => none
def oVar (i : Nat) (env : EV) : Res Opd := match env[i]? with
  | some (some _) => .mk (.slot i) env
  | _ => none
def sVar (i : Nat) : Sm := ⟨vVar i, tOf (oVar i), oVar i⟩
theorem getElem?_set_some {α : Type} {l : List α} {i j : Nat} {x y : α} (h : (l.set i x)[j]? = some y) : (j = i ∧ x = y) ∨ (j ≠ i ∧ l[j]? = some y) := by
  by_cases e : i = j
  · subst e
    by_cases z : i < l.length
    · rw [List.getElem?_set_self z] at h
      exact .inl ⟨rfl, Option.some.inj h⟩
    · rw [List.getElem?_eq_none (by simpa using z)] at h; cases h
  · rw [List.getElem?_set_ne e] at h
    exact .inr ⟨fun q => e q.symm, h⟩
/-- a list of one's own is let go: data from here on -/
theorem Den.frozen {K : PySem.W.Frag} {A : Addr → Prop} {env : EV} {σ : St} {H : Hp} {i : Nat} {ds : List PyData} (D : Den K A env σ H) (h : env[i]? = some (some (.own ds))) :
    ∃ v, σ[i]? = some (some v) ∧ Post K A env σ H (env.set i (some (.frz (.list ds)))) H ∧ Rp K H (Av A (env.set i (some (.frz (.list ds)))) σ) v (.list ds) := by
  obtain ⟨a, xs, hv, ha, r⟩ := D.list h rfl
  have sub : Sub (env.set i (some (.frz (.list ds)))) env := by
    refine ⟨List.length_set, fun j s e => ?_⟩
    rcases getElem?_set_some e with ⟨rfl, z⟩ | ⟨_, z⟩
    · cases z; exact ⟨_, h, .off _ _⟩
    · exact ⟨s, z, .refl s⟩
  have na : ¬ Av A (env.set i (some (.frz (.list ds)))) σ a := by
    rintro (q | ⟨j, s, e, l, z⟩)
    · exact D.dis a ⟨i, _, h, rfl, hv⟩ q
    · rcases getElem?_set_some e with ⟨_, w⟩ | ⟨n, w⟩
      · cases w; cases l
      · exact n (D.inj j i s _ a w h l rfl z hv)
  have rr : Rp K H (Av A (env.set i (some (.frz (.list ds)))) σ) (.ref a) (.list ds) := .lst ha na (r.weak fun _ q => sub.av q)
  refine ⟨.ref a, hv, ⟨.refl, ?_, sub⟩, rr⟩
  refine ⟨sub.len.trans D.len, fun j s e => ?_, fun j k s t b e1 e2 l1 l2 z1 z2 => ?_, D.amb, fun b q => D.dis b (sub.at (fun s t q z => by cases q <;> first | rfl | cases z) q)⟩
  · rcases getElem?_set_some e with ⟨rfl, z⟩ | ⟨_, z⟩
    · cases z; exact ⟨_, hv, rr⟩
    · obtain ⟨v, e1, q⟩ := D.slot j s z
      exact ⟨v, e1, q.weak fun _ z => sub.av z⟩
  · rcases getElem?_set_some e1 with ⟨_, w1⟩ | ⟨_, w1⟩
    · cases w1; cases l1
    · rcases getElem?_set_some e2 with ⟨_, w2⟩ | ⟨_, w2⟩
      · cases w2; cases l2
      · exact D.inj j k s t b w1 w2 l1 l2 z1 z2
theorem snd_var {X : Cx} {W : WX} {i : Nat} {x : Str} {pos : Pos} (hN : X.N[i]? = some x) (hv : Vis X.env.scope x) (hd : (x == ("__debug__" : Str)) = false) (hc : (x == ("__classdict__" : Str)) = false) : Snd X W (.Name x pos) (sVar i) := by
  have o : PE X (.Name x pos) (tO (.ofX X W) (sVar i)) := (pe_var hN hv hd hc).imp fun σ H Q q => by
    obtain ⟨A, env, D, q⟩ := q
    have q : wp (oVar i env) _ _ := q
    unfold oVar at q
    split at q
    · rename_i s hs
      obtain ⟨v, hv, _⟩ := D.slot i s hs
      exact ⟨v, hv, q v H D.post hv⟩
    · exact q.elim
  refine ⟨(pe_var hN hv hd hc).imp fun σ H Q q => ?_, pt_of_o o rfl rfl, o⟩
  obtain ⟨A, env, D, q⟩ := q
  have q : wp (vVar i env) _ _ := q
  unfold vVar at q
  split at q
  · rename_i d hs
    obtain ⟨v, hv, h⟩ := D.slot i _ hs
    exact ⟨v, hv, q v H D.post h⟩
  · rename_i ds hs
    obtain ⟨v, hv, P, h⟩ := D.frozen hs
    exact ⟨v, hv, q v H P h⟩
  · exact q.elim
def sCst (d : PyData) : Sm := .of fun env => .mk (.frz d) env
theorem pe_cst {X : Cx} {W : WX} {e : Expr} {v : V} {d : PyData} (h : PE X e (tC v)) (r : ∀ H B, Rp X.K H B v d) : PE X e (tV (.ofX X W) (sCst d)) := h.imp fun σ H Q q => by
  obtain ⟨A, env, D, q⟩ := q
  exact q v H D.post (r H _)
end Tw
end STwB

section STwC
/-! Part C: operators, tests, displays. -/
namespace Tw
open PySem PySem.Spec PyProof.Rows L2

/-! ### operands in a row -/
def evOs : List Sm → EV → Res (List Opd)
  | [], env => .mk [] env
  | s :: r, env => (s.o env).bd fun o env1 => (evOs r env1).bd fun os env2 => .mk (o :: os) env2
def vOp (st : Bool) (f : List PyData → Option SV) (as : List Sm) (env : EV) : Res SV := (evOs as env).bd fun os env1 => sure (rds st env1 os) fun ds => sure (f ds) fun r => .mk r env1
def sOp (st : Bool) (f : List PyData → Option SV) (as : List Sm) : Sm := .of (vOp st f as)
def tOs (c : Ct) (as : List Sm) : TA := fun σ H Q => ∃ A env, Den c.K A env σ H ∧ wp (evOs as env) (fun os env' => ∀ vs H', Post c.K A env σ H env' H' → RoSs c.K H' (Av A env' σ) σ vs os → Q vs H') (XW c A env σ H)
/-- what an operator by values promises of data -/
abbrev Lets (K : PySem.W.Frag) (H : Hp) (B : Addr → Prop) (s : SV) (Q : VK) : Prop := ∀ v H', (∀ a o, H a = some o → H' a = some o) → Rr K H H' B v s → Q v H'
def OkU (st : Bool) (K : PySem.W.Frag) (r : V → Hp → VK → Prop) (f : List PyData → Option SV) : Prop :=
  ∀ (H : Hp) (B : Addr → Prop) (x : V) (d : PyData) (s : SV) (Q : VK), (∀ a, B a → H a ≠ none) → Ro st K H B x d → f [d] = some s → Lets K H B s Q → r x H Q
def OkB (st : Bool) (K : PySem.W.Frag) (r : R2) (f : List PyData → Option SV) : Prop :=
  ∀ (H : Hp) (B : Addr → Prop) (x y : V) (d e : PyData) (s : SV) (Q : VK), (∀ a, B a → H a ≠ none) → Ro st K H B x d → Ro st K H B y e → f [d, e] = some s → Lets K H B s Q → r x y H Q
def OkN (st : Bool) (K : PySem.W.Frag) (r : List V → Hp → VK → Prop) (f : List PyData → Option SV) : Prop :=
  ∀ (H : Hp) (B : Addr → Prop) (xs : List V) (ds : List PyData) (s : SV) (Q : VK), (∀ a, B a → H a ≠ none) → Ros st K H B xs ds → f ds = some s → Lets K H B s Q → r xs H Q
section
variable {st : Bool} {c : Ct} {A : Addr → Prop} {env env1 env2 : EV} {σ : St} {H H1 H2 H' : Hp}
theorem Den.bound {K : PySem.W.Frag} (D : Den K A env σ H) : ∀ a, Av A env σ a → H a ≠ none := fun a q z => D.fresh z q
/-- the end of an operation -/
theorem Post.lets {K : PySem.W.Frag} {s : SV} {Q : VK} (P : Post K A env σ H env1 H1) (q : ∀ v H', Post K A env σ H env1 H' → Rv K A env1 σ H H' v s → Q v H') : Lets K H1 (Av A env1 σ) s Q :=
  fun v H' g r => q v H' (P.grow g) ((Rv.ofRr P.den g r).back fun _ z => P.keep.new z)
theorem tO_un {r : V → Hp → VK → Prop} {f : List PyData → Option SV} {a : Sm} (h : OkU st c.K r f) (σ : St) (H : Hp) (Q : VK) (q : tV c (sOp st f [a]) σ H Q) : tUn r (tO c a) σ H Q := by
  obtain ⟨A, env, D, q⟩ := q
  have q : wp (vOp st f [a] env) _ _ := q
  simp only [vOp, evOs, wp_bd, wp_mk] at q
  refine ⟨A, env, D, q.imp (fun o env1 q x H1 P r1 => ?_) fun _ _ z => z⟩
  obtain ⟨ds, e2, q1⟩ := wp_sure q
  obtain ⟨z, e3, q2⟩ := wp_sure q1
  clear q q1
  cases RoSs.read P.den (.cons r1 .nil) e2 with
  | cons r2 r3 => cases r3; exact h H1 _ x _ _ Q P.den.bound r2 e3 (P.lets q2)
theorem tO_bin {r : R2} {f : List PyData → Option SV} {a b : Sm} (h : OkB st c.K r f) (σ : St) (H : Hp) (Q : VK) (q : tV c (sOp st f [a, b]) σ H Q) : tOp r (tO c a) (tO c b) σ H Q := by
  obtain ⟨A, env, D, q⟩ := q
  have q : wp (vOp st f [a, b] env) _ _ := q
  simp only [vOp, evOs, wp_bd, wp_mk] at q
  refine ⟨A, env, D, q.imp (fun o env1 q x H1 P r1 => ⟨A, env1, P.den, q.imp (fun w env2 q y H2 P2 r2 => ?_) fun _ _ z => z.behind P⟩) fun _ _ z => z⟩
  obtain ⟨ds, e2, q1⟩ := wp_sure q
  obtain ⟨z, e3, q2⟩ := wp_sure q1
  clear q q1
  cases RoSs.read P2.den (.cons (r1.post P2) (.cons r2 .nil)) e2 with
  | cons s1 s2 =>
    cases s2 with
    | cons s2 s3 => cases s3; exact h H2 _ x y _ _ _ Q P2.den.bound s1 s2 e3 ((P.trans P2).lets q2)
theorem tOs_nil (σ : St) (H : Hp) (Q : List V → Hp → Prop) (q : tOs c [] σ H Q) : tNil σ H Q := by
  obtain ⟨A, env, D, q⟩ := q
  exact q [] H D.post .nil
theorem tOs_cons {a : Sm} {as : List Sm} (σ : St) (H : Hp) (Q : List V → Hp → Prop) (q : tOs c (a :: as) σ H Q) : tCons (tO c a) (tOs c as) σ H Q := by
  obtain ⟨A, env, D, q⟩ := q
  have q : wp (evOs (a :: as) env) _ _ := q
  simp only [evOs, wp_bd, wp_mk] at q
  exact ⟨A, env, D, q.imp (fun o env1 q x H1 P r1 => ⟨A, env1, P.den, q.imp (fun os env2 q xs H2 P2 r2 => q _ H2 (P.trans P2) (.cons (r1.post P2) r2)) fun _ _ z => z.behind P⟩) fun _ _ z => z⟩
theorem tOs_cb {r : List V → Hp → VK → Prop} {f : List PyData → Option SV} {as : List Sm} (h : OkN st c.K r f) (σ : St) (H : Hp) (Q : VK) (q : tV c (sOp st f as) σ H Q) : tCB r (tOs c as) σ H Q := by
  obtain ⟨A, env, D, q⟩ := q
  have q : wp (vOp st f as env) _ _ := q
  simp only [vOp, wp_bd] at q
  refine ⟨A, env, D, q.imp (fun os env1 q vs H1 P r1 => ?_) fun _ _ z => z⟩
  obtain ⟨ds, e2, q⟩ := wp_sure q
  obtain ⟨z, e3, q⟩ := wp_sure q
  exact h H1 _ vs _ _ Q P.den.bound (r1.read P.den e2) e3 (P.lets q)
end

/-! ### stars -/
def noStar : Expr → Bool
  | .Starred .. => false
  | _ => true
theorem starEach_no {e : Expr} (h : noStar e = true) (es : List Expr) (env : Env) : starEach (e :: es) env = (false, eval e env) :: starEach es env := by
  cases e <;> first | rfl | cases h
theorem starEach_any {pos : Pos} {env : Env} : ∀ {es : List Expr}, es.all noStar = true → (backTo pos (starEach es env)).any (·.1) = false
  | [], _ => rfl
  | e :: es, h => by
    rw [List.all_cons, Bool.and_eq_true] at h
    rw [starEach_no h.1]
    show (false || _) = false
    rw [Bool.false_or]
    have ih := starEach_any (pos := pos) (env := env) (es := es) h.2
    simpa [backTo] using ih
/-- operands one by one -/
inductive SndL (X : Cx) (W : WX) : List Expr → List Sm → Prop
  | nil : SndL X W [] []
  | cons {e : Expr} {es : List Expr} {a : Sm} {as : List Sm} : noStar e = true → Snd X W e a → SndL X W es as → SndL X W (e :: es) (a :: as)
section
variable {st : Bool} {X : Cx} {W : WX}
theorem SndL.pa : ∀ {es : List Expr} {as : List Sm}, SndL X W es as → PA X es (tOs (.ofX X W) as)
  | _, _, .nil => PA.imp pa_nil tOs_nil
  | _, _, .cons n h t => PA.imp (pa_cons h.o t.pa (starEach_no n _ _)) tOs_cons
theorem SndL.all : ∀ {es : List Expr} {as : List Sm}, SndL X W es as → es.all noStar = true
  | _, _, .nil => rfl
  | _, _, .cons n _ t => by rw [List.all_cons, n, t.all]; rfl
variable {a b c : Expr} {sa sb sc : Sm} {pos : Pos} {f g : List PyData → Option SV}
theorem snd_bin {op : Operator} {r : R2} (ho : OpR X (binaryOp op) r) (ok : OkB st X.K r f) (ha : Snd X W a sa) (hb : Snd X W b sb) : Snd X W (.BinOp a op b pos) (sOp st f [sa, sb]) :=
  .of ((pe_op ho ha.o hb.o).imp (tO_bin (c := .ofX X W) ok)) rfl
theorem snd_un {op : UnaryOp} {r : V → Hp → VK → Prop} (hn : op ≠ .Not) (ho : UnR X (unaryOp op) r) (ok : OkU st X.K r f) (ha : Snd X W a sa) : Snd X W (.UnaryOp op a pos) (sOp st f [sa]) :=
  .of ((pe_un ho ha.o).imp (tO_un (c := .ofX X W) ok)) (by cases op <;> first | rfl | exact absurd rfl hn)
theorem snd_ix {r : R2} (hr : IxR X r) (ok : OkB st X.K r f) (ha : Snd X W a sa) (hb : Snd X W b sb) (hs : PlainIx b) : Snd X W (.Subscript a b pos) (sOp st f [sa, sb]) :=
  .of ((pe_ix hr ha.o hb.o hs).imp (tO_bin (c := .ofX X W) ok)) rfl
theorem snd_callB {x : Str} {p : Pos} {e : Expr} {es : List Expr} {as : List Sm} {id : String} {r : List V → Hp → VK → Prop} (hc : CallR X (.builtin id) r) (ok : OkN st X.K r f) (hg : Gl X x) (hm : X.mg x = none) (hv : bootBuiltins x = some (.builtin id))
    (h : SndL X W (e :: es) as) (hn : x ≠ "__name__") (hd : (x == ("__debug__" : Str)) = false) : Snd X W (.Call (.Name x p) (e :: es) [] pos) (sOp st f as) := by
  cases h with
  | cons n h t =>
    exact .of ((pe_callB hc hg hm hv (SndL.cons n h t).pa hn hd (starEach_no n _ _) (starEach_any t.all)).imp (tOs_cb (c := .ofX X W) ok)) rfl
theorem snd_callTy {x : Str} {p : Pos} {e : Expr} {es : List Expr} {as : List Sm} {T : String} {r : List V → Hp → VK → Prop} (hc : CallR X (.type T) r) (ok : OkN st X.K r f) (hg : Gl X x) (hm : X.mg x = none) (hv : bootBuiltins x = some (.type T))
    (h : SndL X W (e :: es) as) (hn : x ≠ "__name__") (hd : (x == ("__debug__" : Str)) = false) : Snd X W (.Call (.Name x p) (e :: es) [] pos) (sOp st f as) := by
  cases h with
  | cons n h t =>
    exact .of ((pe_callTy hc hg hm hv (SndL.cons n h t).pa hn hd (starEach_no n _ _) (starEach_any t.all)).imp (tOs_cb (c := .ofX X W) ok)) rfl
end

/-! ### comparisons: two, three -/
def boolD : SV → Option Bool
  | .frz (.bool b) => some b
  | _ => none
/-- an operation that tells True or False, as a value, as a test, as an operand -/
def tstV (v : EV → Res SV) (env : EV) : Res Bool := (v env).bd fun r env1 => sure (boolD r) fun b => .mk b env1
def Sm.ofB (v : EV → Res SV) : Sm := ⟨v, tstV v, oOf v⟩
def sCmp (f : List PyData → Option SV) (as : List Sm) : Sm := .ofB (vOp false f as)
theorem Rv.bool {K : PySem.W.Frag} {A : Addr → Prop} {env : EV} {σ : St} {H H' : Hp} {v : V} {s : SV} {b : Bool} (r : Rv K A env σ H H' v s) (e : boolD s = some b) : v = .bl b := by
  cases s with
  | frz d =>
    cases d with
    | bool c => cases e; cases r; rfl
    | _ => cases e
  | _ => cases e
theorem Rr.bool {K : PySem.W.Frag} {H H' : Hp} {B : Addr → Prop} {v : V} {s : SV} {b : Bool} (r : Rr K H H' B v s) (e : boolD s = some b) : v = .bl b := by
  cases s with
  | frz d =>
    cases d with
    | bool c => cases e; cases r; rfl
    | _ => cases e
  | _ => cases e
theorem tT_of_v {c : Ct} {v : EV → Res SV} (σ : St) (H : Hp) (Q : Bool → Hp → Prop) (q : tT c (.ofB v) σ H Q) : tTest (tV c (.ofB v)) σ H Q := by
  obtain ⟨A, env, D, q⟩ := q
  have q : wp (tstV v env) _ _ := q
  unfold tstV at q
  rw [wp_bd] at q
  refine ⟨A, env, D, q.imp (fun r env1 q x H1 P z => ?_) fun _ _ z => z⟩
  obtain ⟨b, e2, q⟩ := wp_sure q
  exact ⟨b, z.bool e2, q H1 P⟩
section
variable {X : Cx} {W : WX} {a b c : Expr} {sa sb sc : Sm} {pos : Pos} {f g : List PyData → Option SV}
theorem PT.tst {X : Cx} {e : Expr} {t t' : TE} (h : PT X e (tTest t)) (i : ∀ σ H Q, t' σ H Q → t σ H Q) : PT X e (tTest t') := PT.imp h fun σ H Q q => i σ H _ q
theorem snd_cmp {op : CmpOp} {r : R2} (ho : OpR X (compareOp op) r) (ok : OkB false X.K r f) (ha : Snd X W a sa) (hb : Snd X W b sb) (hm : behindInMarks op b = false) : Snd X W (.Compare a [op] [b] pos) (sCmp f [sa, sb]) := by
  have hv : PE X (.Compare a [op] [b] pos) (tV (.ofX X W) (sCmp f [sa, sb])) := (pe_cmpR ho ha.o hb.o hm).imp (tO_bin (c := .ofX X W) ok)
  exact ⟨hv, PT.imp (PT.tst (pt_cmpR ho ha.o hb.o hm) (tO_bin (c := .ofX X W) (f := f) ok)) tT_of_v, hv.imp (tO_of_v rfl rfl)⟩
/-- a op b op' c -/
def vChain (f g : List PyData → Option SV) (sa sb sc : Sm) (env : EV) : Res SV :=
  (sa.o env).bd fun o env1 => (sb.o env1).bd fun w env2 => sure (rd false env2 o) fun d => sure (rd false env2 w) fun e => sure (f [d, e]) fun r => sure (boolD r) fun k =>
    if k = true then (sc.o env2).bd fun u env3 => sure (rd false env3 w) fun e' => sure (rd false env3 u) fun c => sure (g [e', c]) fun r' => sure (boolD r') fun k' => .mk (.frz (.bool k')) env3 else .mk (.frz (.bool false)) env2
def sChain (f g : List PyData → Option SV) (sa sb sc : Sm) : Sm := .ofB (vChain f g sa sb sc)
theorem tO_chain {c : Ct} {r r' : R2} (h : OkB false c.K r f) (h' : OkB false c.K r' g) (σ : St) (H : Hp) (Q : VK) (q : tV c (sChain f g sa sb sc) σ H Q) : tChain r r' (tO c sa) (tO c sb) (tO c sc) σ H Q := by
  obtain ⟨A, env, D, q⟩ := q
  have q : wp (vChain f g sa sb sc env) _ _ := q
  simp only [vChain, wp_bd] at q
  refine ⟨A, env, D, q.imp (fun o env1 q x H1 P r1 => ⟨A, env1, P.den, q.imp (fun w env2 q y H2 P2 r2 => ?_) fun _ _ z => z.behind P⟩) fun _ _ z => z⟩
  obtain ⟨d, e3, q⟩ := wp_sure q
  obtain ⟨e, e4, q⟩ := wp_sure q
  obtain ⟨z, e5, q⟩ := wp_sure q
  obtain ⟨k, e6, q⟩ := wp_sure q
  refine h H2 _ x y d e z _ P2.den.bound ((r1.post P2).read P2.den e3) (r2.read P2.den e4) e5 fun v H3 gr rv => ⟨k, rv.bool e6, ?_⟩
  have P3 := (P.trans P2).grow gr
  cases k with
  | false =>
    rw [if_neg Bool.false_ne_true] at q ⊢
    exact q _ H3 P3 (.bl false)
  | true =>
    rw [if_pos rfl] at q ⊢
    rw [wp_bd] at q
    refine ⟨A, env2, P3.den, q.imp (fun u env3 q c' H4 P4 r4 => ?_) fun _ _ z => z.behind P3⟩
    obtain ⟨e', g2, q⟩ := wp_sure q
    obtain ⟨d', g3, q⟩ := wp_sure q
    obtain ⟨z', g4, q⟩ := wp_sure q
    obtain ⟨k', g5, q⟩ := wp_sure q
    have r2' : RoS c.K H3 (Av A env2 σ) σ y w := by
      cases w with
      | slot i => exact r2
      | dat d => exact Rp.grow r2 gr
    refine h' H4 _ y c' _ _ _ Q P4.den.bound ((r2'.post P4).read P4.den g2) (r4.read P4.den g3) g4 fun v' H5 gr' rv' => ?_
    have ev' := rv'.bool g5
    subst ev'
    exact q _ H5 ((P3.trans P4).grow gr') (.bl _)
theorem snd_chain {op op' : CmpOp} {r r' : R2} (ho : OpR X (compareOp op) r) (ho' : OpR X (compareOp op') r') (ok : OkB false X.K r f) (ok' : OkB false X.K r' g) (ha : Snd X W a sa) (hb : Snd X W b sb) (hc : Snd X W c sc)
    (hm : lastMarks [op, op'] [b, c] = false) : Snd X W (.Compare a [op, op'] [b, c] pos) (sChain f g sa sb sc) := by
  have hv : PE X (.Compare a [op, op'] [b, c] pos) (tV (.ofX X W) (sChain f g sa sb sc)) := (pe_chain ho ho' ha.o hb.o hc.o hm).imp (tO_chain (c := .ofX X W) ok ok')
  exact ⟨hv, PT.imp (PT.tst (pt_chain ho ho' ha.o hb.o hc.o hm) (tO_chain (c := .ofX X W) (f := f) (g := g) ok ok')) tT_of_v, hv.imp (tO_of_v rfl rfl)⟩
end

/-! ### and, or, not, if else -/
def sAnd1 (a b : Sm) : Sm :=
  let v := fun env => (a.v env).bd fun r env1 => sure (boolD r) fun k => if k = true then b.v env1 else .mk (.frz (.bool false)) env1
  ⟨v, fun env => (a.t env).bd fun k env1 => if k = true then b.t env1 else .mk false env1, oOf v⟩
def sOr1 (a b : Sm) : Sm :=
  let v := fun env => (a.v env).bd fun r env1 => sure (boolD r) fun k => if k = true then .mk (.frz (.bool true)) env1 else b.v env1
  ⟨v, fun env => (a.t env).bd fun k env1 => if k = true then .mk true env1 else b.t env1, oOf v⟩
def sNot (a : Sm) : Sm :=
  let v := fun env => (tOf a.o env).bd fun k env1 => .mk (.frz (.bool !k)) env1
  ⟨v, fun env => (a.t env).bd fun k env1 => .mk (!k) env1, oOf v⟩
def sIte (c a b : Sm) : Sm :=
  let v := fun env => (c.t env).bd fun k env1 => if k = true then a.v env1 else b.v env1
  ⟨v, fun env => (c.t env).bd fun k env1 => if k = true then a.t env1 else b.t env1, oOf v⟩
section
variable {X : Cx} {W : WX} {a b : Expr} {sa sb sc : Sm} {pos : Pos} {rest : List Expr}
/-- and, or: as a value, as a test whatever the whole is -/
structure SndW (X : Cx) (W : WX) (e : Expr) (s : Sm) : Prop where
  v : PE X e (tV (.ofX X W) s)
  t : PW X e (tT (.ofX X W) s)
  o : PE X e (tO (.ofX X W) s)
theorem SndW.snd {e : Expr} {s : Sm} (h : SndW X W e s) : Snd X W e s := ⟨h.v, h.t.pt, h.o⟩
theorem PW.imp' {e : Expr} {t t' : TT} (h : PW X e t) (i : ∀ σ H Q, t' σ H Q → t σ H Q) : PW X e t' := ⟨fun w p s σ H Q I q => h.run w p s σ H Q I (i σ H Q q)⟩
theorem Post.ite {K : PySem.W.Frag} {A : Addr → Prop} {env env1 env2 : EV} {σ : St} {H H1 H2 : Hp} (P : Post K A env σ H env1 H1) {r : SV} {v : V} {Q : VK} (q : ∀ v H', Post K A env σ H env2 H' → Rv K A env2 σ H H' v r → Q v H')
    (P2 : Post K A env1 σ H1 env2 H2) (z : Rv K A env2 σ H1 H2 v r) : Q v H2 := q v H2 (P.trans P2) (z.back fun _ e => P.keep.new e)
theorem snd_one {op : BoolOp} {a : Expr} {sa : Sm} (ha : Snd X W a sa) (hop : op = .And ∨ op = .Or) : SndW X W (.BoolOp op [a] pos) sa :=
  ⟨pe_one ha.v, by rcases hop with rfl | rfl <;> first | exact pw_and1 ha.t | exact pw_or1 ha.t, pe_one ha.o⟩
theorem snd_and (ha : Snd X W a sa) (hb : SndW X W (.BoolOp .And (b :: rest) pos) sb) : SndW X W (.BoolOp .And (a :: b :: rest) pos) (sAnd1 sa sb) := by
  have hv : PE X (.BoolOp .And (a :: b :: rest) pos) (tV (.ofX X W) (sAnd1 sa sb)) := (pe_and ha.v hb.v).imp fun σ H Q q => by
    obtain ⟨A, env, D, q⟩ := q
    simp only [sAnd1, wp_bd] at q
    refine ⟨A, env, D, q.imp (fun r env1 q v H1 P z => ?_) fun _ _ z => z⟩
    obtain ⟨k, e, q⟩ := wp_sure q
    refine ⟨k, z.bool e, ?_⟩
    cases k with
    | true =>
      rw [if_pos rfl] at q ⊢
      exact ⟨A, env1, P.den, q.imp (fun r env2 q v H2 P2 z2 => P.ite q P2 z2) fun _ _ z => z.behind P⟩
    | false =>
      rw [if_neg Bool.false_ne_true] at q ⊢
      exact q _ H1 P (.bl false)
  refine ⟨hv, PW.imp' (pw_and ha.t hb.t) fun σ H Q q => ?_, hv.imp (tO_of_v rfl rfl)⟩
  obtain ⟨A, env, D, q⟩ := q
  simp only [sAnd1, wp_bd] at q
  refine ⟨A, env, D, q.imp (fun k env1 q H1 P => ?_) fun _ _ z => z⟩
  cases k with
  | true =>
    rw [if_pos rfl] at q ⊢
    exact ⟨A, env1, P.den, q.imp (fun k env2 q H2 P2 => q H2 (P.trans P2)) fun _ _ z => z.behind P⟩
  | false =>
    rw [if_neg Bool.false_ne_true] at q ⊢
    exact q H1 P
theorem snd_or (ha : Snd X W a sa) (hb : SndW X W (.BoolOp .Or (b :: rest) pos) sb) : SndW X W (.BoolOp .Or (a :: b :: rest) pos) (sOr1 sa sb) := by
  have hv : PE X (.BoolOp .Or (a :: b :: rest) pos) (tV (.ofX X W) (sOr1 sa sb)) := (pe_or ha.v hb.v).imp fun σ H Q q => by
    obtain ⟨A, env, D, q⟩ := q
    simp only [sOr1, wp_bd] at q
    refine ⟨A, env, D, q.imp (fun r env1 q v H1 P z => ?_) fun _ _ z => z⟩
    obtain ⟨k, e, q⟩ := wp_sure q
    refine ⟨k, z.bool e, ?_⟩
    cases k with
    | true =>
      rw [if_pos rfl] at q ⊢
      exact q _ H1 P (.bl true)
    | false =>
      rw [if_neg Bool.false_ne_true] at q ⊢
      exact ⟨A, env1, P.den, q.imp (fun r env2 q v H2 P2 z2 => P.ite q P2 z2) fun _ _ z => z.behind P⟩
  refine ⟨hv, PW.imp' (pw_or ha.t hb.t) fun σ H Q q => ?_, hv.imp (tO_of_v rfl rfl)⟩
  obtain ⟨A, env, D, q⟩ := q
  simp only [sOr1, wp_bd] at q
  refine ⟨A, env, D, q.imp (fun k env1 q H1 P => ?_) fun _ _ z => z⟩
  cases k with
  | true =>
    rw [if_pos rfl] at q ⊢
    exact q H1 P
  | false =>
    rw [if_neg Bool.false_ne_true] at q ⊢
    exact ⟨A, env1, P.den, q.imp (fun k env2 q H2 P2 => q H2 (P.trans P2)) fun _ _ z => z.behind P⟩
theorem snd_not (ha : Snd X W a sa) : Snd X W (.UnaryOp .Not a pos) (sNot sa) := by
  have hv : PE X (.UnaryOp .Not a pos) (tV (.ofX X W) (sNot sa)) := (pe_notT ha.o).imp fun σ H Q q => by
    obtain ⟨A, env, D, q⟩ := q
    simp only [sNot, tOf, wp_bd] at q
    refine ⟨A, env, D, q.imp (fun o env1 q v H1 P r => ?_) fun _ _ z => z⟩
    obtain ⟨d, e2, q⟩ := wp_sure q
    obtain ⟨k, e3, q⟩ := wp_sure q
    exact ⟨k, (r.read P.den e2).truth e3, q _ H1 P (.bl _)⟩
  refine ⟨hv, (pt_not ha.t).imp fun σ H Q q => ?_, hv.imp (tO_of_v rfl rfl)⟩
  obtain ⟨A, env, D, q⟩ := q
  simp only [sNot, wp_bd, wp_mk] at q
  exact ⟨A, env, D, q⟩
theorem pt_ifExp {c : Expr} {tc ta tb : TT} (hc : PT X c tc) (ha : PT X a ta) (hb : PT X b tb) : PT X (.IfExp c a b pos) (fun σ H Q => tc σ H fun k H1 => if k = true then ta σ H1 Q else tb σ H1 Q) := by
  refine ⟨fun pins s σ H Q I h => ?_⟩
  show wpAny _ _ (isTrue c X.env (eval c X.env) >>= fun k => if k = true then isTrue a X.env (eval a X.env) else isTrue b X.env (eval b X.env)) _ _ _
  refine wpAny_bind (thn (hc.run pins s σ H _ I h) fun k s1 ⟨H1, I1, q⟩ => ?_)
  cases k with
  | true => exact ha.run pins s1 σ H1 Q I1 q
  | false => exact hb.run pins s1 σ H1 Q I1 q
theorem snd_ite {c : Expr} (hc : Snd X W c sc) (ha : Snd X W a sa) (hb : Snd X W b sb) : Snd X W (.IfExp c a b pos) (sIte sc sa sb) := by
  have hv : PE X (.IfExp c a b pos) (tV (.ofX X W) (sIte sc sa sb)) := (pe_ifExp hc.t ha.v hb.v).imp fun σ H Q q => by
    obtain ⟨A, env, D, q⟩ := q
    simp only [sIte, wp_bd] at q
    refine ⟨A, env, D, q.imp (fun k env1 q H1 P => ?_) fun _ _ z => z⟩
    cases k with
    | true =>
      rw [if_pos rfl] at q ⊢
      exact ⟨A, env1, P.den, q.imp (fun r env2 q v H2 P2 z2 => P.ite q P2 z2) fun _ _ z => z.behind P⟩
    | false =>
      rw [if_neg Bool.false_ne_true] at q ⊢
      exact ⟨A, env1, P.den, q.imp (fun r env2 q v H2 P2 z2 => P.ite q P2 z2) fun _ _ z => z.behind P⟩
  refine ⟨hv, (pt_ifExp hc.t ha.t hb.t).imp fun σ H Q q => ?_, hv.imp (tO_of_v rfl rfl)⟩
  obtain ⟨A, env, D, q⟩ := q
  simp only [sIte, wp_bd] at q
  refine ⟨A, env, D, q.imp (fun k env1 q H1 P => ?_) fun _ _ z => z⟩
  cases k with
  | true =>
    rw [if_pos rfl] at q ⊢
    exact ⟨A, env1, P.den, q.imp (fun k env2 q H2 P2 => q H2 (P.trans P2)) fun _ _ z => z.behind P⟩
  | false =>
    rw [if_neg Bool.false_ne_true] at q ⊢
    exact ⟨A, env1, P.den, q.imp (fun k env2 q H2 P2 => q H2 (P.trans P2)) fun _ _ z => z.behind P⟩
end

/-! ### displays, with stars -/
def seqD : PyData → Option (List PyData)
  | .list ds => some ds
  | .tuple ds => some ds
  | _ => none
def evDs : List (Bool × Sm) → EV → Res (List PyData)
  | [], env => .mk [] env
  | (false, s) :: r, env => (s.v env).bd fun z env1 => sure z.freeze fun d => (evDs r env1).bd fun ds env2 => .mk (d :: ds) env2
  | (true, s) :: r, env => (s.o env).bd fun o env1 => sure (rd false env1 o) fun d => sure (seqD d) fun xs => (evDs r env1).bd fun ds env2 => .mk (xs ++ ds) env2
def tDs (c : Ct) (as : List (Bool × Sm)) : TA := fun σ H Q => ∃ A env, Den c.K A env σ H ∧ wp (evDs as env) (fun ds env' => ∀ vs H', Post c.K A env σ H env' H' → Rps c.K H' (Av A env' σ) vs ds → Q vs H') (XW c A env σ H)
def sTup (as : List (Bool × Sm)) : Sm := .of fun env => (evDs as env).bd fun ds env1 => if ds.length ≤ sizeLine then .mk (.frz (.tuple ds)) env1 else none
def sLst (as : List (Bool × Sm)) : Sm := .of fun env => (evDs as env).bd fun ds env1 => if ds.length ≤ sizeLine then .mk (.own ds) env1 else none
theorem Ro.seq {st : Bool} {K : PySem.W.Frag} {H : Hp} {B : Addr → Prop} {v : V} {d : PyData} {ds : List PyData} (r : Ro st K H B v d) (e : seqD d = some ds) : ∃ a xs, v = .ref a ∧ (SqT K H a xs ∨ SqL K H a xs) ∧ Rps K H B xs ds := by
  cases d with
  | list es =>
    cases e
    obtain ⟨a, xs, rfl, h, _, q⟩ := r
    exact ⟨a, xs, rfl, .inr h, q⟩
  | tuple es =>
    cases e
    cases r with
    | tup h q => exact ⟨_, _, rfl, .inl h, q⟩
  | _ => cases e
/-- items one by one, stars among them -/
inductive SndD (X : Cx) (W : WX) : List Expr → List (Bool × Sm) → Prop
  | nil : SndD X W [] []
  | cons {e : Expr} {es : List Expr} {a : Sm} {as : List (Bool × Sm)} : noStar e = true → Snd X W e a → SndD X W es as → SndD X W (e :: es) ((false, a) :: as)
  | star {e : Expr} {p : Pos} {es : List Expr} {a : Sm} {as : List (Bool × Sm)} : Snd X W e a → SndD X W es as → SndD X W (.Starred e p :: es) ((true, a) :: as)
section
variable {X : Cx} {W : WX} {pos : Pos}
theorem SndD.pa : ∀ {es : List Expr} {as : List (Bool × Sm)}, SndD X W es as → PA X es (tDs (.ofX X W) as)
  | _, _, .nil => PA.imp pa_nil fun σ H Q q => by
    obtain ⟨A, env, D, q⟩ := q
    exact q [] H D.post .nil
  | _, _, .cons n h t => PA.imp (pa_cons h.v t.pa (starEach_no n _ _)) fun σ H Q q => by
    obtain ⟨A, env, D, q⟩ := q
    simp only [evDs, wp_bd] at q
    refine ⟨A, env, D, q.imp (fun z env1 q v H1 P r => ?_) fun _ _ z => z⟩
    obtain ⟨d, e, q⟩ := wp_sure q
    rw [wp_bd] at q
    exact ⟨A, env1, P.den, q.imp (fun ds env2 q vs H2 P2 r2 => q _ H2 (P.trans P2) (.cons (P2.rp (r.freeze e)) r2)) fun _ _ z => z.behind P⟩
  | _, _, .star h t => PA.imp (StX.pa_star h.o t.pa) fun σ H Q q => by
    obtain ⟨A, env, D, q⟩ := q
    simp only [evDs, wp_bd] at q
    refine ⟨A, env, D, q.imp (fun o env1 q v H1 P r => ?_) fun _ _ z => z⟩
    obtain ⟨d, e, q⟩ := wp_sure q
    obtain ⟨xs, e2, q⟩ := wp_sure q
    rw [wp_bd] at q
    obtain ⟨a, vs, ev, hs, rs⟩ := (r.read P.den e).seq e2
    exact ⟨a, vs, ev, hs, A, env1, P.den, q.imp (fun ds env2 q ws H2 P2 r2 => q _ H2 (P.trans P2) ((P2.rps rs).append r2)) fun _ _ z => z.behind P⟩
theorem snd_tup {es : List Expr} {as : List (Bool × Sm)} {k : Nat} (h : SndD X W es as) : Snd X W (.Tuple es k pos) (sTup as) := .of ((pe_tup h.pa).imp fun σ H Q q => by
  obtain ⟨A, env, D, q⟩ := q
  have q : wp ((evDs as env).bd _) _ _ := q
  rw [wp_bd] at q
  refine ⟨A, env, D, q.imp (fun ds env1 q vs H1 P r => ?_) fun _ _ z => z⟩
  split at q
  · rename_i hl
    have e := r.length
    exact ⟨by omega, fun p hp => q _ _ (P.grow (Keep.upd (P := fun _ => False) hp).all) (.tup (.of upd_same) (r.grow (Keep.upd (P := fun _ => False) hp).all))⟩
  · exact q.elim) rfl
theorem snd_lst {es : List Expr} {as : List (Bool × Sm)} (h : SndD X W es as) : Snd X W (.List es pos) (sLst as) := .of ((pe_lst h.pa).imp fun σ H Q q => by
  obtain ⟨A, env, D, q⟩ := q
  have q : wp ((evDs as env).bd _) _ _ := q
  rw [wp_bd] at q
  refine ⟨A, env, D, q.imp (fun ds env1 q vs H1 P r => ?_) fun _ _ z => z⟩
  split at q
  · rename_i hl
    have e := r.length
    exact ⟨by omega, fun p hp => q _ _ (P.grow (Keep.upd (P := fun _ => False) hp).all) ⟨p, vs, rfl, P.keep.new hp, upd_same, P.den.fresh hp, P.den.amb1 hp, r.newIn hp⟩⟩
  · exact q.elim) rfl
end
end Tw
end STwC

section STwD
/-! Part D: operators on data. -/
namespace Tw
open PySem PySem.Spec PyProof.Rows L2

/-! ### reading a value's letter -/
section
variable {st : Bool} {K : PySem.W.Frag} {H H' : Hp} {B : Addr → Prop} {v : V}
theorem Ro.int {i : Int} (r : Ro st K H B v (.int i)) : v = .int i := by cases r; rfl
theorem Ro.bl {b : Bool} (r : Ro st K H B v (.bool b)) : v = .bl b := by cases r; rfl
theorem Ro.str {x : Str} (r : Ro st K H B v (.str x)) : v = .str x := by cases r; rfl
theorem Ro.non (r : Ro st K H B v .none) : v = .non := by cases r; rfl
theorem Ro.tup {ds : List PyData} (r : Ro st K H B v (.tuple ds)) : ∃ a xs, v = .ref a ∧ SqT K H a xs ∧ Rps K H B xs ds := by
  cases r with
  | tup h q => exact ⟨_, _, rfl, h, q⟩
theorem Ro.lst {ds : List PyData} (r : Ro true K H B v (.list ds)) : ∃ a xs, v = .ref a ∧ H a = some (.lst xs) ∧ Rps K H B xs ds := by
  obtain ⟨a, xs, e, _, h, q⟩ := r
  exact ⟨a, xs, e, h rfl, q⟩
theorem Ro.sql {ds : List PyData} (r : Ro st K H B v (.list ds)) : ∃ a xs, v = .ref a ∧ SqL K H a xs ∧ Rps K H B xs ds := by
  obtain ⟨a, xs, e, h, _, q⟩ := r
  exact ⟨a, xs, e, h, q⟩
theorem grow_upd {p : Addr} {o : HO} (hp : H p = none) : ∀ a u, H a = some u → upd H p o a = some u := (Keep.upd (P := fun _ => False) hp).all
/-- ends: a value of no object, a new tuple, a new list -/
theorem Lets.at0 {s : PyData} {w : V} {Q : VK} (q : Lets K H B (.frz s) Q) (r : Rp K H B w s) : Q w H := q w H (fun _ _ e => e) r
theorem Lets.newT {ds : List PyData} {xs : List V} {Q : VK} (q : Lets K H B (.frz (.tuple ds)) Q) (r : Rps K H B xs ds) (p : Addr) (hp : H p = none) : Q (.ref p) (upd H p (.tup xs)) :=
  q _ _ (grow_upd hp) (.tup (.of upd_same) (r.grow (grow_upd hp)))
theorem Lets.newL {ds : List PyData} {xs : List V} {Q : VK} (q : Lets K H B (.own ds) Q) (hB : ∀ a, B a → H a ≠ none) (r : Rps K H B xs ds) (p : Addr) (hp : H p = none) : Q (.ref p) (upd H p (.lst xs)) :=
  q _ _ (grow_upd hp) ⟨p, xs, rfl, hp, upd_same, fun z => hB p z hp, r.newIn hp⟩
end

/-! ### data in the heap, for the library's deep comparisons -/
section
variable {X : Cx} {pins : List (Addr × Obj)} {σ : St} {H : Hp} {s : Shared} {B : Addr → Prop}
mutual
theorem Rp.reads (I : Inv X pins σ H s) : ∀ {d : PyData} {v : V} {u : Value}, Rp X.K H B v d → d.canLay0 = true → RelV v u → ∃ as, Reads s.heap u d as
  | .none, _, _, h, _, r => by cases h; cases r; exact ⟨_, .none⟩
  | .bool b, _, _, h, _, r => by cases h; cases r; exact ⟨_, .bool b⟩
  | .int i, _, _, h, _, r => by
    cases h
    obtain ⟨t, rfl⟩ := r
    exact ⟨_, .int i t⟩
  | .str x, _, _, h, _, r => by
    cases h
    obtain ⟨t, rfl⟩ := r
    exact ⟨_, .str x t⟩
  | .list ds, _, _, h, c, r => by
    cases h with
    | lst hs _ ha =>
      cases r
      obtain ⟨its, rv, ⟨o, n, ho, hc, _, hd⟩, _⟩ := I.list (SqL.of hs)
      obtain ⟨as, hr⟩ := Rps.reads I ha (by simpa [PyData.canLay0] using c) rv
      exact ⟨_, .list ho hc hd hr⟩
  | .tuple ds, _, _, h, c, r => by
    cases h with
    | tup hs ha =>
      cases r
      obtain ⟨its, rv, ⟨o, ho, hc, n, hd⟩, _⟩ := I.tuple hs
      obtain ⟨as, hr⟩ := Rps.reads I ha (by simpa [PyData.canLay0] using c) rv
      exact ⟨_, .tuple ho hc hd hr⟩
  | .dict _, _, _, h, c, _ => by
    simp [PyData.canLay0] at c
theorem Rps.reads (I : Inv X pins σ H s) : ∀ {ds : List PyData} {vs : List V} {us : List Value}, Rps X.K H B vs ds → PyData.canLayAll0 ds = true → Vals vs us → ∃ as, ReadsAll s.heap us ds as
  | [], _, _, h, _, r => by cases h; cases r; exact ⟨_, .nil⟩
  | d :: ds, _, _, h, c, r => by
    cases h with
    | cons h1 h2 =>
      cases r with
      | cons r1 r2 =>
        simp only [PyData.canLayAll0, Bool.and_eq_true] at c
        obtain ⟨as, q1⟩ := Rp.reads I h1 c.1 r1
        obtain ⟨bs, q2⟩ := Rps.reads I h2 c.2 r2
        exact ⟨_, .cons q1 q2⟩
end
theorem Ro.reads {st : Bool} (I : Inv X pins σ H s) {d : PyData} {v : V} {u : Value} (h : Ro st X.K H B v d) (c : d.canLay0 = true) (r : RelV v u) : ∃ as, Reads s.heap u d as := by
  cases d with
  | list ds =>
    obtain ⟨a, xs, rfl, hs, ha⟩ := h.sql
    cases r
    obtain ⟨its, rv, ⟨o, n, ho, hc, _, hd⟩, _⟩ := I.list hs
    obtain ⟨as, hr⟩ := Rps.reads I ha (by simpa [PyData.canLay0] using c) rv
    exact ⟨_, .list ho hc hd hr⟩
  | none => exact Rp.reads I h c r
  | bool b => exact Rp.reads I h c r
  | int i => exact Rp.reads I h c r
  | str x => exact Rp.reads I h c r
  | tuple ds => exact Rp.reads I h c r
  | dict ds => exact Rp.reads I h c r
end

/-! ### + -/
def dAdd : List PyData → Option SV
  | [.int i, .int j] => some (.frz (.int (i + j)))
  | [.str x, .str y] => if x.length + y.length ≤ sizeLine then some (.frz (.str (x ++ y))) else none
  | [.tuple xs, .tuple ys] => if xs.length + ys.length ≤ sizeLine then some (.frz (.tuple (xs ++ ys))) else none
  | [.list xs, .list ys] => if xs.length + ys.length ≤ sizeLine then some (.own (xs ++ ys)) else none
  | _ => none
section
variable {X : Cx}
def rAddS : R2 := fun x y H Q => ∃ i j, x = .str i ∧ y = .str j ∧ i.length + j.length ≤ sizeLine ∧ Q (.str (i ++ j)) H
theorem op_dadd : OpR X (binaryOp .Add) (fun x y H Q => rI0 (fun i j => .int (i + j)) x y H Q ∨ rAddS x y H Q ∨ rCatA X.K x y H Q ∨ rCat x y H Q) :=
  op_add.or (op_add_str.or (op_catA.or op_cat))
theorem ok_add : OkB true X.K (fun x y H Q => rI0 (fun i j => .int (i + j)) x y H Q ∨ rAddS x y H Q ∨ rCatA X.K x y H Q ∨ rCat x y H Q) dAdd := by
  intro H B x y d e s Q hB rx ry ev q
  unfold dAdd at ev
  split at ev
  · rename_i i j heq
    cases heq; cases ev
    rw [rx.int, ry.int]
    exact .inl ⟨i, j, rfl, rfl, q.at0 (.int _)⟩
  · rename_i i j heq
    cases heq
    split at ev
    · rename_i hl
      cases ev
      rw [rx.str, ry.str]
      exact .inr (.inl ⟨i, j, rfl, rfl, hl, q.at0 (.str _)⟩)
    · cases ev
  · rename_i i j heq
    cases heq
    split at ev
    · rename_i hl
      cases ev
      obtain ⟨a, xs, rfl, ha, ra⟩ := rx.tup
      obtain ⟨b, ys, rfl, hb, rb⟩ := ry.tup
      have l1 := ra.length
      have l2 := rb.length
      refine .inr (.inr (.inl ⟨a, b, xs, ys, rfl, rfl, ha, hb, by omega, fun e => ?_, fun _ e => ?_, fun _ _ p hp => q.newT (ra.append rb) p hp⟩))
      · subst e
        cases ra
        exact q.at0 (.tup hb rb)
      · subst e
        cases rb
        rw [List.append_nil] at q
        exact q.at0 (.tup ha ra)
    · cases ev
  · rename_i i j heq
    cases heq
    split at ev
    · rename_i hl
      cases ev
      obtain ⟨a, xs, rfl, ha, ra⟩ := rx.lst
      obtain ⟨b, ys, rfl, hb, rb⟩ := ry.lst
      have l1 := ra.length
      have l2 := rb.length
      exact .inr (.inr (.inr ⟨a, b, xs, ys, rfl, rfl, ha, hb, by omega, fun p hp => q.newL hB (ra.append rb) p hp⟩))
    · cases ev
  · cases ev
end

/-! ### - * // % ** << and - in front -/
def dInt2 (c : Int → Int → Bool) (g : Int → Int → Int) : List PyData → Option SV
  | [.int i, .int j] => if c i j = true then some (.frz (.int (g i j))) else none
  | _ => none
theorem ok_int2 {K : PySem.W.Frag} {c : Int → Int → Bool} {g : Int → Int → Int} {C : Int → Int → Prop} (h : ∀ i j, c i j = true → C i j) : OkB false K (rI C fun i j => .int (g i j)) (dInt2 c g) := by
  intro H B x y d e s Q hB rx ry ev q
  unfold dInt2 at ev
  split at ev
  · rename_i i j heq
    cases heq
    split at ev
    · rename_i hc
      cases ev
      rw [rx.int, ry.int]
      exact ⟨i, j, rfl, rfl, h i j hc, q.at0 (.int _)⟩
    · cases ev
  · cases ev
def dSub : List PyData → Option SV
  | [.int i, .int j] => some (.frz (.int (i - j)))
  | _ => none
theorem ok_sub {K : PySem.W.Frag} : OkB false K (rI0 fun i j => .int (i - j)) dSub := by
  intro H B x y d e s Q hB rx ry ev q
  unfold dSub at ev
  split at ev
  · rename_i i j heq
    cases heq; cases ev
    rw [rx.int, ry.int]
    exact ⟨i, j, rfl, rfl, q.at0 (.int _)⟩
  · cases ev
def bitsOf (i : Int) : Nat := i.natAbs.log2
def mulOk (i j : Int) : Bool := decide (i.natAbs < 18446744073709551616 ∨ j.natAbs < 18446744073709551616 ∨ bitsOf i + bitsOf j < 1000000)
section
variable {X : Cx}
def CMulW' (i j : Int) : Prop := mulOk i j = true
theorem CMulW'.ok {i j : Int} (h : CMulW' i j) : IntMulOk i j := by
  have h' : i.natAbs < 18446744073709551616 ∨ j.natAbs < 18446744073709551616 ∨ bitsOf i + bitsOf j < 1000000 := of_decide_eq_true h
  rcases h' with h' | h' | h'
  · exact CMul.ok (.inl ⟨by omega, by omega⟩)
  · exact CMul.ok (.inr ⟨by omega, by omega⟩)
  have b : ∀ z : Int, Builtin.Int.intBits z ≤ bitsOf z + 1 := fun z => by
    unfold Builtin.Int.intBits bitsOf
    split <;> omega
  exact IntMulOk.of_le (b i) (b j) (by omega)
theorem op_mulI : OpR X (binaryOp .Mult) (rI CMulW' fun i j => .int (i * j)) := opI fun _ _ _ _ _ _ _ hc q => mul_int q hc.ok
def divOk (i j : Int) : Bool := j != 0 && !Builtin.divisionGoesByPylong i j
def CDivP (i j : Int) : Prop := divOk i j = true
theorem op_divI : OpR X (binaryOp .FloorDiv) (rI CDivP fun i j => .int (i.fdiv j)) := opI fun i j _ _ _ _ _ hc q => by
  have h : (j != 0 && !Builtin.divisionGoesByPylong i j) = true := hc
  rw [Bool.and_eq_true] at h
  exact floordiv_int (by simpa using h.1) q (.inl (by simpa using h.2))
def modOk (_ j : Int) : Bool := j != 0
theorem ok_mod {K : PySem.W.Frag} : OkB false K (rI (fun _ j => j ≠ 0) fun i j => .int (i.fmod j)) (dInt2 modOk Int.fmod) := ok_int2 fun i j h => by simpa [modOk] using h
theorem ok_div {K : PySem.W.Frag} : OkB false K (rI CDivP fun i j => .int (i.fdiv j)) (dInt2 divOk Int.fdiv) := ok_int2 fun i j h => h
def powOk (i j : Int) : Bool := decide (0 ≤ j ∧ j ≤ 1000000 ∧ i.natAbs < 2 ^ 64)
theorem ok_pow {K : PySem.W.Frag} : OkB false K (rI CPow fun i j => .int (i ^ j.toNat)) (dInt2 powOk fun i j => i ^ j.toNat) := ok_int2 fun i j h => of_decide_eq_true (p := 0 ≤ j ∧ j ≤ 1000000 ∧ i.natAbs < 2 ^ 64) h
theorem ok_shl {K : PySem.W.Frag} : OkB false K (rI CPow fun i j => .int (i * 2 ^ j.toNat)) (dInt2 powOk fun i j => i * 2 ^ j.toNat) := ok_int2 fun i j h => of_decide_eq_true (p := 0 ≤ j ∧ j ≤ 1000000 ∧ i.natAbs < 2 ^ 64) h
def dNeg : List PyData → Option SV
  | [.int i] => some (.frz (.int (-i)))
  | _ => none
theorem ok_neg {K : PySem.W.Frag} : OkU false K (rU fun i => .int (-i)) dNeg := by
  intro H B x d s Q hB rx ev q
  unfold dNeg at ev
  split at ev
  · rename_i i heq
    cases heq; cases ev
    rw [rx.int]
    exact ⟨i, rfl, q.at0 (.int _)⟩
  · cases ev
/-- tuple * int: none of it, the tuple itself, more -/
theorem mul_same (l : Addr) (items : Array Value) (n : Nat) (dd : Option Addr) (sl : Array (Option Value)) (x : Int) (u : Tok) (c0 : (decide (x < -(2 ^ 63)) || decide (x ≥ 2 ^ 63)) = false) (c1 : (items.isEmpty || x == 1) = true) :
    Meets (Builtin.«tuple.__mul__» ⟨[.ref l, .int x u], []⟩) (fun _ R s => s.heap.get? l = some { cls := .type "tuple", dict := dd, data := .seq items n, slots := sl } ∧ R (.ok (.ret (Value.ref l))) s) :=
  .of_wp fun prog w A R s h => by
    obtain ⟨hp, g, d, tk, os⟩ := s
    obtain ⟨hl, h⟩ := h
    have f1 := AutoSeq1.idx_int
    wp_walk using wpAny_loadPart' hl
    repeat (first
      | (refine wpAny_ite_false (decide_eq_false (by rw [c0]; exact Bool.false_ne_true)) ?_; wp_walk using wpAny_loadPart' hl)
      | (refine wpAny_ite_true (decide_eq_true c1) ?_; wp_walk using wpAny_loadPart' hl))
    exact ⟨_, rfl, h⟩
theorem mul_none (l : Addr) (items : Array Value) (n : Nat) (dd : Option Addr) (sl : Array (Option Value)) (x : Int) (u : Tok) (c0 : (decide (x < -(2 ^ 63)) || decide (x ≥ 2 ^ 63)) = false) (c1 : (items.isEmpty || x == 1) = false) (c2 : (decide (x ≤ 0) || items.isEmpty) = true) :
    Meets (Builtin.«tuple.__mul__» ⟨[.ref l, .int x u], []⟩) (fun _ R s => s.heap.get? l = some { cls := .type "tuple", dict := dd, data := .seq items n, slots := sl } ∧
      R (.ok (.ret (Value.ref s.heap.objs.size))) { s with heap := s.heap.push { cls := Value.type "tuple", data := Data.seq #[] }, toks := s.toks }) :=
  .of_wp fun prog w A R s h => by
    obtain ⟨hp, g, d, tk, os⟩ := s
    obtain ⟨hl, h⟩ := h
    have f1 := AutoSeq1.idx_int
    wp_walk using wpAny_loadPart' hl
    repeat (first
      | (refine wpAny_ite_false (decide_eq_false (by rw [c0]; exact Bool.false_ne_true)) ?_; wp_walk using wpAny_loadPart' hl)
      | (refine wpAny_ite_false (decide_eq_false (by rw [c1]; exact Bool.false_ne_true)) ?_; wp_walk using wpAny_loadPart' hl)
      | (refine wpAny_ite_true (decide_eq_true c2) ?_; wp_walk using wpAny_loadPart' hl))
    exact ⟨_, rfl, h⟩
/-- what t * k may give, by values -/
def rRepA (K : PySem.W.Frag) : R2 := fun x y H Q => ∃ l k xs, x = .ref l ∧ y = .int k ∧ SqT K H l xs ∧ k ≤ 1000 ∧ -1000 ≤ k ∧ xs.length ≤ 1000 ∧
  ((xs = [] ∨ k = 1) → Q (.ref l) H) ∧ (xs ≠ [] → k ≠ 1 → ∀ p, H p = none → Q (.ref p) (upd H p (.tup (List.replicate k.toNat xs).flatten)))
theorem op_repA : OpR X (binaryOp .Mult) (rRepA X.K) := by
  intro pins s σ H x y v u Q I rx ry h
  obtain ⟨l, k, xs, rfl, rfl, hT, h1, h0, hz, q1, q2⟩ := h
  by_cases hb : xs ≠ [] ∧ 2 ≤ k
  · exact op_repT pins s σ H _ _ v u Q I rx ry ⟨l, k, xs, rfl, rfl, hT, hb.1, hb.2, h1, hz, q2 hb.1 (by omega)⟩
  · cases rx
    obtain ⟨t, rfl⟩ := ry
    obtain ⟨its, r, ⟨⟨cls, dd, data, sl⟩, ho, hc, n, hd⟩, hs⟩ := I.tuple hT
    simp only at hc hd
    subst hc hd
    have c0 : (decide (k < -(2 ^ 63)) || decide (k ≥ 2 ^ 63)) = false := by
      rw [Bool.or_eq_false_iff]
      exact ⟨decide_eq_false (by omega), decide_eq_false (by omega)⟩
    have em : its.toArray.isEmpty = xs.isEmpty := by cases r <;> rfl
    cases c1 : (its.toArray.isEmpty || k == 1) with
    | true =>
      refine wpAny_binaryOp_repeat_ref (T := "tuple") (U := "int") (by decide) ⟨_, ho, rfl⟩ (fun s' => typeIs_int s' k t) noFill_tuple_mul F.fills_int_mul F.slot_int_rmul repeat_tuple F.slot_int_index.lookup
        (call_meets F.slot_int_rmul (typeIs_int s k t) F.entry_int_rmul (F.args_int_rmul_2 _ _) (int_rmul_tuple k t l its.toArray n dd sl)
          ⟨ho, rfl, ⟨_, ho, rfl⟩, call_meets F.slot_tuple_mul ⟨_, ho, rfl⟩ F.entry_tuple_mul (F.args_tuple_mul_2 _ _) (mul_same l its.toArray n dd sl k t c0 c1) ⟨ho, ?_⟩⟩)
      refine ⟨.ref l, H, I, rfl, q1 ?_⟩
      rw [em, Bool.or_eq_true] at c1
      rcases c1 with c | c
      · exact .inl (List.isEmpty_iff.mp c)
      · exact .inr (by simpa using c)
    | false =>
      have c1' := c1
      rw [em, Bool.or_eq_false_iff] at c1'
      have hne : xs ≠ [] := fun e => by rw [e] at c1'; exact absurd c1'.1 (by decide)
      have hk1 : k ≠ 1 := by simpa using c1'.2
      have hk : k ≤ 0 := by
        have : ¬ 2 ≤ k := fun z => hb ⟨hne, z⟩
        omega
      have c2 : (decide (k ≤ 0) || its.toArray.isEmpty) = true := by rw [decide_eq_true hk]; rfl
      refine wpAny_binaryOp_repeat_ref (T := "tuple") (U := "int") (by decide) ⟨_, ho, rfl⟩ (fun s' => typeIs_int s' k t) noFill_tuple_mul F.fills_int_mul F.slot_int_rmul repeat_tuple F.slot_int_index.lookup
        (call_meets F.slot_int_rmul (typeIs_int s k t) F.entry_int_rmul (F.args_int_rmul_2 _ _) (int_rmul_tuple k t l its.toArray n dd sl)
          ⟨ho, rfl, ⟨_, ho, rfl⟩, call_meets F.slot_tuple_mul ⟨_, ho, rfl⟩ F.entry_tuple_mul (F.args_tuple_mul_2 _ _) (mul_none l its.toArray n dd sl k t c0 c1 c2) ⟨ho, ?_⟩⟩)
      have hk0 : k.toNat = 0 := by omega
      have q3 := q2 hne hk1
      rw [hk0] at q3
      refine ⟨.ref s.heap.objs.size, _, I.laid (t' := s.toks) (o := .tup []) (fun b ob q => Heap.get?_push_of_some _ q) (Nat.le_refl _) ?_, rfl, q3 _ (I.hok.fresh (Nat.le_refl _))⟩
      exact ⟨Nat.zero_le _, [], .nil, IsTup.new _ _⟩
/-- int * int, list * int, tuple * int -/
def dMul : List PyData → Option SV
  | [.int i, .int j] => if mulOk i j = true then some (.frz (.int (i * j))) else none
  | [.list xs, .int k] => if -(2 ^ 63) ≤ k ∧ k < 2 ^ 63 ∧ xs.length * k.toNat ≤ sizeLine then some (.own (List.replicate k.toNat xs).flatten) else none
  | [.tuple xs, .int k] => if k ≤ 1000 ∧ -1000 ≤ k ∧ xs.length ≤ 1000 then some (.frz (.tuple (List.replicate k.toNat xs).flatten)) else none
  | _ => none
theorem op_dmul : OpR X (binaryOp .Mult) (fun x y H Q => rI CMulW' (fun i j => .int (i * j)) x y H Q ∨ rRep x y H Q ∨ rRepA X.K x y H Q) := op_mulI.or (op_rep.or op_repA)
theorem ok_mul : OkB true X.K (fun x y H Q => rI CMulW' (fun i j => .int (i * j)) x y H Q ∨ rRep x y H Q ∨ rRepA X.K x y H Q) dMul := by
  intro H B x y d e s Q hB rx ry ev q
  unfold dMul at ev
  split at ev
  · rename_i i j heq
    cases heq
    split at ev
    · rename_i hm
      cases ev
      rw [rx.int, ry.int]
      exact .inl ⟨i, j, rfl, rfl, hm, q.at0 (.int _)⟩
    · cases ev
  · rename_i i j heq
    cases heq
    split at ev
    · rename_i hl
      cases ev
      obtain ⟨a, xs, rfl, ha, ra⟩ := rx.lst
      rw [ry.int]
      have l1 := ra.length
      exact .inr (.inl ⟨a, j, xs, rfl, rfl, ha, hl.1, hl.2.1, by rw [l1]; exact hl.2.2, fun p hp => q.newL hB (ra.rep _) p hp⟩)
    · cases ev
  · rename_i i j heq
    cases heq
    split at ev
    · rename_i hl
      cases ev
      obtain ⟨a, xs, rfl, ha, ra⟩ := rx.tup
      rw [ry.int]
      have l1 := ra.length
      refine .inr (.inr ⟨a, j, xs, rfl, rfl, ha, hl.1, hl.2.1, by omega, fun e => ?_, fun _ _ p hp => q.newT (ra.rep _) p hp⟩)
      have eq : (List.replicate j.toNat i).flatten = i := by
        rcases e with e | e
        · subst e
          cases ra
          have : ∀ n : Nat, (List.replicate n ([] : List PyData)).flatten = [] := fun n => by
            induction n with
            | zero => rfl
            | succ n ih => rw [List.replicate_succ, List.flatten_cons, ih]; rfl
          exact this _
        · subst e
          show (List.replicate 1 i).flatten = i
          simp
      rw [eq] at q
      exact q.at0 (.tup ha ra)
    · cases ev
  · cases ev
end
end Tw
end STwD

section STwE
/-! Part E: comparisons, items, slices, built-in functions on data. -/
namespace Tw
open PySem PySem.Spec PyProof.Rows L2

/-! ### rules by data itself -/
abbrev rData (st : Bool) (K : PySem.W.Frag) (f : List PyData → Option SV) : List V → Hp → VK → Prop :=
  fun xs H Q => ∃ B ds s, (∀ a, B a → H a ≠ none) ∧ Ros st K H B xs ds ∧ f ds = some s ∧ Lets K H B s Q
abbrev rDataB (st : Bool) (K : PySem.W.Frag) (f : List PyData → Option SV) : R2 :=
  fun x y H Q => ∃ B d e s, (∀ a, B a → H a ≠ none) ∧ Ro st K H B x d ∧ Ro st K H B y e ∧ f [d, e] = some s ∧ Lets K H B s Q
theorem ok_data {st : Bool} {K : PySem.W.Frag} {f : List PyData → Option SV} : OkN st K (rData st K f) f := fun _ B _ ds s _ hB r ev q => ⟨B, ds, s, hB, r, ev, q⟩
theorem ok_dataB {st : Bool} {K : PySem.W.Frag} {f : List PyData → Option SV} : OkB st K (rDataB st K f) f := fun _ B _ _ d e s _ hB r r' ev q => ⟨B, d, e, s, hB, r, r', ev, q⟩
theorem Ros.one {st : Bool} {K : PySem.W.Frag} {H : Hp} {B : Addr → Prop} {xs : List V} {d : PyData} (r : Ros st K H B xs [d]) : ∃ x, xs = [x] ∧ Ro st K H B x d := by
  cases r with
  | cons r r2 => cases r2; exact ⟨_, rfl, r⟩
theorem Ros.two {st : Bool} {K : PySem.W.Frag} {H : Hp} {B : Addr → Prop} {xs : List V} {d e : PyData} (r : Ros st K H B xs [d, e]) : ∃ x y, xs = [x, y] ∧ Ro st K H B x d ∧ Ro st K H B y e := by
  cases r with
  | cons r r2 =>
    cases r2 with
    | cons r2 r3 => cases r3; exact ⟨_, _, rfl, r, r2⟩

/-! ### == and != -/
def eqOk (d e : PyData) : Bool := d.canLay0 && e.canLay0 && decide (min d.depth e.depth ≤ 60)
def eqD (d e : PyData) : Option Bool :=
  if eqOk d e = true then some (PyData.eqv d e) else match d, e with
    | .tuple [], .tuple ys => some ys.isEmpty
    | .tuple xs, .tuple [] => some xs.isEmpty
    | _, _ => none
def dEq : List PyData → Option SV
  | [d, e] => (eqD d e).bind fun b => some (.frz (.bool b))
  | _ => none
def dNe : List PyData → Option SV
  | [d, e] => (eqD d e).bind fun b => some (.frz (.bool !b))
  | _ => none
section
variable {X : Cx}
theorem eq_nil {pins : List (Addr × Obj)} {s : Shared} {σ : St} {H : Hp} {a b : Addr} {xs ys : List V} (I : Inv X pins σ H s) (hu : X.A.units < cLine) (ha : SqT X.K H a xs) (hb : SqT X.K H b ys) (h : xs = [] ∨ ys = [])
    {E : Value → Shared → Prop} {Q : Value → Shared → Prop} (q : Q (.bool (xs.isEmpty && ys.isEmpty)) s) : wpAny (model X.prog X.w) X.A (compareOp .Eq (.ref a) (.ref b)) Q E s := by
  obtain ⟨its, r1, p1, _⟩ := I.tuple ha
  obtain ⟨its2, r2, p2, _⟩ := I.tuple hb
  have e1 : its.isEmpty = xs.isEmpty := by cases r1 <;> rfl
  have e2 : its2.isEmpty = ys.isEmpty := by cases r2 <;> rfl
  refine SeqAt.eq_tupleAt (e := fun _ => true) p1 p2 hu (fun j h1 h2 => ?_) ?_
  · exfalso
    rw [List.size_toArray] at h1 h2
    rcases h with rfl | rfl
    · cases r1; exact Nat.not_lt_zero _ h1
    · cases r2; exact Nat.not_lt_zero _ h2
  · have : ((List.range (min its.toArray.size its2.toArray.size)).all (fun _ => true) && its.toArray.size == its2.toArray.size) = (xs.isEmpty && ys.isEmpty) := by
      rw [← e1, ← e2, List.size_toArray, List.size_toArray]
      rcases h with rfl | rfl
      · cases r1
        cases its2 <;> simp
      · cases r2
        cases its <;> simp
    rw [this]; exact q
theorem ne_nil {pins : List (Addr × Obj)} {s : Shared} {σ : St} {H : Hp} {a b : Addr} {xs ys : List V} (I : Inv X pins σ H s) (hu : X.A.units < cLine) (ha : SqT X.K H a xs) (hb : SqT X.K H b ys) (h : xs = [] ∨ ys = [])
    {E : Value → Shared → Prop} {Q : Value → Shared → Prop} (q : Q (.bool (!(xs.isEmpty && ys.isEmpty))) s) : wpAny (model X.prog X.w) X.A (compareOp .NotEq (.ref a) (.ref b)) Q E s := by
  obtain ⟨its, r1, p1, _⟩ := I.tuple ha
  obtain ⟨its2, r2, p2, _⟩ := I.tuple hb
  have e1 : its.isEmpty = xs.isEmpty := by cases r1 <;> rfl
  have e2 : its2.isEmpty = ys.isEmpty := by cases r2 <;> rfl
  have hq : ((List.range (min its.toArray.size its2.toArray.size)).all (fun _ => true) && its.toArray.size == its2.toArray.size) = (xs.isEmpty && ys.isEmpty) := by
    rw [← e1, ← e2, List.size_toArray, List.size_toArray]
    rcases h with rfl | rfl
    · cases r1
      cases its2 <;> simp
    · cases r2
      cases its <;> simp
  refine SeqAt.RcNeAt.tuples (e := fun _ => true) p1 p2 hu (fun j h1 h2 => ?_) X.prog X.w E Q ?_
  · exfalso
    rw [List.size_toArray] at h1 h2
    rcases h with rfl | rfl
    · cases r1; exact Nat.not_lt_zero _ h1
    · cases r2; exact Nat.not_lt_zero _ h2
  · rw [hq]; exact q
theorem eqOk_is {d e : PyData} (h : eqOk d e = true) : d.canLay0 = true ∧ e.canLay0 = true ∧ min d.depth e.depth ≤ 60 := by
  unfold eqOk at h
  rw [Bool.and_eq_true, Bool.and_eq_true] at h
  exact ⟨h.1.1, h.1.2, of_decide_eq_true h.2⟩
theorem op_deq (hu : X.A.units + 64 < cLine) : OpR X (compareOp .Eq) (rDataB false X.K dEq) := by
  intro pins s σ H x y v u Q I rx ry h
  obtain ⟨B, d, e, z, hB, hx, hy, ev, q⟩ := h
  obtain ⟨b, e1, ev⟩ := Option.bind_eq_some_iff.mp ev
  cases ev
  have fin : EP X pins σ Q (.bool b) s := ⟨.bl b, H, I, rfl, q.at0 (.bl b)⟩
  unfold eqD at e1
  split at e1
  · rename_i hok
    obtain ⟨c1, c2, c3⟩ := eqOk_is hok
    cases e1
    obtain ⟨as, r1⟩ := hx.reads I c1 rx
    obtain ⟨bs, r2⟩ := hy.reads I c2 ry
    exact SeqAt.compareEq_reads r1 r2 c1 c2 (by omega) fin
  · split at e1
    · cases e1
      obtain ⟨a, xs, rfl, ha, ra⟩ := hx.tup
      obtain ⟨c, ys, rfl, hc, rc⟩ := hy.tup
      cases rx; cases ry; cases ra
      exact eq_nil I (by omega) ha hc (.inl rfl) (by rw [rc.empty]; exact fin)
    · cases e1
      obtain ⟨a, xs, rfl, ha, ra⟩ := hx.tup
      obtain ⟨c, ys, rfl, hc, rc⟩ := hy.tup
      cases rx; cases ry; cases rc
      exact eq_nil I (by omega) ha hc (.inr rfl) (by rw [ra.empty, List.isEmpty_nil, Bool.and_true]; exact fin)
    · cases e1
theorem op_dne (hu : X.A.units + 64 < cLine) : OpR X (compareOp .NotEq) (rDataB false X.K dNe) := by
  intro pins s σ H x y v u Q I rx ry h
  obtain ⟨B, d, e, z, hB, hx, hy, ev, q⟩ := h
  obtain ⟨b, e1, ev⟩ := Option.bind_eq_some_iff.mp ev
  cases ev
  have fin : EP X pins σ Q (.bool !b) s := ⟨.bl !b, H, I, rfl, q.at0 (.bl !b)⟩
  unfold eqD at e1
  split at e1
  · rename_i hok
    obtain ⟨c1, c2, c3⟩ := eqOk_is hok
    cases e1
    obtain ⟨as, r1⟩ := hx.reads I c1 rx
    obtain ⟨bs, r2⟩ := hy.reads I c2 ry
    exact SeqAt.compareNe_reads r1 r2 c1 c2 (by omega) fin
  · split at e1
    · cases e1
      obtain ⟨a, xs, rfl, ha, ra⟩ := hx.tup
      obtain ⟨c, ys, rfl, hc, rc⟩ := hy.tup
      cases rx; cases ry; cases ra
      exact ne_nil I (by omega) ha hc (.inl rfl) (by rw [rc.empty]; exact fin)
    · cases e1
      obtain ⟨a, xs, rfl, ha, ra⟩ := hx.tup
      obtain ⟨c, ys, rfl, hc, rc⟩ := hy.tup
      cases rx; cases ry; cases rc
      exact ne_nil I (by omega) ha hc (.inr rfl) (by rw [ra.empty, List.isEmpty_nil, Bool.and_true]; exact fin)
    · cases e1
end

/-! ### the order: ints, and alike data -/
open PySem.W in
def ordOk (d e : PyData) : Bool := eqOk d e && alike d e && (match d with | .none => false | _ => true)
open PySem.W in
def dOrd (f : Int → Int → Bool) (g : PyData → PyData → Bool) : List PyData → Option SV
  | [.int i, .int j] => some (.frz (.bool (f i j)))
  | [d, e] => if ordOk d e = true then some (.frz (.bool (g d e))) else none
  | _ => none
def dLt := dOrd (fun i j => decide (i < j)) fun d e => PySem.W.dataLt d e
def dGt := dOrd (fun i j => decide (j < i)) fun d e => PySem.W.dataLt e d
def dLe := dOrd (fun i j => decide (i ≤ j)) fun d e => !PySem.W.dataLt e d
def dGe := dOrd (fun i j => decide (j ≤ i)) fun d e => !PySem.W.dataLt d e
section
variable {X : Cx}
theorem ord_gen {op : CmpOp} {f : Int → Int → Bool} {g : PyData → PyData → Bool} (hu : X.A.units + 64 < cLine) (hi : OpR X (compareOp op) (rI0 fun i j => .bl (f i j)))
    (hd : ∀ (s : Shared) (v u : Value) (d e : PyData) (as bs : List Addr) (E : Value → Shared → Prop) (Q : Value → Shared → Prop), Reads s.heap v d as → Reads s.heap u e bs → PySem.W.alike d e = true → d ≠ .none → X.A.units + min d.depth e.depth < cLine → Q (.bool (g d e)) s → wpAny (model X.prog X.w) X.A (compareOp op v u) Q E s) :
    OpR X (compareOp op) (rDataB false X.K (dOrd f g)) := by
  intro pins s σ H x y v u Q I rx ry h
  obtain ⟨B, d, e, z, hB, hx, hy, ev, q⟩ := h
  unfold dOrd at ev
  split at ev
  · rename_i i j heq
    cases heq; cases ev
    have h1 := hx.int
    have h2 := hy.int
    subst h1 h2
    exact hi pins s σ H _ _ v u Q I rx ry ⟨i, j, rfl, rfl, q.at0 (.bl _)⟩
  · rename_i d' e' _ heq
    cases heq
    split at ev
    · rename_i hok
      cases ev
      unfold ordOk at hok
      rw [Bool.and_eq_true, Bool.and_eq_true] at hok
      obtain ⟨c1, c2, c3⟩ := eqOk_is hok.1.1
      obtain ⟨as, r1⟩ := hx.reads I c1 rx
      obtain ⟨bs, r2⟩ := hy.reads I c2 ry
      exact hd s v u _ _ as bs _ _ r1 r2 hok.1.2 (fun z => by rw [z] at hok; exact absurd hok.2 (by decide)) (by omega) ⟨.bl _, H, I, rfl, q.at0 (.bl _)⟩
    · cases ev
  · cases ev
theorem op_dlt (hu : X.A.units + 64 < cLine) : OpR X (compareOp .Lt) (rDataB false X.K dLt) := ord_gen hu op_lt fun _ _ _ _ _ _ _ _ _ r1 r2 a n h q => PySem.W.lt_data r1 r2 a n h q
theorem op_dgt (hu : X.A.units + 64 < cLine) : OpR X (compareOp .Gt) (rDataB false X.K dGt) := ord_gen hu op_gt fun _ _ _ _ _ _ _ _ _ r1 r2 a n h q => PySem.W.gt_data r1 r2 a n h q
theorem op_dle (hu : X.A.units + 64 < cLine) : OpR X (compareOp .LtE) (rDataB false X.K dLe) := ord_gen hu op_le fun _ _ _ _ _ _ _ _ _ r1 r2 a n h q => PySem.W.le_data r1 r2 a n h q
theorem op_dge (hu : X.A.units + 64 < cLine) : OpR X (compareOp .GtE) (rDataB false X.K dGe) := ord_gen hu op_ge fun _ _ _ _ _ _ _ _ _ r1 r2 a n h q => PySem.W.ge_data r1 r2 a n h q
end

/-! ### in, not in: a tuple, a list; is None -/
def inOk (d : PyData) (es : List PyData) : Bool := d.canLay0 && PyData.canLayAll0 es && decide (min (PyData.depthAll es) d.depth ≤ 60)
def inD : List PyData → Option Bool
  | [d, .tuple es] => if inOk d es = true then some (es.any fun y => PyData.eqv y d) else none
  | [d, .list es] => if inOk d es = true then some (es.any fun y => PyData.eqv y d) else none
  | _ => none
def dIn (ds : List PyData) : Option SV := (inD ds).bind fun b => some (.frz (.bool b))
def dNotIn (ds : List PyData) : Option SV := (inD ds).bind fun b => some (.frz (.bool !b))
section
variable {X : Cx}
theorem inOk_is {d : PyData} {es : List PyData} (h : inOk d es = true) : d.canLay0 = true ∧ PyData.canLayAll0 es = true ∧ min (PyData.depthAll es) d.depth ≤ 60 := by
  unfold inOk at h
  rw [Bool.and_eq_true, Bool.and_eq_true] at h
  exact ⟨h.1.1, h.1.2, of_decide_eq_true h.2⟩
theorem op_din (hu : X.A.units + 64 < cLine) : OpR X (compareOp .In) (rDataB false X.K dIn) := by
  intro pins s σ H x y v u Q I rx ry h
  obtain ⟨B, d, e, z, hB, hx, hy, ev, q⟩ := h
  obtain ⟨b, e1, ev⟩ := Option.bind_eq_some_iff.mp ev
  cases ev
  have fin : EP X pins σ Q (.bool b) s := ⟨.bl b, H, I, rfl, q.at0 (.bl b)⟩
  unfold inD at e1
  split at e1
  · rename_i heq
    cases heq
    split at e1
    · rename_i hok
      obtain ⟨c1, c2, c3⟩ := inOk_is hok
      cases e1
      obtain ⟨as, r1⟩ := hx.reads I c1 rx
      obtain ⟨bs, r2⟩ := hy.reads I (by simpa [PyData.canLay0] using c2) ry
      exact SeqAt.in_tuple_reads r2 r1 c2 c1 (by omega) fin
    · cases e1
  · rename_i heq
    cases heq
    split at e1
    · rename_i hok
      obtain ⟨c1, c2, c3⟩ := inOk_is hok
      cases e1
      obtain ⟨as, r1⟩ := hx.reads I c1 rx
      obtain ⟨bs, r2⟩ := hy.reads I (by simpa [PyData.canLay0] using c2) ry
      exact SeqAt.in_list_reads r2 r1 c2 c1 (by omega) fin
    · cases e1
  · cases e1
theorem op_dnotIn (hu : X.A.units + 64 < cLine) : OpR X (compareOp .NotIn) (rDataB false X.K dNotIn) := by
  intro pins s σ H x y v u Q I rx ry h
  obtain ⟨B, d, e, z, hB, hx, hy, ev, q⟩ := h
  obtain ⟨b, e1, ev⟩ := Option.bind_eq_some_iff.mp ev
  cases ev
  have fin : EP X pins σ Q (.bool !b) s := ⟨.bl !b, H, I, rfl, q.at0 (.bl !b)⟩
  unfold inD at e1
  split at e1
  · rename_i heq
    cases heq
    split at e1
    · rename_i hok
      obtain ⟨c1, c2, c3⟩ := inOk_is hok
      cases e1
      obtain ⟨as, r1⟩ := hx.reads I c1 rx
      obtain ⟨bs, r2⟩ := hy.reads I (by simpa [PyData.canLay0] using c2) ry
      exact SeqAt.notIn_tuple_reads r2 r1 c2 c1 (by omega) fin
    · cases e1
  · rename_i heq
    cases heq
    split at e1
    · rename_i hok
      obtain ⟨c1, c2, c3⟩ := inOk_is hok
      cases e1
      obtain ⟨as, r1⟩ := hx.reads I c1 rx
      obtain ⟨bs, r2⟩ := hy.reads I (by simpa [PyData.canLay0] using c2) ry
      exact SeqAt.notIn_list_reads r2 r1 c2 c1 (by omega) fin
    · cases e1
  · cases e1
end
def isNoneD : PyData → Bool
  | .none => true
  | _ => false
/-- the right side a written None -/
def dIsNone : List PyData → Option SV
  | [d, .none] => some (.frz (.bool (isNoneD d)))
  | _ => none
def dNotNone : List PyData → Option SV
  | [d, .none] => some (.frz (.bool !isNoneD d))
  | _ => none
theorem Ro.isNone {st : Bool} {K : PySem.W.Frag} {H : Hp} {B : Addr → Prop} {v : V} {d : PyData} (r : Ro st K H B v d) : decide (v = .non) = isNoneD d := by
  cases d with
  | none => rw [r.non]; rfl
  | bool b => rw [r.bl]; rfl
  | int i => rw [r.int]; rfl
  | str x => rw [r.str]; rfl
  | list ds => obtain ⟨a, xs, rfl, _⟩ := r; rfl
  | tuple ds => obtain ⟨a, xs, rfl, _⟩ := r.tup; rfl
  | dict ds => cases r with | dct h => rfl
theorem ok_isNone {K : PySem.W.Frag} : OkB false K (fun x y H Q => y = .non ∧ Q (.bl (decide (x = .non))) H) dIsNone := by
  intro H B x y d e s Q hB rx ry ev q
  unfold dIsNone at ev
  split at ev
  · rename_i heq
    cases heq; cases ev
    exact ⟨ry.non, by rw [rx.isNone]; exact q.at0 (.bl _)⟩
  · cases ev
theorem ok_notNone {K : PySem.W.Frag} : OkB false K (fun x y H Q => y = .non ∧ Q (.bl (!decide (x = .non))) H) dNotNone := by
  intro H B x y d e s Q hB rx ry ev q
  unfold dNotNone at ev
  split at ev
  · rename_i heq
    cases heq; cases ev
    exact ⟨ry.non, by rw [rx.isNone]; exact q.at0 (.bl _)⟩
  · cases ev

/-! ### items -/
def atD (xs : List PyData) (i : Int) : Option PyData := atI xs i
def dIdx : List PyData → Option SV
  | [.tuple xs, .int i] => (atD xs i).bind fun d => some (.frz d)
  | [.list xs, .int i] => (atD xs i).bind fun d => some (.frz d)
  | [.str x, .int i] => if x.length ≤ sizeLine then (atI x.cps.toList i).bind fun c => some (.frz (.str ⟨#[c]⟩)) else none
  | _ => none
theorem Rps.atI {K : PySem.W.Frag} {H : Hp} {B : Addr → Prop} {vs : List V} {ds : List PyData} {i : Int} {d : PyData} (r : Rps K H B vs ds) (e : atD ds i = some d) : ∃ v, L2.atI vs i = some v ∧ Rp K H B v d := by
  unfold atD L2.atI at e
  obtain ⟨j, e1, e2⟩ := Option.bind_eq_some_iff.mp e
  obtain ⟨v, h1, h2⟩ := r.get e2
  exact ⟨v, by unfold L2.atI; rw [r.length, e1]; exact h1, h2⟩
theorem ok_idx {K : PySem.W.Frag} : OkB false K (rIx K) dIdx := by
  intro H B x y d e s Q hB rx ry ev q
  unfold dIdx at ev
  split at ev
  · rename_i heq
    cases heq
    obtain ⟨z, e1, ev⟩ := Option.bind_eq_some_iff.mp ev
    cases ev
    obtain ⟨a, xs, rfl, ha, ra⟩ := rx.tup
    rw [ry.int]
    obtain ⟨v, h1, h2⟩ := ra.atI e1
    exact .inr (.inl ⟨a, xs, _, v, rfl, rfl, ha, h1, q.at0 h2⟩)
  · rename_i heq
    cases heq
    obtain ⟨z, e1, ev⟩ := Option.bind_eq_some_iff.mp ev
    cases ev
    obtain ⟨a, xs, rfl, ha, ra⟩ := rx.sql
    rw [ry.int]
    obtain ⟨v, h1, h2⟩ := ra.atI e1
    exact .inl ⟨a, xs, _, v, rfl, rfl, ha, h1, q.at0 h2⟩
  · rename_i heq
    cases heq
    split at ev
    · rename_i hl
      obtain ⟨z, e1, ev⟩ := Option.bind_eq_some_iff.mp ev
      cases ev
      rw [rx.str, ry.int]
      exact .inr (.inr ⟨_, _, z, rfl, rfl, hl, e1, q.at0 (.str _)⟩)
    · cases ev
  · cases ev
end Tw
end STwE

section STwF
/-! Part F: slices, built-in functions. -/
namespace Tw
open PySem PySem.Spec PyProof.Rows L2

/-! ### slices -/
def evP : Option Sm → EV → Res (Option Int)
  | none, env => .mk none env
  | some s, env => (s.o env).bd fun o env1 => sure (rd false env1 o) fun d => match d with
    | .int i => .mk (some i) env1
    | _ => none
def cutL {α : Type} (xs : List α) (lo hi : Option Int) : List α := (xs.drop (HT.sIx xs.length 0 lo)).take (HT.sIx xs.length xs.length hi - HT.sIx xs.length 0 lo)
def cutD (lo hi : Option Int) : PyData → Option SV
  | .list ds => some (.own (cutL ds lo hi))
  | .tuple ds => some (.frz (.tuple (cutL ds lo hi)))
  | .str x => if x.length ≤ sizeLine then some (.frz (.str (cutS x lo hi))) else none
  | _ => none
def vSl (b : Sm) (lo hi : Option Sm) (env : EV) : Res SV := (b.o env).bd fun o env1 => (evP lo env1).bd fun l env2 => (evP hi env2).bd fun u env3 => sure (rd false env3 o) fun d => sure (cutD l u d) fun r => .mk r env3
def sSl (b : Sm) (lo hi : Option Sm) : Sm := .of (vSl b lo hi)
def tP (c : Ct) (p : Option Sm) : TO := fun σ H Q => ∃ A env, Den c.K A env σ H ∧ wp (evP p env) (fun i env' => ∀ H', Post c.K A env σ H env' H' → Q i H') (XW c A env σ H)
theorem Rps.cut {K : PySem.W.Frag} {H : Hp} {B : Addr → Prop} {vs : List V} {ds : List PyData} (r : Rps K H B vs ds) (lo hi : Option Int) : Rps K H B (cutV vs lo hi) (cutL ds lo hi) := by
  unfold cutV cutL
  rw [r.length]
  exact (r.drop _).take _
theorem cutL_all {α : Type} {xs : List α} {lo hi : Option Int} (h : HT.sIx xs.length 0 lo = 0 ∧ HT.sIx xs.length xs.length hi = xs.length) : cutL xs lo hi = xs := by
  unfold cutL
  rw [h.1, h.2]
  simp
section
variable {X : Cx} {W : WX}
inductive SndP (X : Cx) (W : WX) : Option Expr → Option Sm → Prop
  | none : SndP X W none none
  | some {e : Expr} {s : Sm} : Snd X W e s → SndP X W (some e) (some s)
theorem SndP.po : ∀ {e : Option Expr} {s : Option Sm}, SndP X W e s → PO X e (tP (.ofX X W) s)
  | _, _, .none => ⟨fun pins s σ H Q I h => po_none.run pins s σ H Q I (by
      obtain ⟨A, env, D, q⟩ := h
      exact q H D.post)⟩
  | _, _, .some h => ⟨fun pins s σ H Q I q => (po_some h.o).run pins s σ H Q I (by
      obtain ⟨A, env, D, q⟩ := q
      simp only [evP, wp_bd] at q
      refine ⟨A, env, D, q.imp (fun o env1 q v H1 P r => ?_) fun _ _ z => z⟩
      obtain ⟨d, e, q⟩ := wp_sure q
      have r' := r.read P.den e
      cases d with
      | int i => exact ⟨i, r'.int, q H1 P⟩
      | _ => exact q.elim)⟩
abbrev rSlAll (K : PySem.W.Frag) : V → Option Int → Option Int → Hp → VK → Prop := fun x lo hi H Q => rSlL K x lo hi H Q ∨ rSlA K x lo hi H Q ∨ rSlS x lo hi H Q
theorem sl_all : SlR X (rSlAll X.K) := sl_list.or (sl_tupA.or sl_str)
theorem snd_sl {b : Expr} {lo hi : Option Expr} {sb : Sm} {sl sh : Option Sm} {p2 pos : Pos} (hb : Snd X W b sb) (hl : SndP X W lo sl) (hh : SndP X W hi sh) : Snd X W (.Subscript b (.Slice lo hi none p2) pos) (sSl sb sl sh) := by
  refine .of ((pe_slice sl_all hb.o hl.po hh.po).imp fun σ H Q q => ?_) rfl
  obtain ⟨A, env, D, q⟩ := q
  have q : wp (vSl sb sl sh env) _ _ := q
  simp only [vSl, wp_bd] at q
  refine ⟨A, env, D, q.imp (fun o env1 q v H1 P r => ⟨A, env1, P.den, q.imp (fun l env2 q H2 P2 => ⟨A, env2, P2.den, q.imp (fun u env3 q H3 P3 => ?_) fun _ _ z => z.behind (P.trans P2)⟩) fun _ _ z => z.behind P⟩) fun _ _ z => z⟩
  obtain ⟨d, e1, q1⟩ := wp_sure q
  obtain ⟨s, e2, q2⟩ := wp_sure q1
  clear q q1
  have P4 := (P.trans P2).trans P3
  have ro := ((r.post P2).post P3).read P3.den e1
  have lets := P4.lets q2
  have hB := P3.den.bound
  unfold cutD at e2
  split at e2
  · cases e2
    obtain ⟨a, xs, rfl, ha, ra⟩ := ro.sql
    exact .inl ⟨a, xs, rfl, ha, fun p hp => lets.newL hB (ra.cut l u) p hp⟩
  · cases e2
    obtain ⟨a, xs, rfl, ha, ra⟩ := ro.tup
    refine .inr (.inl ⟨a, xs, rfl, ha, fun e => ?_, fun _ p hp => lets.newT (ra.cut l u) p hp⟩)
    rw [ra.length] at e
    rw [cutL_all e] at lets
    exact lets.at0 (.tup ha ra)
  · split at e2
    · rename_i hl
      cases e2
      exact .inr (.inr ⟨_, ro.str, hl, lets.at0 (.str _)⟩)
    · cases e2
  · cases e2
end

/-! ### functions -/
def dLen : List PyData → Option SV
  | [.list ds] => some (.frz (.int ds.length))
  | [.tuple ds] => some (.frz (.int ds.length))
  | [.str x] => if x.length ≤ sizeLine then some (.frz (.int x.length)) else none
  | _ => none
def dAbs : List PyData → Option SV
  | [.int i] => some (.frz (.int (if i < 0 then -i else i)))
  | _ => none
def dInt : List PyData → Option SV
  | [.int i] => some (.frz (.int i))
  | [.bool b] => some (.frz (.int (if b then 1 else 0)))
  | _ => none
def intsD : List PyData → Option (List Int)
  | [] => some []
  | .int i :: r => (intsD r).bind fun is => some (i :: is)
  | _ => none
def boolsD : List PyData → Option (List Bool)
  | [] => some []
  | .bool b :: r => (boolsD r).bind fun bs => some (b :: bs)
  | _ => none
theorem intsD_map : ∀ is : List Int, intsD (is.map PyData.int) = some is
  | [] => rfl
  | i :: r => by
    show (intsD (r.map PyData.int)).bind _ = _
    rw [intsD_map r]; rfl
theorem boolsD_map : ∀ bs : List Bool, boolsD (bs.map PyData.bool) = some bs
  | [] => rfl
  | b :: r => by
    show (boolsD (r.map PyData.bool)).bind _ = _
    rw [boolsD_map r]; rfl
def dMax : List PyData → Option SV
  | [.int i, .int j] => some (.frz (.int (max i j)))
  | [.list ds] => (intsD ds).bind fun is => match is with
    | [] => none
    | i :: r => some (.frz (.int (r.foldl max i)))
  | [.tuple ds] => (intsD ds).bind fun is => match is with
    | [] => none
    | i :: r => some (.frz (.int (r.foldl max i)))
  | _ => none
def dMin : List PyData → Option SV
  | [.int i, .int j] => some (.frz (.int (min i j)))
  | [.list ds] => (intsD ds).bind fun is => match is with
    | [] => none
    | i :: r => some (.frz (.int (r.foldl min i)))
  | [.tuple ds] => (intsD ds).bind fun is => match is with
    | [] => none
    | i :: r => some (.frz (.int (r.foldl min i)))
  | _ => none
def dSum : List PyData → Option SV
  | [.list ds] => (intsD ds).bind fun is => some (.frz (.int is.sum))
  | _ => none
def dAny : List PyData → Option SV
  | [.list ds] => (boolsD ds).bind fun bs => some (.frz (.bool (bs.any id)))
  | _ => none
def dAll : List PyData → Option SV
  | [.list ds] => (boolsD ds).bind fun bs => some (.frz (.bool (bs.all id)))
  | _ => none
def dDivmod : List PyData → Option SV
  | [.int i, .int j] => if 0 < j ∧ j < 1073741824 then some (.frz (.tuple [.int (i / j), .int (i % j)])) else none
  | _ => none
def dList : List PyData → Option SV
  | [.list ds] => some (.own ds)
  | [.tuple ds] => some (.own ds)
  | _ => none
def dTuple : List PyData → Option SV
  | [.list ds] => some (.frz (.tuple ds))
  | [.tuple ds] => some (.frz (.tuple ds))
  | _ => none
def dGcd : List PyData → Option SV
  | [.int a, .int b] => some (.frz (.int ((Nat.gcd a.natAbs b.natAbs : Nat) : Int)))
  | _ => none
section
variable {K : PySem.W.Frag} {H : Hp} {B : Addr → Prop}
theorem Rps.asInts : ∀ {vs : List V} {ds : List PyData} {is : List Int}, Rps K H B vs ds → intsD ds = some is → vs = is.map V.int ∧ ds = is.map PyData.int
  | _, [], _, .nil, e => by cases e; exact ⟨rfl, rfl⟩
  | _, .int i :: ds, is, .cons r s, e => by
    obtain ⟨js, e1, e2⟩ := Option.bind_eq_some_iff.mp e
    cases e2
    obtain ⟨h1, h2⟩ := Rps.asInts s e1
    cases r
    exact ⟨by rw [h1]; rfl, by rw [h2]; rfl⟩
  | _, .none :: _, _, _, e => by cases e
  | _, .bool _ :: _, _, _, e => by cases e
  | _, .str _ :: _, _, _, e => by cases e
  | _, .list _ :: _, _, _, e => by cases e
  | _, .tuple _ :: _, _, _, e => by cases e
  | _, .dict _ :: _, _, _, e => by cases e
theorem Rps.asBools : ∀ {vs : List V} {ds : List PyData} {bs : List Bool}, Rps K H B vs ds → boolsD ds = some bs → vs = bs.map V.bl
  | _, [], _, .nil, e => by cases e; rfl
  | _, .bool b :: ds, is, .cons r s, e => by
    obtain ⟨js, e1, e2⟩ := Option.bind_eq_some_iff.mp e
    cases e2
    have h1 := Rps.asBools s e1
    cases r
    rw [h1]; rfl
  | _, .none :: _, _, _, e => by cases e
  | _, .int _ :: _, _, _, e => by cases e
  | _, .str _ :: _, _, _, e => by cases e
  | _, .list _ :: _, _, _, e => by cases e
  | _, .tuple _ :: _, _, _, e => by cases e
  | _, .dict _ :: _, _, _, e => by cases e
theorem ok_len : OkN false K (fun xs H Q => ∃ x n, xs = [x] ∧ LenV K x H n ∧ Q (.int n) H) dLen := by
  intro H B xs ds s Q hB rx ev q
  unfold dLen at ev
  split at ev
  · cases ev
    obtain ⟨x, rfl, r⟩ := rx.one
    obtain ⟨a, vs, rfl, ha, ra⟩ := r.sql
    exact ⟨_, _, rfl, .inl ⟨vs, ha, rfl⟩, by rw [ra.length]; exact q.at0 (.int _)⟩
  · cases ev
    obtain ⟨x, rfl, r⟩ := rx.one
    obtain ⟨a, vs, rfl, ha, ra⟩ := r.tup
    exact ⟨_, _, rfl, .inr ⟨vs, ha, rfl⟩, by rw [ra.length]; exact q.at0 (.int _)⟩
  · split at ev
    · rename_i hl
      cases ev
      obtain ⟨x, rfl, r⟩ := rx.one
      exact ⟨_, _, rfl, by rw [r.str]; exact ⟨hl, rfl⟩, q.at0 (.int _)⟩
    · cases ev
  · cases ev
theorem ok_abs : OkN false K (fun xs H Q => ∃ i, xs = [.int i] ∧ Q (.int (if i < 0 then -i else i)) H) dAbs := by
  intro H B xs ds s Q hB rx ev q
  unfold dAbs at ev
  split at ev
  · cases ev
    obtain ⟨x, rfl, r⟩ := rx.one
    exact ⟨_, by rw [r.int], q.at0 (.int _)⟩
  · cases ev
theorem ok_int : OkN false K (fun xs H Q => (∃ i, xs = [.int i] ∧ Q (.int i) H) ∨ ∃ k, xs = [.bl k] ∧ Q (.int (if k then 1 else 0)) H) dInt := by
  intro H B xs ds s Q hB rx ev q
  unfold dInt at ev
  split at ev
  · cases ev
    obtain ⟨x, rfl, r⟩ := rx.one
    exact .inl ⟨_, by rw [r.int], q.at0 (.int _)⟩
  · cases ev
    obtain ⟨x, rfl, r⟩ := rx.one
    exact .inr ⟨_, by rw [r.bl], q.at0 (.int _)⟩
  · cases ev
theorem ok_sum : OkN false K (rSum K) dSum := by
  intro H B xs ds s Q hB rx ev q
  unfold dSum at ev
  split at ev
  · obtain ⟨is, e1, ev⟩ := Option.bind_eq_some_iff.mp ev
    cases ev
    obtain ⟨x, rfl, r⟩ := rx.one
    obtain ⟨a, vs, rfl, ha, ra⟩ := r.sql
    obtain ⟨rfl, _⟩ := ra.asInts e1
    exact ⟨a, is, rfl, ha, q.at0 (.int _)⟩
  · cases ev
theorem ok_any : OkN false K (rAny K) dAny := by
  intro H B xs ds s Q hB rx ev q
  unfold dAny at ev
  split at ev
  · obtain ⟨is, e1, ev⟩ := Option.bind_eq_some_iff.mp ev
    cases ev
    obtain ⟨x, rfl, r⟩ := rx.one
    obtain ⟨a, vs, rfl, ha, ra⟩ := r.sql
    have e := ra.asBools e1
    subst e
    exact ⟨a, is, rfl, ha, q.at0 (.bl _)⟩
  · cases ev
theorem ok_all : OkN false K (rAll K) dAll := by
  intro H B xs ds s Q hB rx ev q
  unfold dAll at ev
  split at ev
  · obtain ⟨is, e1, ev⟩ := Option.bind_eq_some_iff.mp ev
    cases ev
    obtain ⟨x, rfl, r⟩ := rx.one
    obtain ⟨a, vs, rfl, ha, ra⟩ := r.sql
    have e := ra.asBools e1
    subst e
    exact ⟨a, is, rfl, ha, q.at0 (.bl _)⟩
  · cases ev
theorem ok_divmod : OkN false K (fun xs H Q => ∃ i j, xs = [.int i, .int j] ∧ CDiv i j ∧ ∀ p, H p = none → Q (.ref p) (upd H p (.tup [.int (i / j), .int (i % j)]))) dDivmod := by
  intro H B xs ds s Q hB rx ev q
  unfold dDivmod at ev
  split at ev
  · split at ev
    · rename_i hj
      cases ev
      obtain ⟨x, y, rfl, r, r'⟩ := rx.two
      exact ⟨_, _, by rw [r.int, r'.int], hj, fun p hp => q.newT (.cons (.int _) (.cons (.int _) .nil)) p hp⟩
    · cases ev
  · cases ev
theorem ok_list : OkN false K (fun xs H Q => ∃ p ys, xs = [.ref p] ∧ (SqL K H p ys ∨ SqT K H p ys) ∧ ∀ l, H l = none → Q (.ref l) (upd H l (.lst ys))) dList := by
  intro H B xs ds s Q hB rx ev q
  unfold dList at ev
  split at ev
  · cases ev
    obtain ⟨x, rfl, r⟩ := rx.one
    obtain ⟨a, vs, rfl, ha, ra⟩ := r.sql
    exact ⟨a, vs, rfl, .inl ha, fun p hp => q.newL hB ra p hp⟩
  · cases ev
    obtain ⟨x, rfl, r⟩ := rx.one
    obtain ⟨a, vs, rfl, ha, ra⟩ := r.tup
    exact ⟨a, vs, rfl, .inr ha, fun p hp => q.newL hB ra p hp⟩
  · cases ev
theorem ok_tuple : OkN false K (fun xs H Q => ∃ p ys, xs = [.ref p] ∧ ((SqL K H p ys ∧ ∀ l, H l = none → Q (.ref l) (upd H l (.tup ys))) ∨ (SqT K H p ys ∧ Q (.ref p) H))) dTuple := by
  intro H B xs ds s Q hB rx ev q
  unfold dTuple at ev
  split at ev
  · cases ev
    obtain ⟨x, rfl, r⟩ := rx.one
    obtain ⟨a, vs, rfl, ha, ra⟩ := r.sql
    exact ⟨a, vs, rfl, .inl ⟨ha, fun p hp => q.newT ra p hp⟩⟩
  · cases ev
    obtain ⟨x, rfl, r⟩ := rx.one
    obtain ⟨a, vs, rfl, ha, ra⟩ := r.tup
    exact ⟨a, vs, rfl, .inr ⟨ha, q.at0 (.tup ha ra)⟩⟩
  · cases ev
theorem ok_gcd : OkN false K rGcd dGcd := by
  intro H B xs ds s Q hB rx ev q
  unfold dGcd at ev
  split at ev
  · cases ev
    obtain ⟨x, y, rfl, r, r'⟩ := rx.two
    exact ⟨_, _, by rw [r.int, r'.int], q.at0 (.int _)⟩
  · cases ev
end
theorem foldl_max_mem : ∀ (r : List Int) (i m : Int), m ∈ i :: r → (∀ y ∈ i :: r, y ≤ m) → r.foldl max i = m
  | [], i, m, h, _ => by
    have e : m = i := by simpa using h
    exact e.symm
  | j :: r, i, m, h, g => by
    show r.foldl max (max i j) = m
    refine foldl_max_mem r (max i j) m ?_ fun y hy => ?_
    · have hi := g i List.mem_cons_self
      have hj := g j (List.mem_cons_of_mem _ List.mem_cons_self)
      rcases List.mem_cons.mp h with e | h
      · exact List.mem_cons.mpr (.inl (by omega))
      · rcases List.mem_cons.mp h with e | h
        · exact List.mem_cons.mpr (.inl (by omega))
        · exact List.mem_cons_of_mem _ h
    · have hi := g i List.mem_cons_self
      have hj := g j (List.mem_cons_of_mem _ List.mem_cons_self)
      rcases List.mem_cons.mp hy with e | hy
      · rw [e]; omega
      · exact g y (List.mem_cons_of_mem _ (List.mem_cons_of_mem _ hy))
theorem foldl_min_mem : ∀ (r : List Int) (i m : Int), m ∈ i :: r → (∀ y ∈ i :: r, m ≤ y) → r.foldl min i = m
  | [], i, m, h, _ => by
    have e : m = i := by simpa using h
    exact e.symm
  | j :: r, i, m, h, g => by
    show r.foldl min (min i j) = m
    refine foldl_min_mem r (min i j) m ?_ fun y hy => ?_
    · have hi := g i List.mem_cons_self
      have hj := g j (List.mem_cons_of_mem _ List.mem_cons_self)
      rcases List.mem_cons.mp h with e | h
      · exact List.mem_cons.mpr (.inl (by omega))
      · rcases List.mem_cons.mp h with e | h
        · exact List.mem_cons.mpr (.inl (by omega))
        · exact List.mem_cons_of_mem _ h
    · have hi := g i List.mem_cons_self
      have hj := g j (List.mem_cons_of_mem _ List.mem_cons_self)
      rcases List.mem_cons.mp hy with e | hy
      · rw [e]; omega
      · exact g y (List.mem_cons_of_mem _ (List.mem_cons_of_mem _ hy))
section
variable {X : Cx}
theorem canLay_ints : ∀ is : List Int, PyData.canLayAll0 (is.map PyData.int) = true
  | [] => rfl
  | i :: r => by simp only [List.map_cons, PyData.canLayAll0, PyData.canLay0, canLay_ints r, Bool.and_self]
theorem alike_ints1 (i : Int) (r : List Int) : PySem.W.AlikeAll (PyData.int i :: r.map PyData.int) := by
  have h : ∀ x ∈ (i :: r).map PyData.int, ∃ j, x = PyData.int j := fun x hx => by
    obtain ⟨j, _, e⟩ := List.mem_map.mp hx
    exact ⟨j, e.symm⟩
  refine ⟨fun x hx y hy => ?_, fun x hx e => ?_⟩
  · obtain ⟨a, rfl⟩ := h x hx
    obtain ⟨b, rfl⟩ := h y hy
    simp [PySem.W.alike]
  · obtain ⟨a, rfl⟩ := h x hx
    cases e
theorem call_dmax (hc : X.calm = true) (hu : X.A.units + 64 < cLine) : CallR X (.builtin "max") (rData false X.K dMax) := by
  intro pins s σ H xs us Q I r h
  obtain ⟨B, ds, z, hB, rx, ev, q⟩ := h
  unfold dMax at ev
  split at ev
  · rename_i i j
    cases ev
    obtain ⟨x, y, rfl, r1, r2⟩ := rx.two
    have e1 := r1.int
    have e2 := r2.int
    subst e1 e2
    refine call_max2 hc pins s σ H _ us Q I r ⟨i, j, rfl, ?_⟩
    have e : (if j > i then j else i) = max i j := by split <;> omega
    rw [e]; exact q.at0 (.int _)
  · obtain ⟨is, e1, ev⟩ := Option.bind_eq_some_iff.mp ev
    cases is with
    | nil => cases ev
    | cons i rest =>
      cases ev
      obtain ⟨x, rfl, rr⟩ := rx.one
      obtain ⟨a, vs, rfl, ha, ra⟩ := rr.sql
      obtain ⟨rfl, _⟩ := ra.asInts e1
      exact cr_max hc pins s σ H _ us Q I r ⟨a, i :: rest, rfl, ha, Nat.succ_pos _, fun m h1 h2 => by
        have e := foldl_max_mem rest i m h1 h2
        rw [e] at q
        exact q.at0 (.int _)⟩
  · obtain ⟨is, e1, ev⟩ := Option.bind_eq_some_iff.mp ev
    cases is with
    | nil => cases ev
    | cons i rest =>
      cases ev
      obtain ⟨x, rfl, rr⟩ := rx.one
      obtain ⟨a, vs, rfl, ha, ra⟩ := rr.tup
      obtain ⟨ev1, ev2⟩ := ra.asInts e1
      rw [Vals.ref1 r]
      obtain ⟨its, rv, p, _⟩ := I.tuple ha
      obtain ⟨as, hr⟩ := Rps.reads I ra (by rw [ev2]; exact canLay_ints _) rv
      rw [ev2] at hr
      refine PySem.W.max_tuple_data (I.ok.hd hc) p hr (alike_ints1 i rest) (by rw [show PyData.int i :: rest.map PyData.int = (i :: rest).map PyData.int from rfl, PySem.W.depth_ints]; omega) fun k v h' tk bs hv hd hk => ?_
      rw [show List.map PyData.int rest = rest.map .int from rfl, PySem.W.maxD_ints] at hd
      cases hd with
      | int m t => exact ⟨.int _, H, I.kept hk, ⟨t, rfl⟩, q.at0 (.int _)⟩
  · cases ev
theorem call_dmin (hc : X.calm = true) (hu : X.A.units + 64 < cLine) : CallR X (.builtin "min") (rData false X.K dMin) := by
  intro pins s σ H xs us Q I r h
  obtain ⟨B, ds, z, hB, rx, ev, q⟩ := h
  unfold dMin at ev
  split at ev
  · rename_i i j
    cases ev
    obtain ⟨x, y, rfl, r1, r2⟩ := rx.two
    have e1 := r1.int
    have e2 := r2.int
    subst e1 e2
    refine call_min2 hc pins s σ H _ us Q I r ⟨i, j, rfl, ?_⟩
    have e : (if j < i then j else i) = min i j := by split <;> omega
    rw [e]; exact q.at0 (.int _)
  · obtain ⟨is, e1, ev⟩ := Option.bind_eq_some_iff.mp ev
    cases is with
    | nil => cases ev
    | cons i rest =>
      cases ev
      obtain ⟨x, rfl, rr⟩ := rx.one
      obtain ⟨a, vs, rfl, ha, ra⟩ := rr.sql
      obtain ⟨rfl, _⟩ := ra.asInts e1
      exact cr_min hc pins s σ H _ us Q I r ⟨a, i :: rest, rfl, ha, Nat.succ_pos _, fun m h1 h2 => by
        have e := foldl_min_mem rest i m h1 h2
        rw [e] at q
        exact q.at0 (.int _)⟩
  · obtain ⟨is, e1, ev⟩ := Option.bind_eq_some_iff.mp ev
    cases is with
    | nil => cases ev
    | cons i rest =>
      cases ev
      obtain ⟨x, rfl, rr⟩ := rx.one
      obtain ⟨a, vs, rfl, ha, ra⟩ := rr.tup
      obtain ⟨ev1, ev2⟩ := ra.asInts e1
      rw [Vals.ref1 r]
      obtain ⟨its, rv, p, _⟩ := I.tuple ha
      obtain ⟨as, hr⟩ := Rps.reads I ra (by rw [ev2]; exact canLay_ints _) rv
      rw [ev2] at hr
      refine PySem.W.min_tuple_data (I.ok.hd hc) p hr (alike_ints1 i rest) (by rw [show PyData.int i :: rest.map PyData.int = (i :: rest).map PyData.int from rfl, PySem.W.depth_ints]; omega) fun k v h' tk bs hv hd hk => ?_
      rw [show List.map PyData.int rest = rest.map .int from rfl, PySem.W.minD_ints] at hd
      cases hd with
      | int m t => exact ⟨.int _, H, I.kept hk, ⟨t, rfl⟩, q.at0 (.int _)⟩
  · cases ev
end

/-! ### isinstance against a built-in type -/
def typeD : PyData → String
  | .none => "NoneType"
  | .bool _ => "bool"
  | .int _ => "int"
  | .str _ => "str"
  | .list _ => "list"
  | .tuple _ => "tuple"
  | .dict _ => "dict"
def isaD (T : String) (d : PyData) : Bool := typeD d == T || (T == "int" && typeD d == "bool")
def isaTypes : List String := ["int", "bool", "str", "list", "tuple", "dict"]
def dIsa (T : String) : List PyData → Option SV
  | [d] => some (.frz (.bool (isaD T d)))
  | _ => none
theorem kit_isa {T : String} (h : T ∈ isaTypes) (d : PyData) : kitB (typeD d) T = some (isaD T d) := by
  unfold isaTypes at h
  simp only [List.mem_cons, List.not_mem_nil, or_false] at h
  rcases h with rfl | rfl | rfl | rfl | rfl | rfl <;> cases d <;> (simp only [typeD, isaD]; decide +kernel)
theorem Ro.ty {st : Bool} {K : PySem.W.Frag} {H : Hp} {B : Addr → Prop} {v : V} {d : PyData} (r : Ro st K H B v d) : TyX K H v (.type (typeD d)) := by
  cases d with
  | none => rw [r.non]; exact .base .non
  | bool b => rw [r.bl]; exact .base (.bl b)
  | int i => rw [r.int]; exact .base (.int i)
  | str x => rw [r.str]; exact .base (.str x)
  | list ds =>
    obtain ⟨a, xs, rfl, h, _⟩ := r.sql
    rcases h with (h | ⟨o, h⟩) | ⟨o, _, _, h, c, _⟩
    · exact .base (.lst h)
    · exact .base (.frz h)
    · exact .kList h c
  | tuple ds =>
    obtain ⟨a, xs, rfl, h, _⟩ := r.tup
    rcases h with (h | ⟨o, h⟩) | ⟨o, _, _, h, c, _⟩
    · exact .base (.tup h)
    · exact .fTuple h
    · exact .kTuple h c
  | dict ds => cases r with | dct h => exact .base (.dK h)
section
variable {X : Cx} {W : WX}
theorem snd_isa {e : Expr} {se : Sm} {T : String} {p p2 pos : Pos} (hT : T ∈ isaTypes) (hg : Gl X "isinstance") (hm : X.mg "isinstance" = none) (gT : Gl X (Str.ofString T)) (mT : X.mg (Str.ofString T) = none) (hn : noStar e = true) (he : Snd X W e se) :
    Snd X W (.Call (.Name "isinstance" p) [e, .Name (Str.ofString T) p2] [] pos) (sOp false (dIsa T) [se]) := by
  have bT : bootBuiltins (Str.ofString T) = some (.type T) ∧ (Str.ofString T) ≠ "__name__" ∧ (Str.ofString T == ("__debug__" : Str)) = false := by
    unfold isaTypes at hT
    simp only [List.mem_cons, List.not_mem_nil, or_false] at hT
    rcases hT with rfl | rfl | rfl | rfl | rfl | rfl <;> exact ⟨by decide +kernel, by decide +kernel, by decide +kernel⟩
  have pT : PE X (.Name (Str.ofString T) p2) (tC (.ty T)) := pe_bltn gT mT bT.1 rfl bT.2.1 bT.2.2
  have pa : PA X [e, .Name (Str.ofString T) p2] (tCons (tO (.ofX X W) se) (tCons (tC (.ty T)) tNil)) := pa_cons he.o (pa_cons pT pa_nil rfl) (starEach_no hn _ _)
  refine .of ((pe_callB call_isi hg hm (by decide +kernel) pa (by decide) (by decide) (starEach_no hn _ _) rfl).imp fun σ H Q q => ?_) rfl
  obtain ⟨A, env, D, q⟩ := q
  have q : wp (vOp false (dIsa T) [se] env) _ _ := q
  simp only [vOp, evOs, wp_bd, wp_mk] at q
  refine ⟨A, env, D, q.imp (fun o env1 q x H1 P r1 => ?_) fun _ _ z => z⟩
  obtain ⟨ds, e2, q1⟩ := wp_sure q
  obtain ⟨z, e3, q2⟩ := wp_sure q1
  clear q q1
  obtain ⟨x', ex, ro⟩ : ∃ x', [x] = [x'] ∧ ∃ d, ds = [d] ∧ Ro false X.K H1 (Av A env1 σ) x' d := by
    have h := RoSs.read P.den (.cons r1 .nil) e2
    cases h with
    | cons h h2 => cases h2; exact ⟨x, rfl, _, rfl, h⟩
  cases ex
  obtain ⟨d, rfl, ro⟩ := ro
  cases e3
  exact ⟨x, .ty T, _, .type T, isaD T d, rfl, .ty T, ro.ty, kit_ty (kit_isa hT d), (P.lets q2).at0 (.bl _)⟩
end
end Tw
end STwF

section STwG
/-! Part G: calls of the text's own defs. -/
namespace Tw
open PySem PySem.Spec PyProof.Rows L2

/-! ### what a def does with its arguments, and its promise -/
/-- from the arguments to the result and what the arguments' slots hold behind the call -/
abbrev CallSem := List SV → Res SV
def spC (K : PySem.W.Frag) (mg : Str → Option Value) (n : Nat) (C : CallSem) : Sp := fun vs H Q E => ∃ A svs, vs.length = n ∧ Den K A (svs.map some) (vs.map some) H ∧ (∀ s ∈ svs, s.isOwn = false) ∧
  wp (C svs) (fun r p => ∀ v H', Keep (Mt (svs.map some) (vs.map some)) H H' → Den K A p (vs.map some) H' → Rv K A p (vs.map some) H H' v r → Q v H')
    (fun x p => ∀ u dx H', Keep (Mt (svs.map some) (vs.map some)) H H' → Den K A p (vs.map some) H' → ExOk ⟨K, mg, fun _ _ _ _ => False⟩ H' (Av A p (vs.map some)) x u dx → E u dx H')
/-- a def that keeps a promise where no guard stands around it -/
structure FnG (P : Program) (w : World) (K : PySem.W.Frag) (mg : Str → Option Value) (base : Heap) (k : Nat) (f : Addr) (fd : FuncData) (ps : List Str) (sp : Sp) : Prop where
  len : ∀ vs H Q E, sp vs H Q E → vs.length = ps.length
  run : ∀ (A : Around) (outer : List Env) (s : Shared) (H : Hp) (args : Args) (us : List Value) (vs : List V) (Q : VK) (E : XK), Room k A → A.guards = some [] → Env0 P w K mg base A outer s H →
    BindsTo s fd args (ps.zip us) → Vals vs us → sp vs H Q E → codeAny (model P w) A (.call (.ref f) args) (CR (L2.CX P w) outer P w H s Q E) s

section
variable {X : Cx} {W : WX} {k : Nat} {f : Addr} {fd : FuncData} {ps ks : List Str} {sp : Sp} {x : Str} {p pos : Pos} {e : Expr} {es : List Expr} {t tk : TA} {kws : List Keyword}
theorem FnG.go {pins : List (Addr × Obj)} {σ : St} {H : Hp} {s : Shared} {Q : VK} {us bs : List Value} {kw : List (Str × Value)} {vs : List V} (F : FnG X.prog X.w X.K X.mg X.base k f fd ps sp) (hr : Room k X.A) (hg : X.A.guards = some []) (tk : Takes X W)
    (hb : BindsTo s fd ⟨us, kw⟩ (ps.zip bs)) (I : Inv X pins σ H s) (r : Vals vs bs) (h : sp vs H Q (WE W σ)) : wpAny (model X.prog X.w) X.A (call (.ref f) us kw) (EP X pins σ Q) X.xe s := by
  refine wpAny_call (codeAny_mono (F.run X.A X.stack s H ⟨us, kw⟩ bs vs Q (WE W σ) hr hg I.env0 hb r h) fun z s' hq => ?_)
  match z, hq with
  | .error e, hq => exact passAt tk σ pins H s e s' I hq
  | .ok (.ret u), hq => exact I.after hq
/-- f(..): by position -/
def tCl (sp : Sp) (W : WX) (t : TA) : TE := fun σ H Q => t σ H fun vs H1 => sp vs H1 Q (WE W σ)
theorem pe_pos (F : FnG X.prog X.w X.K X.mg X.base k f fd ps sp) (hr : Room k X.A) (hg : X.A.guards = some []) (tk : Takes X W) (gl : Gl X x) (hm : X.mg x = some (.ref f)) (hk : PySem.W.keepIn X.K (.ref f) = true) (hb : Binds X.K fd ps [])
    (ha : PA X (e :: es) t) (hd : (x == ("__debug__" : Str)) = false) (he : starEach (e :: es) X.env = (false, eval e X.env) :: starEach es X.env) (hp : (backTo pos (starEach es X.env)).any (·.1) = false) :
    PE X (.Call (.Name x p) (e :: es) [] pos) (tCl sp W t) := by
  refine ⟨fun pins s σ H Q I h => wpAny_Call_Name_kw (ld_glob I gl hm ?_ hd)⟩
  refine PySem.W.callWith_K (h₀ := X.base) I.ok.mod.kin hk (thn (ha.run pos pins s σ H _ I h) fun us s1 ⟨vs, H1, I1, r, q⟩ => ⟨I1.kIn, ?_⟩) he hp
  have hl : us.length = ps.length := by rw [← r.length]; exact F.len _ _ _ _ q
  have b := hb s1 us I1.kIn (by rw [List.append_nil]; exact hl)
  rw [List.append_nil] at b
  exact F.go hr hg tk b I1 r q
theorem pe_pos0 (F : FnG X.prog X.w X.K X.mg X.base k f fd ps sp) (hr : Room k X.A) (hg : X.A.guards = some []) (tk : Takes X W) (gl : Gl X x) (hm : X.mg x = some (.ref f)) (hk : PySem.W.keepIn X.K (.ref f) = true) (hb : Binds X.K fd ps [])
    (hd : (x == ("__debug__" : Str)) = false) : PE X (.Call (.Name x p) [] [] pos) (tCl sp W tNil) := by
  refine ⟨fun pins s σ H Q I h => wpAny_Call_Name_kw (ld_glob I gl hm ?_ hd)⟩
  have q : sp [] H Q (WE W σ) := h
  have hl : ([] : List Value).length = ps.length := F.len _ _ _ _ q
  exact PySem.W.callWith_K0 I.kIn hk (F.go hr hg tk (by simpa using hb s [] I.kIn (by simpa using hl)) I .nil q)
/-- f(.., k = v): the order in which the parameters take the arguments -/
def tClK (sp : Sp) (W : WX) (gV : List V → List V) (t tk : TA) : TE := fun σ H Q => t σ H fun vs H1 => tk σ H1 fun zs H2 => sp (gV (vs ++ zs)) H2 Q (WE W σ)
def permL {α : Type} (π : List Nat) (xs : List α) : List α := π.filterMap fun i => xs[i]?
structure BindK (fd : FuncData) (ps ks : List Str) (n : Nat) (π : List Nat) : Prop where
  to : ∀ (us ws : List Value), us.length = n → ws.length = ks.length → bindArgs fd ⟨us, ks.zip ws⟩ = pure (ps.zip (permL π (us ++ ws)))
theorem vals_perm {vs : List V} {us : List Value} (r : Vals vs us) : ∀ π : List Nat, Vals (permL π vs) (permL π us)
  | [] => .nil
  | i :: π => by
    unfold permL
    rw [List.filterMap_cons, List.filterMap_cons]
    cases hv : vs[i]? with
    | none =>
      rw [r.none_of hv]
      exact vals_perm r π
    | some v =>
      obtain ⟨u, hu, q⟩ := r.get hv
      rw [hu]
      exact .cons q (vals_perm r π)
variable {n : Nat} {π : List Nat}
theorem pe_kw (F : FnG X.prog X.w X.K X.mg X.base k f fd ps sp) (hr : Room k X.A) (hg : X.A.guards = some []) (tk' : Takes X W) (gl : Gl X x) (hm : X.mg x = some (.ref f)) (hk : PySem.W.keepIn X.K (.ref f) = true) (hb : BindK fd ps ks n π)
    (hn : (e :: es).length = n) (ha : PA X (e :: es) t) (hkw : PK X kws tk) (hw : kws.length = ks.length) (hl : ∀ σ H Q, tk σ H Q → tk σ H fun vs H1 => vs.length = ks.length ∧ Q vs H1) (hl2 : ∀ σ H Q, t σ H Q → t σ H fun vs H1 => vs.length = n ∧ Q vs H1)
    (hall : (backToKw pos (keywordEach kws X.env)).all (·.1.isSome) = true) (hks : (backToKw pos (keywordEach kws X.env)).filterMap (·.1) = ks)
    (hd : (x == ("__debug__" : Str)) = false) (he : starEach (e :: es) X.env = (false, eval e X.env) :: starEach es X.env)
    (hp : ((backTo pos (starEach (e :: es) X.env)).any (·.1) || (backToKw pos (keywordEach kws X.env)).any (·.1.isNone)) = false) :
    PE X (.Call (.Name x p) (e :: es) kws pos) (tClK sp W (permL π) t tk) := by
  refine ⟨fun pins s σ H Q I h => wpAny_Call_Name_kw (ld_glob I gl hm ?_ hd)⟩
  refine PySem.W.callWith_KW (h₀ := X.base) I.ok.mod.kin hk hall (thn (ha.run pos pins s σ H _ I (hl2 _ _ _ h)) fun us s1 ⟨vs, H1, I1, r, l1, q⟩ => ?_) hp he
  refine thn (hkw.run pos pins s1 σ H1 _ I1 (hl _ _ _ q)) fun ws s2 ⟨zs, H2, I2, rz, l2, q2⟩ => ⟨I2.kIn, ?_⟩
  rw [hks]
  exact F.go hr hg tk' (.of_eq (hb.to us ws (by rw [← r.length]; exact l1) (by rw [← rz.length]; exact l2))) I2 (vals_perm (r.append rz) π) q2
theorem pe_kw0 (F : FnG X.prog X.w X.K X.mg X.base k f fd ps sp) (hr : Room k X.A) (hg : X.A.guards = some []) (tk' : Takes X W) (gl : Gl X x) (hm : X.mg x = some (.ref f)) (hk : PySem.W.keepIn X.K (.ref f) = true) (hb : BindK fd ps ks 0 π)
    (hkw : PK X kws tk) (hl : ∀ σ H Q, tk σ H Q → tk σ H fun vs H1 => vs.length = ks.length ∧ Q vs H1)
    (hall : (backToKw pos (keywordEach kws X.env)).all (·.1.isSome) = true) (hks : (backToKw pos (keywordEach kws X.env)).filterMap (·.1) = ks)
    (hd : (x == ("__debug__" : Str)) = false) (hp : ((backTo pos (starEach [] X.env)).any (·.1) || (backToKw pos (keywordEach kws X.env)).any (·.1.isNone)) = false) :
    PE X (.Call (.Name x p) [] kws pos) (tClK sp W (permL π) tNil tk) := by
  refine ⟨fun pins s σ H Q I h => wpAny_Call_Name_kw (ld_glob I gl hm ?_ hd)⟩
  refine PySem.W.callWith_KW0 (h₀ := X.base) I.ok.mod.kin hk hall ?_ hp
  refine thn (hkw.run pos pins s σ H _ I (hl _ _ _ h)) fun ws s2 ⟨zs, H2, I2, rz, l2, q2⟩ => ⟨I2.kIn, ?_⟩
  rw [hks]
  exact F.go hr hg tk' (.of_eq (hb.to [] ws rfl (by rw [← rz.length]; exact l2))) I2 (vals_perm rz π) q2
end

/-! ### arguments: data; a list that is lent; a list that the callee may change -/
inductive Ag where
  | val (s : Sm)
  | give (i : Nat)
  | lend (i : Nat)
inductive Arg where
  | dat (d : PyData)
  | give (i : Nat)
  | lend (i : Nat)
def evAs : List Ag → EV → Res (List Arg)
  | [], env => .mk [] env
  | .val s :: r, env => (s.v env).bd fun z env1 => sure z.freeze fun d => (evAs r env1).bd fun as env2 => .mk (.dat d :: as) env2
  | .give i :: r, env => match env[i]? with
    | some (some _) => (evAs r env).bd fun as env2 => .mk (.give i :: as) env2
    | _ => none
  | .lend i :: r, env => match env[i]? with
    | some (some _) => (evAs r env).bd fun as env2 => .mk (.lend i :: as) env2
    | _ => none
/-- what is passed, when all arguments are there -/
def passA (env : EV) : Arg → Option SV
  | .dat d => some (.frz d)
  | .give i => match env[i]? with
    | some (some (.own ds)) => some (.io ds)
    | some (some (.io ds)) => some (.io ds)
    | _ => none
  | .lend i => match env[i]? with
    | some (some (.frz d)) => some (.frz d)
    | some (some (.own ds)) => some (.lent ds)
    | some (some (.lent ds)) => some (.lent ds)
    | some (some (.io ds)) => some (.lent ds)
    | some (some (.scr ds)) => some (.scr ds)
    | _ => none
def passAs (env : EV) : List Arg → Option (List SV)
  | [] => some []
  | a :: r => (passA env a).bind fun s => (passAs env r).bind fun ss => some (s :: ss)
def Arg.ix : Arg → Option Nat
  | .dat _ => none
  | .give i | .lend i => some i
/-- no list is passed twice -/
def apart (as : List Arg) : Bool := decide (as.filterMap Arg.ix).Nodup
def reown (env : EV) (i : Nat) (ds : List PyData) : Option EV := match env[i]? with
  | some (some (.own _)) => some (env.set i (some (.own ds)))
  | some (some (.io _)) => some (env.set i (some (.io ds)))
  | _ => none
/-- what the callee has made of the lists that it was given -/
def backA : List Arg → EV → EV → Option EV
  | [], [], env => some env
  | .give i :: r, some (.io ds) :: p, env => (reown env i ds).bind fun env1 => backA r p env1
  | .give _ :: _, _, _ => none
  | _ :: r, _ :: p, env => backA r p env
  | _, _, _ => none
/-- a call: the callee's meaning over what is passed -/
def callA (C : CallSem) (as : List Arg) (env : EV) : Res SV :=
  if apart as = true then sure (passAs env as) fun svs => match C svs with
    | some (.ok r p) => sure (backA as p env) fun env1 => .mk r env1
    | some (.er x p) => sure (backA as p env) fun env1 => some (.er x env1)
    | none => none
  else none
def vCall (C : CallSem) (π : List Nat) (ags : List Ag) (env : EV) : Res SV := (evAs ags env).bd fun as env1 => callA C (permL π as) env1
end Tw
end STwG

section STwH
/-! Part H: a call keeps what the caller's slots stand for. -/
namespace Tw
open PySem PySem.Spec PyProof.Rows L2

def ArgOk (K : PySem.W.Frag) (H : Hp) (B : Addr → Prop) (σ : St) (v : V) : Arg → Prop
  | .dat d => Rp K H B v d
  | .give i | .lend i => σ[i]? = some (some v)
inductive ArgsOk (K : PySem.W.Frag) (H : Hp) (B : Addr → Prop) (σ : St) : List V → List Arg → Prop
  | nil : ArgsOk K H B σ [] []
  | cons {v : V} {vs : List V} {a : Arg} {as : List Arg} : ArgOk K H B σ v a → ArgsOk K H B σ vs as → ArgsOk K H B σ (v :: vs) (a :: as)
section
variable {K : PySem.W.Frag} {A B : Addr → Prop} {env env1 env2 : EV} {σ : St} {H H1 H2 H' : Hp}
theorem ArgOk.post (q : Post K A env1 σ H1 env2 H2) {v : V} {a : Arg} (r : ArgOk K H1 (Av A env1 σ) σ v a) : ArgOk K H2 (Av A env2 σ) σ v a := by
  cases a with
  | dat d => exact q.rp r
  | give i => exact r
  | lend i => exact r
theorem ArgsOk.post (q : Post K A env1 σ H1 env2 H2) : ∀ {vs : List V} {as : List Arg}, ArgsOk K H1 (Av A env1 σ) σ vs as → ArgsOk K H2 (Av A env2 σ) σ vs as
  | _, _, .nil => .nil
  | _, _, .cons r s => .cons (r.post q) (ArgsOk.post q s)
theorem ArgsOk.length : ∀ {vs : List V} {as : List Arg}, ArgsOk K H B σ vs as → vs.length = as.length
  | _, _, .nil => rfl
  | _, _, .cons _ s => by rw [List.length_cons, List.length_cons, ArgsOk.length s]
theorem ArgsOk.at : ∀ {vs : List V} {as : List Arg} {j : Nat} {a : Arg}, ArgsOk K H B σ vs as → as[j]? = some a → ∃ v, vs[j]? = some v ∧ ArgOk K H B σ v a
  | _, _, _, _, .nil, e => by simp at e
  | _, _, 0, _, .cons r _, e => by simp at e; subst e; exact ⟨_, rfl, r⟩
  | _, _, j + 1, a, .cons _ s, e => by
    obtain ⟨v, h1, h2⟩ := ArgsOk.at (j := j) (a := a) s (by simpa using e)
    exact ⟨v, by simpa using h1, h2⟩
theorem ArgsOk.none_of : ∀ {vs : List V} {as : List Arg} {j : Nat}, ArgsOk K H B σ vs as → vs[j]? = none → as[j]? = none := fun {vs as j} r e => by
  have h1 := r.length
  have h2 : vs.length ≤ j := List.getElem?_eq_none_iff.mp e
  exact List.getElem?_eq_none_iff.mpr (by omega)
theorem ArgsOk.perm {vs : List V} {as : List Arg} (r : ArgsOk K H B σ vs as) : ∀ π : List Nat, ArgsOk K H B σ (permL π vs) (permL π as)
  | [] => .nil
  | i :: π => by
    unfold permL
    rw [List.filterMap_cons, List.filterMap_cons]
    cases hv : as[i]? with
    | none =>
      have : vs[i]? = none := by
        have h1 := r.length
        have h2 : as.length ≤ i := List.getElem?_eq_none_iff.mp hv
        exact List.getElem?_eq_none_iff.mpr (by omega)
      rw [this]
      exact ArgsOk.perm r π
    | some a =>
      obtain ⟨v, hu, q⟩ := r.at hv
      rw [hu]
      exact .cons q (ArgsOk.perm r π)
theorem ArgsOk.append : ∀ {vs ws : List V} {as bs : List Arg}, ArgsOk K H B σ vs as → ArgsOk K H B σ ws bs → ArgsOk K H B σ (vs ++ ws) (as ++ bs)
  | _, _, _, _, .nil, q => q
  | _, _, _, _, .cons r s, q => .cons r (ArgsOk.append s q)
theorem passAs_at : ∀ {as : List Arg} {svs : List SV} {j : Nat} {s : SV}, passAs env as = some svs → svs[j]? = some s → ∃ a, as[j]? = some a ∧ passA env a = some s
  | [], _, _, _, e, h => by cases e; simp at h
  | a :: r, svs, j, s, e, h => by
    obtain ⟨s0, e1, e⟩ := Option.bind_eq_some_iff.mp e
    obtain ⟨ss, e2, e⟩ := Option.bind_eq_some_iff.mp e
    cases e
    cases j with
    | zero => simp at h; subst h; exact ⟨a, rfl, e1⟩
    | succ j =>
      obtain ⟨b, h1, h2⟩ := passAs_at (j := j) (s := s) e2 (by simpa using h)
      exact ⟨b, by simpa using h1, h2⟩
theorem passAs_len : ∀ {as : List Arg} {svs : List SV}, passAs env as = some svs → svs.length = as.length
  | [], _, e => by cases e; rfl
  | a :: r, svs, e => by
    obtain ⟨s0, e1, e⟩ := Option.bind_eq_some_iff.mp e
    obtain ⟨ss, e2, e⟩ := Option.bind_eq_some_iff.mp e
    cases e
    rw [List.length_cons, List.length_cons, passAs_len e2]
theorem nodup_ixs : ∀ {as : List Arg} {i j n : Nat} {a b : Arg}, (as.filterMap Arg.ix).Nodup → as[i]? = some a → as[j]? = some b → a.ix = some n → b.ix = some n → i = j
  | [], _, _, _, _, _, _, e, _, _, _ => by simp at e
  | c :: r, i, j, n, a, b, nd, ea, eb, xa, xb => by
    have mem : ∀ {m : Nat} {d : Arg}, r[m]? = some d → d.ix = some n → n ∈ r.filterMap Arg.ix := fun {m d} e x => List.mem_filterMap.mpr ⟨d, List.mem_of_getElem? e, x⟩
    have nd2 : (r.filterMap Arg.ix).Nodup := by
      rw [List.filterMap_cons] at nd
      split at nd
      · exact nd
      · exact (List.nodup_cons.mp nd).2
    have out : c.ix = some n → ¬ n ∈ r.filterMap Arg.ix := fun x => by
      rw [List.filterMap_cons, x] at nd
      exact (List.nodup_cons.mp nd).1
    cases i with
    | zero =>
      simp at ea; subst ea
      cases j with
      | zero => rfl
      | succ j => exact absurd (mem (m := j) (by simpa using eb) xb) (out xa)
    | succ i =>
      cases j with
      | zero =>
        simp at eb; subst eb
        exact absurd (mem (m := i) (by simpa using ea) xa) (out xb)
      | succ j => rw [nodup_ixs (i := i) (j := j) nd2 (by simpa using ea) (by simpa using eb) xa xb]
/-- a passed list is one of the caller's slots -/
theorem passA_ls {a : Arg} {s : SV} (e : passA env a = some s) (l : s.isLs = true) : ∃ i t, a.ix = some i ∧ env[i]? = some (some t) ∧ t.isLs = true ∧ t.items = s.items ∧ (s.isMut = true → a = .give i ∧ t.isMut = true) := by
  cases a with
  | dat d => cases e; cases l
  | give i =>
    simp only [passA] at e
    split at e
    · rename_i h; cases e; exact ⟨i, _, rfl, h, rfl, rfl, fun _ => ⟨rfl, rfl⟩⟩
    · rename_i h; cases e; exact ⟨i, _, rfl, h, rfl, rfl, fun _ => ⟨rfl, rfl⟩⟩
    · cases e
  | lend i =>
    simp only [passA] at e
    split at e
    · cases e; cases l
    · rename_i h; cases e; exact ⟨i, _, rfl, h, rfl, rfl, fun z => by cases z⟩
    · rename_i h; cases e; exact ⟨i, _, rfl, h, rfl, rfl, fun z => by cases z⟩
    · rename_i h; cases e; exact ⟨i, _, rfl, h, rfl, rfl, fun z => by cases z⟩
    · cases e; cases l
    · cases e
theorem map_some_at {α : Type} {l : List α} {i : Nat} {x : α} : (l.map some)[i]? = some (some x) ↔ l[i]? = some x := by
  rw [List.getElem?_map]
  cases l[i]? with
  | none => simp
  | some y => simp
/-- the callee's slots -/
theorem pass_den {vs : List V} {as : List Arg} {svs : List SV} (D : Den K A env σ H) (ha : ArgsOk K H (Av A env σ) σ vs as) (nd : (as.filterMap Arg.ix).Nodup) (e : passAs env as = some svs) :
    Den K (Av A env σ) (svs.map some) (vs.map some) H ∧ (∀ s ∈ svs, s.isOwn = false) ∧ ∀ a, Mt (svs.map some) (vs.map some) a → Mt env σ a ∧ ∃ i, (∃ j : Nat, as[j]? = some (Arg.give i)) ∧ σ[i]? = some (some (V.ref a)) := by
  have here : ∀ {j : Nat} {s : SV}, (svs.map some)[j]? = some (some s) → ∃ a v, as[j]? = some a ∧ vs[j]? = some v ∧ passA env a = some s ∧ ArgOk K H (Av A env σ) σ v a := fun {j s} h => by
    obtain ⟨a, h1, h2⟩ := passAs_at e (map_some_at.mp h)
    obtain ⟨v, h3, h4⟩ := ha.at h1
    exact ⟨a, v, h1, h3, h2, h4⟩
  have ix_val : ∀ {a : Arg} {v : V} {i : Nat}, a.ix = some i → ArgOk K H (Av A env σ) σ v a → σ[i]? = some (some v) := fun {a v i} x h => by
    cases a with
    | dat d => cases x
    | give k => cases x; exact h
    | lend k => cases x; exact h
  have inAv : ∀ {a : Addr}, AtS SV.isLs (svs.map some) (vs.map some) a → Av A env σ a := fun {a} ⟨j, s, h1, l, h2⟩ => by
    obtain ⟨b, v, g1, g2, g3, g4⟩ := here h1
    obtain ⟨i, t, x, z, l2, _, _⟩ := passA_ls g3 l
    have g5 := ix_val x g4
    rw [map_some_at] at h2
    rw [h2] at g2; cases g2
    exact .inr ⟨i, t, z, l2, g5⟩
  have sub : ∀ a, Av (Av A env σ) (svs.map some) (vs.map some) a → Av A env σ a := fun a q => q.elim id inAv
  refine ⟨⟨?_, fun j s h => ?_, fun i j s t a h1 h2 l1 l2 z1 z2 => ?_, fun a q => D.tracked q, fun a ⟨j, s, h, z, _⟩ => ?_⟩, fun s hs => ?_, fun a ⟨j, s, h1, z, h2⟩ => ?_⟩
  · rw [List.length_map, List.length_map, passAs_len e, ha.length]
  · obtain ⟨a, v, h1, h2, h3, h4⟩ := here h
    refine ⟨v, map_some_at.mpr h2, ?_⟩
    cases a with
    | dat d => cases h3; exact Rp.weak h4 sub
    | give i =>
      simp only [passA] at h3
      have hv : σ[i]? = some (some v) := h4
      split at h3 <;> first
        | (rename_i hs; cases h3; obtain ⟨u, hu, q⟩ := D.slot i _ hs; rw [hv] at hu; cases hu; exact SlotOk.weak (s := .io _) q sub)
        | cases h3
    | lend i =>
      simp only [passA] at h3
      have hv : σ[i]? = some (some v) := h4
      split at h3 <;> first
        | (rename_i hs; cases h3; obtain ⟨u, hu, q⟩ := D.slot i _ hs; rw [hv] at hu; cases hu; first | exact SlotOk.weak (s := .frz _) q sub | exact SlotOk.weak (s := .lent _) q sub | exact SlotOk.weak (s := .scr _) q sub)
        | cases h3
  · obtain ⟨a1, v1, p1, p2, p3, p4⟩ := here h1
    obtain ⟨a2, v2, q1, q2, q3, q4⟩ := here h2
    obtain ⟨i1, t1, x1, y1, m1, _, _⟩ := passA_ls p3 l1
    obtain ⟨i2, t2, x2, y2, m2, _, _⟩ := passA_ls q3 l2
    rw [map_some_at] at z1 z2
    rw [z1] at p2; cases p2
    rw [z2] at q2; cases q2
    have eq := D.inj i1 i2 t1 t2 a y1 y2 m1 m2 (ix_val x1 p4) (ix_val x2 q4)
    subst eq
    exact nodup_ixs nd p1 q1 x1 x2
  · exfalso
    obtain ⟨b, v, g1, g2, g3, g4⟩ := here h
    cases b with
    | dat d => cases g3; cases z
    | give i => simp only [passA] at g3; split at g3 <;> first | (cases g3; cases z) | cases g3
    | lend i => simp only [passA] at g3; split at g3 <;> first | (cases g3; cases z) | cases g3
  · obtain ⟨j, hj⟩ := List.getElem?_of_mem hs
    obtain ⟨b, v, g1, g2, g3, g4⟩ := here (map_some_at.mpr hj)
    cases b with
    | dat d => cases g3; rfl
    | give i => simp only [passA] at g3; split at g3 <;> first | (cases g3; rfl) | cases g3
    | lend i => simp only [passA] at g3; split at g3 <;> first | (cases g3; rfl) | cases g3
  · obtain ⟨b, v, g1, g2, g3, g4⟩ := here h1
    obtain ⟨i, t, x, y, m, _, g⟩ := passA_ls g3 (SV.ls_of_mut z)
    obtain ⟨rfl, tm⟩ := g z
    rw [map_some_at] at h2
    rw [h2] at g2; cases g2
    exact ⟨⟨i, t, y, tm, g4⟩, i, ⟨j, g1⟩, g4⟩
theorem reown_at {i : Nat} {ds : List PyData} (e : reown env i ds = some env1) : env1.length = env.length ∧ (∀ j, j ≠ i → env1[j]? = env[j]?) ∧
    ((∃ d0, env[i]? = some (some (SV.own d0)) ∧ env1[i]? = some (some (SV.own ds))) ∨ ∃ d0, env[i]? = some (some (SV.io d0)) ∧ env1[i]? = some (some (SV.io ds))) := by
  unfold reown at e
  split at e
  · rename_i d0 h
    cases e
    have hi := (List.getElem?_eq_some_iff.mp h).1
    exact ⟨List.length_set, fun j n => List.getElem?_set_ne (Ne.symm n), .inl ⟨d0, h, List.getElem?_set_self hi⟩⟩
  · rename_i d0 h
    cases e
    have hi := (List.getElem?_eq_some_iff.mp h).1
    exact ⟨List.length_set, fun j n => List.getElem?_set_ne (Ne.symm n), .inr ⟨d0, h, List.getElem?_set_self hi⟩⟩
  · cases e
theorem backA_at : ∀ {as : List Arg} {p env env' : EV}, backA as p env = some env' → (as.filterMap Arg.ix).Nodup → env'.length = env.length ∧ ∀ i : Nat,
    (∃ (j : Nat) (ds : List PyData), as[j]? = some (Arg.give i) ∧ p[j]? = some (some (SV.io ds)) ∧ ((∃ d0, env[i]? = some (some (SV.own d0)) ∧ env'[i]? = some (some (SV.own ds))) ∨ ∃ d0, env[i]? = some (some (SV.io d0)) ∧ env'[i]? = some (some (SV.io ds)))) ∨
    ((∀ j : Nat, as[j]? ≠ some (Arg.give i)) ∧ env'[i]? = env[i]?)
  | [], p, env, env', e, _ => by
    cases p with
    | nil => cases e; exact ⟨rfl, fun i => .inr ⟨fun j h => by simp at h, rfl⟩⟩
    | cons z p => simp [backA] at e
  | a :: r, p, env, env', e, nd => by
    have nd2 : (r.filterMap Arg.ix).Nodup := by
      rw [List.filterMap_cons] at nd
      split at nd
      · exact nd
      · exact (List.nodup_cons.mp nd).2
    have lift : ∀ {z : Option SV} {p' e0 : EV}, backA r p' e0 = some env' → (∀ i : Nat, a ≠ .give i) → e0 = env → p = z :: p' → env'.length = env.length ∧ ∀ i : Nat,
        (∃ (j : Nat) (ds : List PyData), (a :: r)[j]? = some (Arg.give i) ∧ p[j]? = some (some (SV.io ds)) ∧ ((∃ d0, env[i]? = some (some (SV.own d0)) ∧ env'[i]? = some (some (SV.own ds))) ∨ ∃ d0, env[i]? = some (some (SV.io d0)) ∧ env'[i]? = some (some (SV.io ds)))) ∨
        ((∀ j : Nat, (a :: r)[j]? ≠ some (Arg.give i)) ∧ env'[i]? = env[i]?) := fun {z p' e0} h na e1 e2 => by
      subst e1 e2
      obtain ⟨l, g⟩ := backA_at h nd2
      refine ⟨l, fun i => ?_⟩
      rcases g i with ⟨j, ds, h1, h2, h3⟩ | ⟨h1, h2⟩
      · exact .inl ⟨j + 1, ds, by simpa using h1, by simpa using h2, h3⟩
      · refine .inr ⟨fun j => ?_, h2⟩
        cases j with
        | zero => intro z; simp at z; exact na i z
        | succ j => simpa using h1 j
    cases a with
    | give i0 =>
      have shape : ∃ ds p1, p = some (SV.io ds) :: p1 ∧ ((reown env i0 ds).bind fun env1 => backA r p1 env1) = some env' := by
        cases p with
        | nil => simp [backA] at e
        | cons z p1 =>
          cases z with
          | none => simp [backA] at e
          | some z =>
            cases z with
            | io ds => exact ⟨ds, p1, rfl, by simpa [backA] using e⟩
            | _ => simp [backA] at e
      obtain ⟨ds, p1, rfl, e⟩ := shape
      obtain ⟨env1, e1, e2⟩ := Option.bind_eq_some_iff.mp e
      obtain ⟨l1, k1, k2⟩ := reown_at e1
      obtain ⟨l, g⟩ := backA_at e2 nd2
      have out : ∀ j : Nat, r[j]? ≠ some (Arg.give i0) := fun j h => by
        rw [List.filterMap_cons] at nd
        exact (List.nodup_cons.mp nd).1 (List.mem_filterMap.mpr ⟨_, List.mem_of_getElem? h, rfl⟩)
      refine ⟨l.trans l1, fun i => ?_⟩
      by_cases hi : i = i0
      · subst hi
        rcases g i with ⟨j, es, h1, _⟩ | ⟨_, h2⟩
        · exact absurd h1 (out j)
        · refine .inl ⟨0, ds, rfl, rfl, ?_⟩
          rw [h2]
          exact k2
      · rcases g i with ⟨j, es, h1, h2, h3⟩ | ⟨h1, h2⟩
        · rw [k1 i hi] at h3
          exact .inl ⟨j + 1, es, by simpa using h1, by simpa using h2, h3⟩
        · refine .inr ⟨fun j => ?_, h2.trans (k1 i hi)⟩
          cases j with
          | zero => intro z; simp at z; exact hi z.symm
          | succ j => simpa using h1 j
    | dat d =>
      cases p with
      | nil => simp [backA] at e
      | cons z p => exact lift (by simpa [backA] using e) (fun i h => by cases h) rfl rfl
    | lend k =>
      cases p with
      | nil => simp [backA] at e
      | cons z p => exact lift (by simpa [backA] using e) (fun i h => by cases h) rfl rfl
/-- behind the call -/
theorem back_post {vs : List V} {as : List Arg} {svs : List SV} {p : EV} (D : Den K A env σ H) (ha : ArgsOk K H (Av A env σ) σ vs as) (nd : (as.filterMap Arg.ix).Nodup) (e : passAs env as = some svs)
    (k : Keep (Mt (svs.map some) (vs.map some)) H H') (Dp : Den K (Av A env σ) p (vs.map some) H') (b : backA as p env = some env2) :
    Post K A env σ H env2 H' ∧ ∀ a, Av A env2 σ a → Av A env σ a := by
  obtain ⟨_, _, mt⟩ := pass_den D ha nd e
  obtain ⟨len, at'⟩ := backA_at b nd
  have sub : Sub env2 env := by
    refine ⟨len, fun i s h => ?_⟩
    rcases at' i with ⟨j, ds, _, _, ⟨d0, h1, h2⟩ | ⟨d0, h1, h2⟩⟩ | ⟨_, h1⟩
    · rw [h2] at h; cases h; exact ⟨_, h1, .own _ _⟩
    · rw [h2] at h; cases h; exact ⟨_, h1, .io _ _⟩
    · rw [h1] at h; exact ⟨s, h, .refl s⟩
  have av : ∀ a, Av A env2 σ a → Av A env σ a := fun a q => sub.av q
  refine ⟨⟨k.mono fun a q => (mt a q).1, ⟨len.trans D.len, fun i s h => ?_, fun i j s t a h1 h2 l1 l2 z1 z2 => ?_, fun a q => ?_, fun a q => D.dis a (sub.at (fun s t q z => by cases q <;> first | rfl | cases z) q)⟩, sub⟩, av⟩
  · have given : ∀ {j : Nat} {ds : List PyData} {s : SV}, as[j]? = some (Arg.give i) → p[j]? = some (some (SV.io ds)) → s.items = some ds → ∃ v, σ[i]? = some (some v) ∧ SlotOk K H' (Av A env2 σ) v s := fun {j ds s} h1 h2 hs => by
      obtain ⟨v, g1, g2⟩ := ha.at h1
      obtain ⟨u, g3, g4⟩ := Dp.slot j _ h2
      rw [map_some_at] at g3
      rw [g1] at g3; cases g3
      obtain ⟨a, xs, rfl, hx, r⟩ := g4
      exact ⟨_, g2, .mk hs hx (r.weak fun b q => .inl (av b q))⟩
    rcases at' i with ⟨j, ds, g1, g2, ⟨d0, h1, h2⟩ | ⟨d0, h1, h2⟩⟩ | ⟨g, h1⟩
    · rw [h2] at h; cases h; exact given g1 g2 rfl
    · rw [h2] at h; cases h; exact given g1 g2 rfl
    · rw [h1] at h
      obtain ⟨v, hv, q⟩ := D.slot i s h
      refine ⟨v, hv, SlotOk.move k (fun a z => (mt a z).1.av) (fun a z => .inl (av a z)) (fun l a ea z => ?_) q⟩
      subst ea
      obtain ⟨i', ⟨j, hj⟩, hv'⟩ := (mt a z).2
      obtain ⟨i2, t2, h2, tm, hv2⟩ := (mt a z).1
      have e1 := D.inj i i2 s t2 a h h2 l (SV.ls_of_mut tm) hv hv2
      subst e1
      -- the given slot is this one
      obtain ⟨v', gv, gq⟩ := ha.at hj
      by_cases hii : i' = i
      · subst hii; exact g j hj
      · rcases at' i' with ⟨_, _, _, _, ⟨d0, k1, _⟩ | ⟨d0, k1, _⟩⟩ | ⟨g', _⟩
        · exact hii (D.inj i' i _ s a k1 h rfl l hv' hv)
        · exact hii (D.inj i' i _ s a k1 h rfl l hv' hv)
        · exact g' j hj
  · obtain ⟨s', e1, q1⟩ := sub.back i s h1
    obtain ⟨t', e2, q2⟩ := sub.back j t h2
    exact D.inj i j s' t' a e1 e2 (by cases q1 <;> first | rfl | cases l1) (by cases q2 <;> first | rfl | cases l2) z1 z2
  · obtain ⟨xs, hx⟩ := D.amb a q
    exact k.lst a xs hx
/-- .. and a list that the callee made new is nowhere in the caller's slots -/
theorem back_late {vs : List V} {as : List Arg} {svs : List SV} {p : EV} {a : Addr} {xs : List V} (D : Den K A env σ H) (ha : ArgsOk K H (Av A env σ) σ vs as) (nd : (as.filterMap Arg.ix).Nodup) (e : passAs env as = some svs)
    (k : Keep (Mt (svs.map some) (vs.map some)) H H') (Dp : Den K (Av A env σ) p (vs.map some) H') (Da : Den K (fun b => Av A env σ b ∨ b = a) p (vs.map some) H') (b : backA as p env = some env2) (n : H a = none) (h : H' a = some (.lst xs)) :
    Den K (fun b => A b ∨ b = a) env2 σ H' := by
  obtain ⟨P, av⟩ := back_post D ha nd e k Dp b
  obtain ⟨_, _, mt⟩ := pass_den D ha nd e
  obtain ⟨len, at'⟩ := backA_at b nd
  have wide : ∀ c, Av (fun b => A b ∨ b = a) env2 σ c → Av A env σ c ∨ c = a := fun c z => by
    rcases z with (z | z) | z
    · exact .inl (.inl z)
    · exact .inr z
    · exact .inl (av c (.inr z))
  refine ⟨P.den.len, fun i s hs => ?_, P.den.inj, fun c z => ?_, fun c z y => ?_⟩
  · have given : ∀ {j : Nat} {ds : List PyData} {s : SV}, as[j]? = some (Arg.give i) → p[j]? = some (some (SV.io ds)) → s.items = some ds → ∃ v, σ[i]? = some (some v) ∧ SlotOk K H' (Av (fun b => A b ∨ b = a) env2 σ) v s := fun {j ds s} h1 h2 hs => by
      obtain ⟨v, g1, g2⟩ := ha.at h1
      obtain ⟨u, g3, g4⟩ := Da.slot j _ h2
      rw [map_some_at] at g3
      rw [g1] at g3; cases g3
      obtain ⟨c, ys, rfl, hx, r⟩ := g4
      exact ⟨_, g2, .mk hs hx (r.weak fun b q => .inl (wide b q))⟩
    rcases at' i with ⟨j, ds, g1, g2, ⟨d0, h1, h2⟩ | ⟨d0, h1, h2⟩⟩ | ⟨g, h1⟩
    · rw [h2] at hs; cases hs; exact given g1 g2 rfl
    · rw [h2] at hs; cases hs; exact given g1 g2 rfl
    · -- as it was ahead of the call
      obtain ⟨v, hv, q1⟩ := P.den.slot i s hs
      rw [h1] at hs
      obtain ⟨v0, hv0, q⟩ := D.slot i s hs
      refine ⟨v0, hv0, SlotOk.move k (fun c z => (mt c z).1.av) (fun c z => ?_) (fun l c ec z => ?_) q⟩
      · rcases wide c z with z | z
        · exact .inl z
        · exact .inr (by rw [z]; exact n)
      · subst ec
        obtain ⟨i', ⟨j, hj⟩, hv'⟩ := (mt c z).2
        obtain ⟨i2, t2, h2, tm, hv2⟩ := (mt c z).1
        have e2 := D.inj i i2 s t2 c hs h2 l (SV.ls_of_mut tm) hv0 hv2
        subst e2
        by_cases hii : i' = i
        · subst hii; exact g j hj
        · rcases at' i' with ⟨_, _, _, _, ⟨d0, k1, _⟩ | ⟨d0, k1, _⟩⟩ | ⟨g', _⟩
          · exact hii (D.inj i' i _ s c k1 hs rfl l hv' hv0)
          · exact hii (D.inj i' i _ s c k1 hs rfl l hv' hv0)
          · exact g' j hj
  · rcases z with z | rfl
    · exact P.den.amb c z
    · exact ⟨xs, h⟩
  · rcases y with y | rfl
    · exact P.den.dis c z y
    · refine D.fresh n (av c (.inr (z.mono fun _ h => SV.ls_of_mut (SV.mut_of_own h))))
theorem callA_ok {c : Ct} {n : Nat} {C : CallSem} {vs : List V} {as : List Arg} {Q : VK} (P : Post c.K A env σ H env1 H1) (ha : ArgsOk c.K H1 (Av A env1 σ) σ vs as) (hn : vs.length = n)
    (q : wp (callA C as env1) (fun r env2 => ∀ v H', Post c.K A env σ H env2 H' → Rv c.K A env2 σ H H' v r → Q v H') (XW c A env σ H)) : spC c.K c.mg n C vs H1 Q (WE c.W σ) := by
  unfold callA at q
  split at q
  · rename_i ap
    have nd : (as.filterMap Arg.ix).Nodup := of_decide_eq_true ap
    obtain ⟨svs, e, q⟩ := wp_sure q
    obtain ⟨D, own, _⟩ := pass_den P.den ha nd e
    refine ⟨Av A env1 σ, svs, hn, D, own, ?_⟩
    cases hC : C svs with
    | none => rw [hC] at q; exact q.elim
    | some o =>
      rw [hC] at q
      cases o with
      | ok r p =>
        obtain ⟨env2, b, q⟩ := wp_sure q
        refine fun v H' k Dp rr => ?_
        obtain ⟨P2, av⟩ := back_post P.den ha nd e k Dp b
        refine q v H' (P.trans P2) (Rv.back ?_ fun _ z => P.keep.new z)
        cases r with
        | frz d => exact Rp.weak rr fun a z => .inl (av a z)
        | own ds =>
          obtain ⟨a, xs, e1, n1, h1, nb, Da, r1⟩ := rr
          exact ⟨a, xs, e1, n1, h1, fun z => nb (.inl (av a z)), back_late P.den ha nd e k Dp Da b n1 h1, r1.weak fun b z => z.elim (fun z => .inl (.inl (av b z))) .inr⟩
        | lent ds => exact rr.elim
        | io ds => exact rr.elim
        | scr ds => exact rr.elim
      | er x p =>
        obtain ⟨env2, b, q⟩ := wp_sure q
        refine fun u dx H' k Dp ex => ?_
        obtain ⟨P2, av⟩ := back_post P.den ha nd e k Dp b
        refine q u dx H' (P.trans P2) ?_
        obtain ⟨C0, m0, u0, f0⟩ := ex
        refine ⟨C0, m0, u0, ?_⟩
        match hx : x.fld, f0 with
        | none, f0 => exact f0
        | some (f, d), f0 =>
          obtain ⟨a, v, h1, h2, h3⟩ := f0
          exact ⟨a, v, h1, h2, Rp.weak h3 fun b z => .inl (av b z)⟩
  · exact q.elim
end
end Tw
end STwH

section STwI
/-! Part I: calls as expressions. -/
namespace Tw
open PySem PySem.Spec PyProof.Rows L2

def tAs (c : Ct) (ags : List Ag) : TA := fun σ H Q => ∃ A env, Den c.K A env σ H ∧ wp (evAs ags env) (fun as env' => ∀ vs H', Post c.K A env σ H env' H' → ArgsOk c.K H' (Av A env' σ) σ vs as → Q vs H') (XW c A env σ H)
/-- one argument is this -/
def SndG (X : Cx) (W : WX) (e : Expr) : Ag → Prop
  | .val s => Snd X W e s
  | .give i | .lend i => ∃ x p, e = .Name x p ∧ X.N[i]? = some x ∧ Vis X.env.scope x ∧ (x == ("__debug__" : Str)) = false ∧ (x == ("__classdict__" : Str)) = false
inductive SndA (X : Cx) (W : WX) : List Expr → List Ag → Prop
  | nil : SndA X W [] []
  | cons {e : Expr} {es : List Expr} {a : Ag} {as : List Ag} : noStar e = true → SndG X W e a → SndA X W es as → SndA X W (e :: es) (a :: as)
inductive SndK (X : Cx) (W : WX) : List Keyword → List Str → List Ag → Prop
  | nil : SndK X W [] [] []
  | cons {e : Expr} {nm : Str} {p : Pos} {ks : List Keyword} {ns : List Str} {a : Ag} {as : List Ag} : SndG X W e a → SndK X W ks ns as → SndK X W (⟨some nm, e, p⟩ :: ks) (nm :: ns) (a :: as)
theorem evAs_append : ∀ (as bs : List Ag) (env : EV), evAs (as ++ bs) env = (evAs as env).bd fun x env1 => (evAs bs env1).bd fun y env2 => .mk (x ++ y) env2
  | [], bs, env => by
    show evAs bs env = (evAs bs env).bd fun y env2 => .mk ([] ++ y) env2
    cases evAs bs env with
    | none => rfl
    | some o => cases o <;> rfl
  | .val s :: r, bs, env => by
    show (s.v env).bd _ = ((s.v env).bd _).bd _
    cases hs : s.v env with
    | none => rfl
    | some o =>
      cases o with
      | er x e => rfl
      | ok z e =>
        show sure z.freeze _ = (sure z.freeze _).bd _
        cases z.freeze with
        | none => rfl
        | some d =>
          show (evAs (r ++ bs) e).bd _ = ((evAs r e).bd _).bd _
          rw [evAs_append r bs e]
          cases evAs r e with
          | none => rfl
          | some o =>
            cases o with
            | er x e => rfl
            | ok x e =>
              show ((evAs bs e).bd _).bd _ = (evAs bs e).bd _
              cases evAs bs e with
              | none => rfl
              | some o => cases o <;> rfl
  | .give i :: r, bs, env => by
    simp only [List.cons_append, evAs]
    split
    · rw [evAs_append r bs env]
      cases evAs r env with
      | none => rfl
      | some o =>
        cases o with
        | er x e => rfl
        | ok x e =>
          show ((evAs bs e).bd _).bd _ = (evAs bs e).bd _
          cases evAs bs e with
          | none => rfl
          | some o => cases o <;> rfl
    · rfl
  | .lend i :: r, bs, env => by
    simp only [List.cons_append, evAs]
    split
    · rw [evAs_append r bs env]
      cases evAs r env with
      | none => rfl
      | some o =>
        cases o with
        | er x e => rfl
        | ok x e =>
          show ((evAs bs e).bd _).bd _ = (evAs bs e).bd _
          cases evAs bs e with
          | none => rfl
          | some o => cases o <;> rfl
    · rfl
section
variable {X : Cx} {W : WX}
/-- an argument, then the others -/
theorem SndG.step {c : Ct} {ags : List Ag} {i : Nat} {σ : St} {H : Hp} {Q : List V → Hp → Prop} {ag : Ag} (hag : ag = .give i ∨ ag = .lend i) (h : tAs c (ag :: ags) σ H Q) : ∃ v, σ[i]? = some (some v) ∧ tAs c ags σ H fun vs H1 => Q (v :: vs) H1 := by
  obtain ⟨A, env, D, q⟩ := h
  rcases hag with rfl | rfl
  · simp only [evAs] at q
    split at q
    · rename_i s hs
      obtain ⟨v, hv, _⟩ := D.slot i s hs
      rw [wp_bd] at q
      exact ⟨v, hv, A, env, D, q.imp (fun as env1 q vs H1 P r => q _ H1 P (.cons hv r)) fun _ _ z => z⟩
    · exact q.elim
  · simp only [evAs] at q
    split at q
    · rename_i s hs
      obtain ⟨v, hv, _⟩ := D.slot i s hs
      rw [wp_bd] at q
      exact ⟨v, hv, A, env, D, q.imp (fun as env1 q vs H1 P r => q _ H1 P (.cons hv r)) fun _ _ z => z⟩
    · exact q.elim
theorem tAs_val {c : Ct} {ags : List Ag} {s : Sm} (σ : St) (H : Hp) (Q : List V → Hp → Prop) (h : tAs c (.val s :: ags) σ H Q) : tCons (tV c s) (tAs c ags) σ H Q := by
  obtain ⟨A, env, D, q⟩ := h
  simp only [evAs, wp_bd] at q
  refine ⟨A, env, D, q.imp (fun z env1 q v H1 P r => ?_) fun _ _ z => z⟩
  obtain ⟨d, e, q⟩ := wp_sure q
  rw [wp_bd] at q
  exact ⟨A, env1, P.den, q.imp (fun as env2 q vs H2 P2 r2 => q _ H2 (P.trans P2) (.cons (P2.rp (r.freeze e)) r2)) fun _ _ z => z.behind P⟩
theorem tAs_nil {c : Ct} (σ : St) (H : Hp) (Q : List V → Hp → Prop) (h : tAs c [] σ H Q) : tNil σ H Q := by
  obtain ⟨A, env, D, q⟩ := h
  exact q [] H D.post .nil
theorem SndA.pa : ∀ {es : List Expr} {as : List Ag}, SndA X W es as → PA X es (tAs (.ofX X W) as)
  | _, _, .nil => PA.imp pa_nil tAs_nil
  | _, _, .cons (a := .val s) n h t => PA.imp (pa_cons h.v t.pa (starEach_no n _ _)) tAs_val
  | _, _, .cons (a := .give i) n h t => by
    obtain ⟨x, p, rfl, hN, hv, h1, h2⟩ := h
    exact PA.imp (pa_cons (pe_var hN hv h1 h2) t.pa (starEach_no n _ _)) fun σ H Q q => SndG.step (.inl rfl) q
  | _, _, .cons (a := .lend i) n h t => by
    obtain ⟨x, p, rfl, hN, hv, h1, h2⟩ := h
    exact PA.imp (pa_cons (pe_var hN hv h1 h2) t.pa (starEach_no n _ _)) fun σ H Q q => SndG.step (.inr rfl) q
theorem PK.imp {ks : List Keyword} {t t' : TA} (h : PK X ks t) (i : ∀ σ H Q, t' σ H Q → t σ H Q) : PK X ks t' := ⟨fun c p s σ H Q I q => h.run c p s σ H Q I (i σ H Q q)⟩
theorem SndK.pk : ∀ {ks : List Keyword} {ns : List Str} {as : List Ag}, SndK X W ks ns as → PK X ks (tAs (.ofX X W) as)
  | _, _, _, .nil => PK.imp pk_nil tAs_nil
  | _, _, _, .cons (a := .val s) h t => PK.imp (pk_cons h.v t.pk) tAs_val
  | _, _, _, .cons (a := .give i) h t => by
    obtain ⟨x, p, rfl, hN, hv, h1, h2⟩ := h
    exact PK.imp (pk_cons (pe_var hN hv h1 h2) t.pk) fun σ H Q q => SndG.step (.inl rfl) q
  | _, _, _, .cons (a := .lend i) h t => by
    obtain ⟨x, p, rfl, hN, hv, h1, h2⟩ := h
    exact PK.imp (pk_cons (pe_var hN hv h1 h2) t.pk) fun σ H Q q => SndG.step (.inr rfl) q
theorem SndA.all : ∀ {es : List Expr} {as : List Ag}, SndA X W es as → es.all noStar = true
  | _, _, .nil => rfl
  | _, _, .cons n _ t => by rw [List.all_cons, n, t.all]; rfl
theorem SndA.length : ∀ {es : List Expr} {as : List Ag}, SndA X W es as → es.length = as.length
  | _, _, .nil => rfl
  | _, _, .cons _ _ t => by rw [List.length_cons, List.length_cons, t.length]
theorem SndK.keys {pos : Pos} : ∀ {ks : List Keyword} {ns : List Str} {as : List Ag}, SndK X W ks ns as → (backToKw pos (keywordEach ks X.env)).all (·.1.isSome) = true ∧ (backToKw pos (keywordEach ks X.env)).filterMap (·.1) = ns ∧
    (backToKw pos (keywordEach ks X.env)).any (·.1.isNone) = false ∧ ks.length = ns.length ∧ as.length = ns.length
  | _, _, _, .nil => ⟨rfl, rfl, rfl, rfl, rfl⟩
  | _, _, _, .cons (nm := nm) (ks := ks) h t => by
    obtain ⟨h1, h2, h3, h4, h5⟩ := SndK.keys (pos := pos) t
    refine ⟨?_, ?_, ?_, by rw [List.length_cons, List.length_cons, h4], by rw [List.length_cons, List.length_cons, h5]⟩
    · show (true && _) = true
      rw [Bool.true_and]; simpa [backToKw] using h1
    · show nm :: _ = nm :: _
      congr 1
      try simpa [backToKw] using h2
    · show (false || _) = false
      rw [Bool.false_or]; simpa [backToKw] using h3
theorem tAs_len {c : Ct} {ags : List Ag} {σ : St} {H : Hp} {Q : List V → Hp → Prop} (h : tAs c ags σ H Q) : tAs c ags σ H fun vs H1 => vs.length = ags.length ∧ Q vs H1 := by
  obtain ⟨A, env, D, q⟩ := h
  have len : ∀ (ags : List Ag) (env : EV), wp (evAs ags env) (fun as _ => as.length = ags.length) (fun _ _ => True) ∨ evAs ags env = none := by
    intro ags
    induction ags with
    | nil => intro env; exact .inl rfl
    | cons a r ih =>
      intro env
      cases a with
      | val s =>
        simp only [evAs]
        cases hs : s.v env with
        | none => exact .inr rfl
        | some o =>
          cases o with
          | er x e => exact .inl trivial
          | ok z e =>
            show wp (sure z.freeze _) _ _ ∨ sure z.freeze _ = none
            cases z.freeze with
            | none => exact .inr rfl
            | some d =>
              show wp ((evAs r e).bd _) _ _ ∨ (evAs r e).bd _ = none
              rcases ih e with h | h
              · refine .inl ?_
                rw [wp_bd]
                exact h.imp (fun as _ z => by show (Arg.dat d :: as).length = _; rw [List.length_cons, List.length_cons, z]) fun _ _ z => z
              · rw [h]; exact .inr rfl
      | give i =>
        simp only [evAs]
        split
        · rcases ih env with h | h
          · refine .inl ?_
            rw [wp_bd]
            exact h.imp (fun as _ z => by show (Arg.give i :: as).length = _; rw [List.length_cons, List.length_cons, z]) fun _ _ z => z
          · rw [h]; exact .inr rfl
        · exact .inr rfl
      | lend i =>
        simp only [evAs]
        split
        · rcases ih env with h | h
          · refine .inl ?_
            rw [wp_bd]
            exact h.imp (fun as _ z => by show (Arg.lend i :: as).length = _; rw [List.length_cons, List.length_cons, z]) fun _ _ z => z
          · rw [h]; exact .inr rfl
        · exact .inr rfl
  refine ⟨A, env, D, ?_⟩
  rcases len ags env with h | h
  · cases hv : evAs ags env with
    | none => rw [hv] at q; exact q.elim
    | some o =>
      rw [hv] at q h
      cases o with
      | ok as e => exact fun vs H' P r => ⟨by rw [r.length]; exact h, q vs H' P r⟩
      | er x e => exact q
  · rw [h] at q; exact q.elim
end

/-! ### f(..) -/
def vCallP (C : CallSem) (ags : List Ag) (env : EV) : Res SV := (evAs ags env).bd fun as env1 => callA C as env1
section
variable {X : Cx} {W : WX} {k : Nat} {f : Addr} {fd : FuncData} {ps ns : List Str} {x : Str} {p pos : Pos} {es : List Expr} {ags ags' : List Ag} {C : CallSem} {kws : List Keyword} {π : List Nat} {n : Nat}
theorem tAs_call {c : Ct} {n : Nat} (hn : ags.length = n) (σ : St) (H : Hp) (Q : VK) (q : tV c (.of (vCallP C ags)) σ H Q) : tCl (spC c.K c.mg n C) c.W (tAs c ags) σ H Q := by
  have q' : tAs c ags σ H fun vs H1 => spC c.K c.mg n C vs H1 Q (WE c.W σ) := by
    suffices z : tAs c ags σ H fun vs H1 => vs.length = ags.length → spC c.K c.mg n C vs H1 Q (WE c.W σ) by
      obtain ⟨A, env, D, z⟩ := tAs_len z
      exact ⟨A, env, D, z.imp (fun as env1 z vs H1 P r => (z vs H1 P r).2 (z vs H1 P r).1) fun _ _ z => z⟩
    obtain ⟨A, env, D, q⟩ := q
    have q : wp (vCallP C ags env) _ _ := q
    simp only [vCallP, wp_bd] at q
    exact ⟨A, env, D, q.imp (fun as env1 q vs H1 P r hl => callA_ok P r (hl.trans hn) q) fun _ _ z => z⟩
  exact q'
theorem snd_call (F : FnG X.prog X.w X.K X.mg X.base k f fd ps (spC X.K X.mg ps.length C)) (hr : Room k X.A) (hg : X.A.guards = some []) (tk : Takes X W) (gl : Gl X x) (hm : X.mg x = some (.ref f)) (hk : PySem.W.keepIn X.K (.ref f) = true) (hb : Binds X.K fd ps [])
    (hd : (x == ("__debug__" : Str)) = false) (h : SndA X W es ags) (hn : ags.length = ps.length) : Snd X W (.Call (.Name x p) es [] pos) (.of (vCallP C ags)) := by
  refine .of ?_ rfl
  cases h with
  | nil => exact (pe_pos0 F hr hg tk gl hm hk hb hd).imp fun σ H Q q => tAs_nil σ H _ (tAs_call (c := .ofX X W) hn σ H Q q)
  | cons n h t =>
    exact (pe_pos F hr hg tk gl hm hk hb (SndA.cons n h t).pa hd (starEach_no n _ _) (starEach_any t.all)).imp fun σ H Q q => tAs_call (c := .ofX X W) hn σ H Q q
/-- with keywords -/
theorem tAs_kcall {c : Ct} {n : Nat} (hπ : ∀ {β : Type} (l : List β), l.length = ags.length + ags'.length → (permL π l).length = n) (σ : St) (H : Hp) (Q : VK) (q : tV c (.of (vCall C π (ags ++ ags'))) σ H Q) :
    tClK (spC c.K c.mg n C) c.W (permL π) (tAs c ags) (tAs c ags') σ H Q := by
  obtain ⟨A, env, D, q⟩ := q
  have q : wp (vCall C π (ags ++ ags') env) _ _ := q
  simp only [vCall, evAs_append, wp_bd, wp_mk] at q
  have one : tAs c ags σ H fun vs H1 => vs.length = ags.length → tAs c ags' σ H1 fun zs H2 => zs.length = ags'.length → spC c.K c.mg n C (permL π (vs ++ zs)) H2 Q (WE c.W σ) :=
    ⟨A, env, D, q.imp (fun as env1 q vs H1 P r l1 => ⟨A, env1, P.den, q.imp (fun bs env2 q zs H2 P2 r2 l2 => callA_ok (P.trans P2) (((r.post P2).append r2).perm π) (hπ _ (by rw [List.length_append, l1, l2])) q) fun _ _ z => z.behind P⟩) fun _ _ z => z⟩
  obtain ⟨A2, env2, D2, z⟩ := tAs_len one
  refine ⟨A2, env2, D2, z.imp (fun as env1 z vs H1 P r => ?_) fun _ _ z => z⟩
  obtain ⟨A3, env3, D3, y⟩ := tAs_len ((z vs H1 P r).2 (z vs H1 P r).1)
  exact ⟨A3, env3, D3, y.imp (fun bs env4 y zs H2 P2 r2 => (y zs H2 P2 r2).2 (y zs H2 P2 r2).1) fun _ _ z => z⟩
theorem permL_len {β : Type} {π : List Nat} : ∀ {l : List β}, (∀ i ∈ π, i < l.length) → (permL π l).length = π.length := by
  induction π with
  | nil => intro l _; rfl
  | cons i r ih =>
    intro l h
    unfold permL
    have hi := h i List.mem_cons_self
    rw [List.filterMap_cons, List.getElem?_eq_getElem hi]
    show (permL r l).length + 1 = r.length + 1
    rw [ih fun j hj => h j (List.mem_cons_of_mem _ hj)]
theorem snd_kcall (F : FnG X.prog X.w X.K X.mg X.base k f fd ps (spC X.K X.mg ps.length C)) (hr : Room k X.A) (hg : X.A.guards = some []) (tk : Takes X W) (gl : Gl X x) (hm : X.mg x = some (.ref f)) (hk : PySem.W.keepIn X.K (.ref f) = true) (hb : BindK fd ps ns es.length π)
    (hd : (x == ("__debug__" : Str)) = false) (h : SndA X W es ags) (h2 : SndK X W kws ns ags') (hπ : π.length = ps.length) (hlt : ∀ i ∈ π, i < es.length + ns.length) : Snd X W (.Call (.Name x p) es kws pos) (.of (vCall C π (ags ++ ags'))) := by
  obtain ⟨k1, k2, k3, k4, k5⟩ := h2.keys (pos := pos)
  have lp : ∀ {β : Type} (l : List β), l.length = ags.length + ags'.length → (permL π l).length = ps.length := fun l e => by
    rw [permL_len (fun i hi => by rw [e, ← h.length, k5]; exact hlt i hi), hπ]
  have lk : ∀ σ H Q, tAs (.ofX X W) ags' σ H Q → tAs (.ofX X W) ags' σ H fun vs H1 => vs.length = ns.length ∧ Q vs H1 := fun σ H Q q => by
    have := tAs_len q
    rw [k5] at this; exact this
  refine .of ?_ rfl
  cases h with
  | nil =>
    refine (pe_kw0 F hr hg tk gl hm hk hb h2.pk lk k1 k2 hd (by rw [k3]; rfl)).imp fun σ H Q q => ?_
    exact tAs_nil σ H _ (tAs_kcall (c := .ofX X W) lp σ H Q q)
  | cons n h t =>
    have hA := SndA.cons n h t
    refine (pe_kw F hr hg tk gl hm hk hb rfl hA.pa h2.pk k4 lk (fun σ H Q q => by have := tAs_len q; rw [← hA.length] at this; exact this) k1 k2 hd (starEach_no n _ _) (by rw [k3, starEach_any hA.all]; rfl)).imp fun σ H Q q => ?_
    exact tAs_kcall (c := .ofX X W) lp σ H Q q
/-- f(g(..)): a new list that the callee may change -/
def vCallM (C : CallSem) (s : Sm) (env : EV) : Res SV := (s.v env).bd fun r env1 => match r with
  | .own ds => (match C [.io ds] with
    | some (.ok z _) => .mk z env1
    | some (.er x _) => some (.er x env1)
    | none => none)
  | _ => none
theorem snd_mcall {e : Expr} {s : Sm} (F : FnG X.prog X.w X.K X.mg X.base k f fd ps (spC X.K X.mg 1 C)) (hr : Room k X.A) (hg : X.A.guards = some []) (tk : Takes X W) (gl : Gl X x) (hm : X.mg x = some (.ref f)) (hk : PySem.W.keepIn X.K (.ref f) = true) (hb : Binds X.K fd ps [])
    (hd : (x == ("__debug__" : Str)) = false) (hn : noStar e = true) (he : Snd X W e s) : Snd X W (.Call (.Name x p) [e] [] pos) (.of (vCallM C s)) := by
  have pa : PA X [e] (tCons (tV (.ofX X W) s) tNil) := pa_cons he.v pa_nil (starEach_no hn _ _)
  refine .of ((pe_pos F hr hg tk gl hm hk hb pa hd (starEach_no hn _ _) rfl).imp fun σ H Q q => ?_) rfl
  obtain ⟨A, env, D, q⟩ := q
  have q : wp (vCallM C s env) _ _ := q
  simp only [vCallM, wp_bd] at q
  refine ⟨A, env, D, q.imp (fun r env1 q v H1 P rr => ?_) fun _ _ z => z⟩
  cases r with
  | own ds =>
    dsimp only at q
    obtain ⟨a, xs, rfl, n0, ha, nb, Da, rs⟩ := rr
    have av1 : ∀ b, AtS SV.isLs [some (SV.io ds)] [some (V.ref a)] b → b = a := fun b ⟨i, t, h1, _, h2⟩ => by
      cases i with
      | zero => simp at h2; exact h2.symm
      | succ i => simp at h1
    have sub : ∀ b, Av (Av A env1 σ) [some (SV.io ds)] [some (V.ref a)] b → Av A env1 σ b ∨ b = a := fun b z => z.elim .inl fun z => .inr (av1 b z)
    refine ⟨Av A env1 σ, [.io ds], rfl, ⟨rfl, fun i t h => ?_, fun i j t u b h1 h2 _ _ z1 z2 => ?_, fun b z => P.den.tracked z, fun b ⟨i, t, h, z, _⟩ => ?_⟩, fun t ht => ?_, ?_⟩
    · cases i with
      | zero => simp at h; subst h; exact ⟨_, rfl, a, xs, rfl, ha, rs.weak sub⟩
      | succ i => simp at h
    · cases i with
      | zero => cases j with
        | zero => rfl
        | succ j => simp at h2
      | succ i => simp at h1
    · cases i with
      | zero => simp at h; subst h; cases z
      | succ i => simp at h
    · simp at ht; subst ht; rfl
    · have back : ∀ {H' : Hp}, Keep (Mt [some (SV.io ds)] [some (V.ref a)]) H1 H' → Post X.K A env σ H env1 H' := fun {H'} k => by
        have k2 : Keep (fun b => b = a) H1 H' := k.mono fun b z => av1 b (z.mono fun _ => SV.ls_of_mut)
        refine ⟨P.keep.trans k2 fun b z => .inr (by rw [z]; exact n0), ⟨P.den.len, fun i t h => ?_, P.den.inj, fun b z => ?_, P.den.dis⟩, P.sub⟩
        · obtain ⟨u, hu, q⟩ := Da.slot i t h
          exact ⟨u, hu, SlotOk.move k2 (fun b z => .inl (.inr z)) (fun b z => .inl (z.elim (fun z => .inl (.inl z)) .inr)) (fun l b e z => by
            subst e z
            exact nb (.inr ⟨i, t, h, l, hu⟩)) q⟩
        · obtain ⟨ys, hy⟩ := P.den.amb b z
          exact k.lst b ys hy
      cases hC : C [.io ds] with
      | none => rw [hC] at q; exact q.elim
      | some o =>
        rw [hC] at q
        cases o with
        | ok z p =>
          refine fun v H' k Dp rz => q v H' (back k) (Rv.back ?_ fun _ z => P.keep.new z)
          cases z with
          | frz d => exact Rp.weak rz fun b z => .inl z
          | own es =>
            obtain ⟨a2, ys, e2, n2, h2, nb2, Da2, r2⟩ := rz
            refine ⟨a2, ys, e2, n2, h2, fun z => nb2 (.inl z), ?_, r2.weak fun b z => z.elim (fun z => .inl (.inl z)) .inr⟩
            have k2 : Keep (fun b => b = a) H1 H' := k.mono fun b z => av1 b (z.mono fun _ => SV.ls_of_mut)
            refine ⟨P.den.len, fun i t h => ?_, P.den.inj, fun b z => ?_, fun b z y => ?_⟩
            · obtain ⟨u, hu, q⟩ := Da.slot i t h
              refine ⟨u, hu, SlotOk.move k2 (fun b z => .inl (.inr z)) (fun b z => ?_) (fun l b e z => by
                subst e z
                exact nb (.inr ⟨i, t, h, l, hu⟩)) q⟩
              rcases z with (z | z) | z
              · exact .inl (.inl (.inl z))
              · exact .inr (by rw [z]; exact n2)
              · exact .inl (.inr z)
            · rcases z with z | rfl
              · obtain ⟨ys, hy⟩ := P.den.amb b z
                exact k.lst b ys hy
              · exact ⟨ys, h2⟩
            · rcases y with y | rfl
              · exact P.den.dis b z y
              · exact P.den.fresh n2 (.inr (z.mono fun _ h => SV.ls_of_mut (SV.mut_of_own h)))
          | lent d => exact rz.elim
          | io d => exact rz.elim
          | scr d => exact rz.elim
        | er x p =>
          refine fun u dx H' k Dp ex => q u dx H' (back k) ?_
          obtain ⟨C0, m0, u0, f0⟩ := ex
          refine ⟨C0, m0, u0, ?_⟩
          match hx : x.fld, f0 with
          | none, f0 => exact f0
          | some (f, d), f0 =>
            obtain ⟨a2, v2, h1, h2, h3⟩ := f0
            exact ⟨a2, v2, h1, h2, Rp.weak h3 fun b z => .inl z⟩
  | frz d => exact q.elim
  | lent d => exact q.elim
  | io d => exact q.elim
  | scr d => exact q.elim
end
end Tw
end STwI

section STwJ
/-! Part J: what a loop or a comprehension walks. -/
namespace Tw
open PySem PySem.Spec PyProof.Rows L2

/-- an iterator that yields these items, while no list outside P changes -/
def ItOk (K : PySem.W.Frag) (H1 : Hp) (P B : Addr → Prop) (J : It) (items : List PyData) : Prop := ∀ H, Keep P H1 H → ∀ i : Nat,
  (i < items.length → J.go i H ∧ ∀ x H', J.yld i H x H' → (∀ a o, H a = some o → H' a = some o) ∧ ∃ d, items[i]? = some d ∧ ∀ B' : Addr → Prop, (∀ a, B' a → B a ∨ H1 a = none) → Rp K H' B' x d) ∧
  (items.length ≤ i → J.stop i H)
/-- lists of one's own are lent for the time of a walk -/
def lendS : List Nat → EV → EV
  | [], env => env
  | i :: r, env => lendS r (match env[i]? with
    | some (some (.own ds)) => env.set i (some (.lent ds))
    | _ => env)
def unlendS : List Nat → EV → EV
  | [], env => env
  | i :: r, env => unlendS r (match env[i]? with
    | some (some (.lent ds)) => env.set i (some (.own ds))
    | _ => env)
/-- the data of an operand that is walked, and the slots that are to be lent -/
def srcO (env : EV) : Opd → Option (PyData × List Nat)
  | .dat d => some (d, [])
  | .slot i => match env[i]? with
    | some (some (.frz d)) => some (d, [])
    | some (some (.own ds)) => some (.list ds, [i])
    | some (some (.lent ds)) => some (.list ds, [])
    | some (some (.scr ds)) => some (.list ds, [])
    | _ => none
/-- data at a value, walked: a list is none of P -/
def Rw (K : PySem.W.Frag) (H : Hp) (P B : Addr → Prop) (v : V) : PyData → Prop
  | .list ds => ∃ a xs, v = .ref a ∧ ((H a = some (.lst xs) ∧ ¬ P a) ∨ SqF K H a xs) ∧ Rps K H B xs ds
  | d => Rp K H B v d
abbrev Src := EV → Res (List PyData × List Nat)
def tI (c : Ct) (src : Src) : TI := fun σ H R => ∃ A env, Den c.K A env σ H ∧
  wp (src env) (fun p env1 => ∀ J H1, Post c.K A env σ H env1 H1 → ItOk c.K H1 (Mt (lendS p.2 env1) σ) (Av A env1 σ) J p.1 → R J H1) (XW c A env σ H)
structure SndI (X : Cx) (W : WX) (tg iter : Expr) (src : Src) : Prop where
  run : PI X tg iter (tI (.ofX X W) src)
section
variable {K : PySem.W.Frag} {A : Addr → Prop} {env env1 : EV} {σ : St} {H H' H1 : Hp} {P B : Addr → Prop}
theorem lend_len : ∀ {ls : List Nat} {env : EV}, (lendS ls env).length = env.length
  | [], _ => rfl
  | i :: r, env => by
    unfold lendS
    rw [lend_len]
    split
    · rw [List.length_set]
    · rfl
/-- lending turns own lists into lent ones and nothing else -/
theorem lend_at : ∀ {ls : List Nat} {env : EV} {j : Nat}, (lendS ls env)[j]? = env[j]? ∨ ∃ ds, j ∈ ls ∧ env[j]? = some (some (SV.own ds)) ∧ (lendS ls env)[j]? = some (some (SV.lent ds))
  | [], _, _ => .inl rfl
  | i :: r, env, j => by
    unfold lendS
    split
    · rename_i ds h
      have hi := (List.getElem?_eq_some_iff.mp h).1
      rcases @lend_at r (env.set i (some (.lent ds))) j with e | ⟨es, m, e1, e2⟩
      · by_cases hj : i = j
        · subst hj
          rw [List.getElem?_set_self hi] at e
          exact .inr ⟨ds, List.mem_cons_self, h, e⟩
        · rw [List.getElem?_set_ne hj] at e
          exact .inl e
      · by_cases hj : i = j
        · subst hj
          rw [List.getElem?_set_self hi] at e1
          cases e1
        · rw [List.getElem?_set_ne hj] at e1
          exact .inr ⟨es, List.mem_cons_of_mem _ m, e1, e2⟩
    · rcases @lend_at r env j with e | ⟨es, m, e1, e2⟩
      · exact .inl e
      · exact .inr ⟨es, List.mem_cons_of_mem _ m, e1, e2⟩
theorem lend_hit : ∀ {ls : List Nat} {env : EV} {j : Nat} {ds : List PyData}, j ∈ ls → env[j]? = some (some (SV.own ds)) → (lendS ls env)[j]? = some (some (SV.lent ds))
  | [], _, _, _, h, _ => by cases h
  | i :: r, env, j, ds, h, e => by
    unfold lendS
    by_cases hj : i = j
    · subst hj
      rw [e]
      have hi := (List.getElem?_eq_some_iff.mp e).1
      show (lendS r (env.set i (some (.lent ds))))[i]? = _
      rcases @lend_at r (env.set i (some (.lent ds))) i with z | ⟨es, _, z, _⟩
      · rw [z, List.getElem?_set_self hi]
      · rw [List.getElem?_set_self hi] at z; cases z
    · have m : j ∈ r := by
        rcases List.mem_cons.mp h with z | z
        · exact absurd z.symm hj
        · exact z
      split
      · exact lend_hit m (by rw [List.getElem?_set_ne hj]; exact e)
      · exact lend_hit m e
/-- the slots after lending stand for the same -/
theorem Den.lend (D : Den K A env σ H) (ls : List Nat) : Den K A (lendS ls env) σ H ∧ (∀ a, AtS SV.isLs (lendS ls env) σ a ↔ AtS SV.isLs env σ a) ∧ (∀ a, Mt (lendS ls env) σ a → Mt env σ a) := by
  have back : ∀ {j : Nat} {s : SV}, (lendS ls env)[j]? = some (some s) → ∃ t, env[j]? = some (some t) ∧ (s = t ∨ ∃ ds, t = .own ds ∧ s = .lent ds) := fun {j s} h => by
    rcases @lend_at ls env j with e | ⟨ds, _, e1, e2⟩
    · rw [e] at h; exact ⟨s, h, .inl rfl⟩
    · rw [e2] at h; cases h; exact ⟨_, e1, .inr ⟨ds, rfl, rfl⟩⟩
  have fwd : ∀ {j : Nat} {t : SV}, env[j]? = some (some t) → ∃ s, (lendS ls env)[j]? = some (some s) ∧ (s = t ∨ ∃ ds, t = .own ds ∧ s = .lent ds) := fun {j t} h => by
    rcases @lend_at ls env j with e | ⟨ds, _, e1, e2⟩
    · exact ⟨t, by rw [e]; exact h, .inl rfl⟩
    · rw [h] at e1; cases e1; exact ⟨_, e2, .inr ⟨ds, rfl, rfl⟩⟩
  have ls' : ∀ a, AtS SV.isLs (lendS ls env) σ a ↔ AtS SV.isLs env σ a := fun a => by
    constructor
    · rintro ⟨j, s, h, l, z⟩
      obtain ⟨t, h2, rfl | ⟨ds, rfl, rfl⟩⟩ := back h
      · exact ⟨j, _, h2, l, z⟩
      · exact ⟨j, _, h2, rfl, z⟩
    · rintro ⟨j, s, h, l, z⟩
      obtain ⟨t, h2, rfl | ⟨ds, rfl, rfl⟩⟩ := fwd h
      · exact ⟨j, _, h2, l, z⟩
      · exact ⟨j, _, h2, rfl, z⟩
  have av : ∀ a, Av A (lendS ls env) σ a → Av A env σ a := fun a z => z.elim .inl fun z => .inr ((ls' a).mp z)
  refine ⟨⟨lend_len.trans D.len, fun i s h => ?_, fun i j s t a h1 h2 l1 l2 z1 z2 => ?_, D.amb, fun a ⟨j, s, h, z, y⟩ => ?_⟩, ls', fun a ⟨j, s, h, z, y⟩ => ?_⟩
  · obtain ⟨t, h2, rfl | ⟨ds, rfl, rfl⟩⟩ := back h
    · obtain ⟨v, hv, q⟩ := D.slot i _ h2
      exact ⟨v, hv, q.weak av⟩
    · obtain ⟨v, hv, q⟩ := D.slot i _ h2
      exact ⟨v, hv, SlotOk.weak (s := .lent ds) q av⟩
  · obtain ⟨s', e1, q1⟩ := back h1
    obtain ⟨t', e2, q2⟩ := back h2
    refine D.inj i j s' t' a e1 e2 ?_ ?_ z1 z2
    · rcases q1 with rfl | ⟨ds, rfl, _⟩
      · exact l1
      · rfl
    · rcases q2 with rfl | ⟨ds, rfl, _⟩
      · exact l2
      · rfl
  · obtain ⟨t, h2, rfl | ⟨ds, rfl, rfl⟩⟩ := back h
    · exact D.dis a ⟨j, _, h2, z, y⟩
    · cases z
  · obtain ⟨t, h2, rfl | ⟨ds, rfl, rfl⟩⟩ := back h
    · exact ⟨j, _, h2, z, y⟩
    · cases z
/-- an operand, walked -/
theorem RoS.walk (D : Den K A env σ H) {v : V} {o : Opd} {d : PyData} {ls ls' : List Nat} (r : RoS K H (Av A env σ) σ v o) (e : srcO env o = some (d, ls)) (hl : ∀ i ∈ ls, i ∈ ls') : Rw K H (Mt (lendS ls' env) σ) (Av A env σ) v d := by
  have ofRp : ∀ {d : PyData}, Rp K H (Av A env σ) v d → Rw K H (Mt (lendS ls' env) σ) (Av A env σ) v d := fun {d} r => by
    have mt := (D.lend ls').2.2
    cases r with
    | lst h n s => exact ⟨_, _, rfl, .inl ⟨h, fun z => n (mt _ z).av⟩, s⟩
    | non => exact .non
    | bl b => exact .bl b
    | int i => exact .int i
    | str x => exact .str x
    | tup q s => exact .tup q s
    | dct q => exact .dct q
  have out : ∀ {i : Nat} {s : SV} {ds : List PyData}, env[i]? = some (some s) → s.items = some ds → (∀ t, (lendS ls' env)[i]? = some (some t) → t.isMut = false) → σ[i]? = some (some v) →
      ∃ a xs, v = V.ref a ∧ ((H a = some (.lst xs) ∧ ¬ Mt (lendS ls' env) σ a) ∨ SqF K H a xs) ∧ Rps K H (Av A env σ) xs ds := fun {i s ds} h l nm hv => by
    obtain ⟨a, xs, hv', ha, q⟩ := D.list h l
    rw [hv] at hv'; cases hv'
    refine ⟨a, xs, rfl, .inl ⟨ha, fun ⟨j, t, h2, z, y⟩ => ?_⟩, q⟩
    have eq : i = j := by
      rcases @lend_at ls' env j with e | ⟨es, _, e1, e2⟩
      · rw [e] at h2
        exact D.inj i j s t a h h2 (by rw [SV.isLs, l]; rfl) (SV.ls_of_mut z) hv y
      · rw [e2] at h2; cases h2; cases z
    subst eq
    rw [nm t h2] at z; cases z
  cases o with
  | dat c => cases e; exact ofRp r
  | slot i =>
    have hv : σ[i]? = some (some v) := r
    simp only [srcO] at e
    split at e
    · rename_i c h
      cases e
      obtain ⟨u, hu, q⟩ := D.slot i _ h
      rw [hv] at hu; cases hu
      exact ofRp q
    · rename_i ds h
      cases e
      exact out h rfl (fun t ht => by rw [lend_hit (hl i (by simp)) h] at ht; cases ht; rfl) hv
    · rename_i ds h
      cases e
      refine out h rfl (fun t ht => ?_) hv
      rcases @lend_at ls' env i with e | ⟨es, _, e1, _⟩
      · rw [e, h] at ht; cases ht; rfl
      · rw [h] at e1; cases e1
    · rename_i ds h
      cases e
      obtain ⟨u, hu, a, xs, eu, hf, q⟩ := D.slot i _ h
      rw [hv] at hu; cases hu
      subst eu
      exact ⟨a, xs, rfl, .inr hf, q⟩
    · cases e
theorem Rw.list {v : V} {ds : List PyData} (r : Rw K H P B v (.list ds)) : ∃ a xs, v = .ref a ∧ Rps K H B xs ds ∧ ∀ H', Keep P H H' → SqL K H' a xs := by
  obtain ⟨a, xs, e, h, q⟩ := r
  refine ⟨a, xs, e, q, fun H' k => ?_⟩
  rcases h with ⟨h, n⟩ | h
  · exact .of (k.same _ _ h (.inl n))
  · exact (SqF.keep k h).sql
theorem Rw.tup {v : V} {ds : List PyData} (r : Rw K H P B v (.tuple ds)) : ∃ a xs, v = .ref a ∧ Rps K H B xs ds ∧ ∀ H', Keep P H H' → SqT K H' a xs := by
  cases r with
  | tup h q => exact ⟨_, _, rfl, q, fun H' k => SqT.keep k h⟩
theorem lt_get {α : Type} {l : List α} {i : Nat} (h : i < l.length) : ∃ x, l[i]? = some x := ⟨l[i], List.getElem?_eq_getElem h⟩
/-- a list, a tuple, walked -/
theorem ItOk.list {v : V} {ds : List PyData} (r : Rw K H1 P B v (.list ds)) (hP : ∀ a, P a → B a) : ∃ a, v = .ref a ∧ (∃ xs, SqL K H1 a xs) ∧ ItOk K H1 P B (Itl K a) ds := by
  obtain ⟨a, xs, e, q, h⟩ := r.list
  refine ⟨a, e, ⟨xs, h H1 .refl⟩, fun H k i => ⟨fun hi => ?_, fun hi => ⟨xs, h H k, by rw [q.length]; exact hi⟩⟩⟩
  obtain ⟨d, hd⟩ := lt_get hi
  obtain ⟨x, hx, rx⟩ := q.get hd
  refine ⟨⟨xs, x, h H k, hx⟩, fun x' H' y => ?_⟩
  obtain ⟨eH, hy⟩ := y
  subst eH
  have e2 := hy xs (h _ k)
  rw [hx] at e2; cases e2
  exact ⟨fun _ _ e => e, d, hd, fun B' hB => Rp.move k hP hB rx⟩
theorem ItOk.tup {v : V} {ds : List PyData} (r : Rw K H1 P B v (.tuple ds)) (hP : ∀ a, P a → B a) : ∃ a, v = .ref a ∧ (∃ xs, SqT K H1 a xs) ∧ ItOk K H1 P B (Itt K a) ds := by
  obtain ⟨a, xs, e, q, h⟩ := r.tup
  refine ⟨a, e, ⟨xs, h H1 .refl⟩, fun H k i => ⟨fun hi => ?_, fun hi => ⟨xs, h H k, by rw [q.length]; exact hi⟩⟩⟩
  obtain ⟨d, hd⟩ := lt_get hi
  obtain ⟨x, hx, rx⟩ := q.get hd
  refine ⟨⟨xs, x, h H k, hx⟩, fun x' H' y => ?_⟩
  obtain ⟨eH, hy⟩ := y
  subst eH
  have e2 := hy xs (h _ k)
  rw [hx] at e2; cases e2
  exact ⟨fun _ _ e => e, d, hd, fun B' hB => Rp.move k hP hB rx⟩
theorem ItOk.rng (lo : Int) (n : Nat) : ItOk K H1 P B (Itr lo n) ((List.range n).map fun i => PyData.int (lo + (i : Nat))) := fun H k i => by
  refine ⟨fun hi => ?_, fun hi => ?_⟩
  · rw [List.length_map, List.length_range] at hi
    refine ⟨hi, fun x H' y => ?_⟩
    obtain ⟨eH, ex⟩ := y
    subst eH ex
    refine ⟨fun _ _ e => e, .int (lo + (i : Nat)), ?_, fun _ _ => .int _⟩
    rw [List.getElem?_map, List.getElem?_range hi]; rfl
  · rw [List.length_map, List.length_range] at hi
    exact hi
end

/-! ### sources -/
def vSeq (s : Sm) : Src := fun env => (s.o env).bd fun o env1 => sure (srcO env1 o) fun p => match p.1 with
  | .list ds => .mk (ds, p.2) env1
  | .tuple ds => .mk (ds, p.2) env1
  | _ => none
def rngL (lo hi : Int) : List PyData := (List.range (hi - lo).toNat).map fun i => PyData.int (lo + (i : Nat))
def rngOk (i : Int) : Bool := decide (-(2 ^ 62) ≤ i ∧ i < 2 ^ 62)
def vRng1 (s : Sm) : Src := fun env => (evOs [s] env).bd fun os env1 => sure (rds false env1 os) fun ds => match ds with
  | [.int j] => if rngOk j = true then .mk (rngL 0 j, []) env1 else none
  | _ => none
def vRng2 (s t : Sm) : Src := fun env => (evOs [s, t] env).bd fun os env1 => sure (rds false env1 os) fun ds => match ds with
  | [.int i, .int j] => if (rngOk i && rngOk j) = true then .mk (rngL i j, []) env1 else none
  | _ => none
section
variable {X : Cx} {W : WX} {tg e a b : Expr} {s sa sb : Sm} {p pos : Pos}
/-- a list or a tuple -/
theorem pi_seq {tl : TE} (hl : PE X e tl) : PI X tg e (fun σ H R => tl σ H fun x H1 => ∃ a, x = .ref a ∧ (((∃ xs, SqL X.K H1 a xs) ∧ R (Itl X.K a) H1) ∨ ((∃ xs, SqT X.K H1 a xs) ∧ R (Itt X.K a) H1))) := by
  refine ⟨fun pins s σ H R I h => thn (hl.run pins s σ H _ I h) fun v s1 ⟨x, H1, I1, r1, a, ex, q⟩ => ?_⟩
  subst ex
  obtain rfl : v = Value.ref a := r1
  have fp : ∀ c ∈ [s1.heap.objs.size], FpOk X pins H1 c := fun c hc => by
    rw [List.mem_singleton] at hc
    subst hc
    exact I1.fpOk (Nat.le_refl _) (I1.hok.fresh (Nat.le_refl _))
  rcases q with ⟨⟨xs, hq⟩, q⟩ | ⟨⟨xs, hq⟩, q⟩
  · obtain ⟨its, _, pl, _⟩ := I1.list hq
    exact wpAny_pyIter_list pl.isList ⟨_, _, _, _, H1, rfl, I1.kept (t' := s1.toks) fun c o z => Heap.get?_push_of_some _ z, turn_list a _, ⟨_, Heap.get?_push_size _ rfl, rfl, rfl⟩, fp, q⟩
  · obtain ⟨its, _, pl, _⟩ := I1.tuple hq
    exact wpAny_pyIter_tuple (show s1.heap.IsTuple a its.toArray from pl) ⟨_, _, _, _, H1, rfl, I1.kept (t' := s1.toks) fun c o z => Heap.get?_push_of_some _ z, turn_tuple a _, ⟨_, Heap.get?_push_size _ rfl, rfl, rfl⟩, fp, q⟩
theorem PI.imp {X : Cx} {tg e : Expr} {t t' : TI} (h : PI X tg e t) (i : ∀ σ H R, t' σ H R → t σ H R) : PI X tg e t' := ⟨fun p s σ H R I q => h.run p s σ H R I (i σ H R q)⟩
theorem sndI_seq (he : Snd X W e s) : SndI X W tg e (vSeq s) := ⟨PI.imp (pi_seq he.o) fun σ H R q => by
  obtain ⟨A, env, D, q⟩ := q
  simp only [vSeq, wp_bd] at q
  refine ⟨A, env, D, q.imp (fun o env1 q v H1 P r => ?_) fun _ _ z => z⟩
  obtain ⟨⟨d, ls⟩, e1, q⟩ := wp_sure q
  have w := r.walk P.den e1 (ls' := ls) fun i h => h
  have hP : ∀ z, Mt (lendS ls env1) σ z → Av A env1 σ z := fun z y => ((P.den.lend ls).2.2 z y).av
  cases d with
  | list ds =>
    obtain ⟨c, ev, hx, ok⟩ := ItOk.list w hP
    exact ⟨c, ev, .inl ⟨hx, q _ H1 P ok⟩⟩
  | tuple ds =>
    obtain ⟨c, ev, hx, ok⟩ := ItOk.tup w hP
    exact ⟨c, ev, .inr ⟨hx, q _ H1 P ok⟩⟩
  | _ => exact q.elim⟩
theorem starEach_1 (h : noStar a = true) (env : Env) : starEach [a] env = [(false, eval a env)] := starEach_no h [] env
theorem sndI_rng1 (hg : Gl X "range") (hm : X.mg "range" = none) (n : noStar a = true) (ha : Snd X W a sa) : SndI X W tg (.Call (.Name "range" p) [a] [] pos) (vRng1 sa) :=
  ⟨PI.imp (pi_range1 hg hm (SndL.cons n ha .nil).pa (starEach_1 n _)) fun σ H R q => by
    obtain ⟨A, env, D, q⟩ := q
    simp only [vRng1, wp_bd] at q
    refine ⟨A, env, D, q.imp (fun os env1 q vs H1 P r => ?_) fun _ _ z => z⟩
    obtain ⟨ds, e1, q⟩ := wp_sure q
    have rr := r.read P.den e1
    split at q
    · rename_i j
      split at q
      · rename_i hj
        have hj : -(2 ^ 62) ≤ j ∧ j < 2 ^ 62 := of_decide_eq_true hj
        obtain ⟨x, ex, rx⟩ := rr.one
        refine ⟨j, by rw [ex, rx.int], hj.1, hj.2, q _ H1 P ?_⟩
        have := ItOk.rng (K := X.K) (H1 := H1) (P := Mt (lendS [] env1) σ) (B := Av A env1 σ) 0 j.toNat
        unfold rngL
        rw [Int.sub_zero]
        exact this
      · exact q.elim
    · exact q.elim⟩
theorem sndI_rng2 (hg : Gl X "range") (hm : X.mg "range" = none) (n : noStar a = true) (n2 : noStar b = true) (ha : Snd X W a sa) (hb : Snd X W b sb) : SndI X W tg (.Call (.Name "range" p) [a, b] [] pos) (vRng2 sa sb) :=
  ⟨PI.imp (pi_range2 hg hm (SndL.cons n ha (.cons n2 hb .nil)).pa (by rw [starEach_no n, starEach_1 n2]) (starEach_1 n2 _)) fun σ H R q => by
    obtain ⟨A, env, D, q⟩ := q
    simp only [vRng2, wp_bd] at q
    refine ⟨A, env, D, q.imp (fun os env1 q vs H1 P r => ?_) fun _ _ z => z⟩
    obtain ⟨ds, e1, q⟩ := wp_sure q
    have rr := r.read P.den e1
    split at q
    · rename_i i j
      split at q
      · rename_i hj
        rw [Bool.and_eq_true] at hj
        have h1 : -(2 ^ 62) ≤ i ∧ i < 2 ^ 62 := of_decide_eq_true hj.1
        have h2 : -(2 ^ 62) ≤ j ∧ j < 2 ^ 62 := of_decide_eq_true hj.2
        obtain ⟨x, y, ex, rx, ry⟩ := rr.two
        exact ⟨i, j, by rw [ex, rx.int, ry.int], ⟨h1.1, h1.2, h2.1, h2.2⟩, q _ H1 P (ItOk.rng i _)⟩
      · exact q.elim
    · exact q.elim⟩
end
end Tw
end STwJ

section STwK
/-! Part K: targets. -/
namespace Tw
open PySem PySem.Spec PyProof.Rows L2

mutual
inductive Tg where
  | name (i : Nat)
  | tup (ts : Tgs)
inductive Tgs where
  | nil
  | cons (t : Tg) (ts : Tgs)
end
mutual
def Tg.slots : Tg → List Nat
  | .name i => [i]
  | .tup ts => ts.slots
def Tgs.slots : Tgs → List Nat
  | .nil => []
  | .cons t ts => t.slots ++ ts.slots
end
def Tgs.length : Tgs → Nat
  | .nil => 0
  | .cons _ ts => ts.length + 1
/-- a slot that may be stored: there, and not a caller's list -/
def storable (env : EV) (i : Nat) : Bool := match env[i]? with
  | some (some (.io _)) => false
  | some _ => true
  | none => false
def putS (env : EV) (i : Nat) (s : SV) : Option EV := if storable env i = true then some (env.set i (some s)) else none
mutual
def asgT : Tg → PyData → EV → Option EV
  | .name i, d, env => putS env i (.frz d)
  | .tup ts, .tuple ds, env => asgTs ts ds env
  | .tup _, _, _ => none
def asgTs : Tgs → List PyData → EV → Option EV
  | .nil, [], env => some env
  | .cons t ts, d :: ds, env => (asgT t d env).bind fun env1 => asgTs ts ds env1
  | _, _, _ => none
end
theorem asgTs_len : ∀ {ts : Tgs} {ds : List PyData} {env env' : EV}, asgTs ts ds env = some env' → ds.length = ts.length
  | .nil, [], _, _, _ => rfl
  | .nil, _ :: _, _, _, h => by simp [asgTs] at h
  | .cons _ _, [], _, _, h => by simp [asgTs] at h
  | .cons t ts, d :: ds, env, env', h => by
    simp only [asgTs] at h
    obtain ⟨e1, _, h2⟩ := Option.bind_eq_some_iff.mp h
    show ds.length + 1 = ts.length + 1
    rw [asgTs_len h2]
/-- behind a store of data into these slots -/
structure TgPost (K : PySem.W.Frag) (A : Addr → Prop) (is : List Nat) (env : EV) (σ : St) (H : Hp) (env' : EV) (σ' : St) : Prop where
  den : Den K A env' σ' H
  out : ∀ i : Nat, i ∉ is → env'[i]? = env[i]? ∧ σ'[i]? = σ[i]?
  ins : ∀ i ∈ is, ∃ d, env'[i]? = some (some (SV.frz d))
  noio : ∀ i ∈ is, ∀ ds, env[i]? ≠ some (some (SV.io ds))
section
variable {K : PySem.W.Frag} {A : Addr → Prop} {env env1 env2 : EV} {σ σ1 σ2 : St} {H : Hp} {is js : List Nat}
theorem TgPost.av (P : TgPost K A is env σ H env1 σ1) {a : Addr} (h : Av A env1 σ1 a) : Av A env σ a := h.elim .inl fun ⟨i, s, e, l, z⟩ => by
  by_cases hi : i ∈ is
  · obtain ⟨d, e'⟩ := P.ins i hi
    rw [e'] at e; cases e; cases l
  · obtain ⟨e1, e2⟩ := P.out i hi
    exact .inr ⟨i, s, by rw [← e1]; exact e, l, by rw [← e2]; exact z⟩
theorem TgPost.mt (P : TgPost K A is env σ H env1 σ1) {a : Addr} (h : Mt env1 σ1 a) : Mt env σ a := by
  obtain ⟨i, s, e, l, z⟩ := h
  by_cases hi : i ∈ is
  · obtain ⟨d, e'⟩ := P.ins i hi
    rw [e'] at e; cases e; cases l
  · obtain ⟨e1, e2⟩ := P.out i hi
    exact ⟨i, s, by rw [← e1]; exact e, l, by rw [← e2]; exact z⟩
theorem TgPost.refl (D : Den K A env σ H) : TgPost K A [] env σ H env σ := ⟨D, fun _ _ => ⟨rfl, rfl⟩, fun _ h => (nomatch h), fun _ h => (nomatch h)⟩
theorem TgPost.trans (P : TgPost K A is env σ H env1 σ1) (Q : TgPost K A js env1 σ1 H env2 σ2) : TgPost K A (is ++ js) env σ H env2 σ2 := by
  refine ⟨Q.den, fun i h => ?_, fun i h => ?_, fun i h ds e => ?_⟩
  · rw [List.mem_append, not_or] at h
    obtain ⟨a, b⟩ := P.out i h.1
    obtain ⟨c, d⟩ := Q.out i h.2
    exact ⟨c.trans a, d.trans b⟩
  · by_cases hj : i ∈ js
    · exact Q.ins i hj
    · rcases List.mem_append.mp h with h | h
      · obtain ⟨d, e⟩ := P.ins i h
        exact ⟨d, by rw [(Q.out i hj).1]; exact e⟩
      · exact absurd h hj
  · by_cases hi : i ∈ is
    · exact P.noio i hi ds e
    · rcases List.mem_append.mp h with h | h
      · exact hi h
      · exact Q.noio i h ds (by rw [(P.out i hi).1]; exact e)
/-- a slot is stored -/
theorem Den.put {i : Nat} {d : PyData} {v : V} (D : Den K A env σ H) (r : Rp K H (Av A env σ) v d) (h : putS env i (.frz d) = some env1) : TgPost K A [i] env σ H env1 (σ.set i (some v)) := by
  unfold putS at h
  split at h
  · rename_i hs
    cases h
    have hi : i < env.length := by
      unfold storable at hs
      split at hs
      · cases hs
      · rename_i e; exact (List.getElem?_eq_some_iff.mp e).1
      · cases hs
    have hi' : i < σ.length := by rw [← D.len]; exact hi
    have out : ∀ j : Nat, j ∉ [i] → (env.set i (some (SV.frz d)))[j]? = env[j]? ∧ (σ.set i (some v))[j]? = σ[j]? := fun j hj => by
      have n : i ≠ j := fun e => hj (by rw [e]; exact List.mem_singleton.mpr rfl)
      exact ⟨List.getElem?_set_ne n, List.getElem?_set_ne n⟩
    have av : ∀ a, Av A (env.set i (some (SV.frz d))) (σ.set i (some v)) a → Av A env σ a := fun a h => h.elim .inl fun ⟨j, s, e, l, z⟩ => by
      by_cases hj : j = i
      · subst hj
        rw [List.getElem?_set_self hi] at e; cases e; cases l
      · obtain ⟨e1, e2⟩ := out j (by simpa using hj)
        exact .inr ⟨j, s, by rw [← e1]; exact e, l, by rw [← e2]; exact z⟩
    refine ⟨⟨by rw [List.length_set, List.length_set]; exact D.len, fun j s e => ?_, fun j k s t a e1 e2 l1 l2 z1 z2 => ?_, D.amb, fun a ⟨j, s, e, l, z⟩ => ?_⟩, out, fun j hj => ?_, fun j hj ds e => ?_⟩
    · by_cases hj : j = i
      · subst hj
        rw [List.getElem?_set_self hi] at e; cases e
        exact ⟨v, List.getElem?_set_self hi', Rp.weak r av⟩
      · obtain ⟨e1, e2⟩ := out j (by simpa using hj)
        rw [e1] at e
        obtain ⟨u, hu, q⟩ := D.slot j s e
        exact ⟨u, by rw [e2]; exact hu, q.weak av⟩
    · have hj : j ≠ i := fun q => by
        subst q
        rw [List.getElem?_set_self hi] at e1; cases e1; cases l1
      have hk : k ≠ i := fun q => by
        subst q
        rw [List.getElem?_set_self hi] at e2; cases e2; cases l2
      obtain ⟨a1, b1⟩ := out j (by simpa using hj)
      obtain ⟨a2, b2⟩ := out k (by simpa using hk)
      exact D.inj j k s t a (by rw [← a1]; exact e1) (by rw [← a2]; exact e2) l1 l2 (by rw [← b1]; exact z1) (by rw [← b2]; exact z2)
    · by_cases hj : j = i
      · subst hj
        rw [List.getElem?_set_self hi] at e; cases e; cases l
      · obtain ⟨e1, e2⟩ := out j (by simpa using hj)
        exact D.dis a ⟨j, s, by rw [← e1]; exact e, l, by rw [← e2]; exact z⟩
    · rw [List.mem_singleton] at hj
      subst hj
      exact ⟨d, List.getElem?_set_self hi⟩
    · rw [List.mem_singleton] at hj
      subst hj
      unfold storable at hs
      rw [e] at hs
      cases hs
  · cases h
end
def gT (K : PySem.W.Frag) (t : Tg) : TG := fun v σ H Q => ∃ A env d env', Den K A env σ H ∧ Rp K H (Av A env σ) v d ∧ asgT t d env = some env' ∧ ∀ σ', TgPost K A t.slots env σ H env' σ' → Q σ' H
def gTs (K : PySem.W.Frag) (t : Tgs) : TGs := fun vs σ H Q => ∃ A env ds env', Den K A env σ H ∧ Rps K H (Av A env σ) vs ds ∧ asgTs t ds env = some env' ∧ ∀ σ', TgPost K A t.slots env σ H env' σ' → Q σ' H
/-! how a target is written -/
mutual
inductive SndT (X : Cx) : Expr → Tg → Prop
  | name {x : Str} {p : Pos} {i : Nat} : X.N[i]? = some x → Loc X.env.scope x → (X.fn x = true ∨ X.env.scope.names.lookup x = some .local) → SndT X (.Name x p) (.name i)
  | tup {es : List Expr} {k : Nat} {p : Pos} {ts : Tgs} : SndTs X es ts → SndT X (.Tuple es k p) (.tup ts)
inductive SndTs (X : Cx) : List Expr → Tgs → Prop
  | nil : SndTs X [] .nil
  | cons {e : Expr} {es : List Expr} {t : Tg} {ts : Tgs} : SndT X e t → SndTs X es ts → SndTs X (e :: es) (.cons t ts)
end
section
variable {X : Cx}
theorem PG.imp {e : Expr} {t t' : TG} (h : PG X e t) (i : ∀ v σ H Q, t' v σ H Q → t v σ H Q) : PG X e t' := ⟨fun p s σ H v u Q I r q => h.run p s σ H v u Q I r (i v σ H Q q)⟩
theorem PGs.imp {e : List Expr} {t t' : TGs} (h : PGs X e t) (i : ∀ v σ H Q, t' v σ H Q → t v σ H Q) : PGs X e t' := ⟨fun p s σ H v u Q I r q => h.run p s σ H v u Q I r (i v σ H Q q)⟩
theorem SndTs.each : ∀ {es : List Expr} {ts : Tgs}, SndTs X es ts → (assignEach es X.env).length = ts.length ∧ (assignEach es X.env).findIdx? (·.1) = none
  | _, _, .nil => ⟨rfl, rfl⟩
  | _, _, .cons (es := es) h t => by
    obtain ⟨h1, h2⟩ := SndTs.each t
    have one : ∀ (e : Expr) (tg : Tg), SndT X e tg → ∃ w, assignEach (e :: es) X.env = (false, w) :: assignEach es X.env := fun e tg h => by
      cases h with
      | name _ _ _ => exact ⟨_, rfl⟩
      | tup _ => exact ⟨_, rfl⟩
    obtain ⟨w, hw⟩ := one _ _ h
    rw [hw]
    refine ⟨by rw [List.length_cons, h1]; rfl, ?_⟩
    rw [List.findIdx?_cons]
    simp [h2]
mutual
theorem SndT.pg (hc : X.calm = true) (hN : X.N.Nodup) : ∀ {e : Expr} {t : Tg}, SndT X e t → PG X e (gT X.K t)
  | _, _, .name (i := i) h1 h2 h3 => PG.imp (pg_name hN h1 h2 h3) fun v σ H Q q => by
    obtain ⟨A, env, d, env', D, r, e, q⟩ := q
    exact q _ (D.put r e)
  | _, _, .tup (ts := ts) h => by
    obtain ⟨h1, h2⟩ := h.each
    refine PG.imp (pg_tup hc (SndTs.pgs hc hN h) h1 h2) fun v σ H Q q => ?_
    obtain ⟨A, env, d, env', D, r, e, q⟩ := q
    cases d with
    | tuple ds =>
      cases r with
      | tup hs rs =>
        have e : asgTs ts ds env = some env' := e
        exact ⟨_, _, rfl, hs, by rw [rs.length, asgTs_len e], A, env, ds, env', D, rs, e, q⟩
    | _ => simp [asgT] at e
theorem SndTs.pgs (hc : X.calm = true) (hN : X.N.Nodup) : ∀ {es : List Expr} {ts : Tgs}, SndTs X es ts → PGs X es (gTs X.K ts)
  | _, _, .nil => PGs.imp pgs_nil fun vs σ H Q q => by
    obtain ⟨A, env, ds, env', D, r, e, q⟩ := q
    cases ds with
    | nil => cases r; cases e; exact ⟨rfl, q σ (.refl D)⟩
    | cons d ds => simp [asgTs] at e
  | _, _, .cons (e := e) (es := es) (t := t) (ts := ts) h g => by
    have hs : (assignEach (e :: es) X.env).map (·.2) = assign e X.env :: (assignEach es X.env).map (·.2) := by
      cases h with
      | name _ _ _ => rfl
      | tup _ => rfl
    refine PGs.imp (pgs_cons (SndT.pg hc hN h) (SndTs.pgs hc hN g) hs) fun vs σ H Q q => ?_
    obtain ⟨A, env, ds, env', D, r, e, q⟩ := q
    cases ds with
    | nil => simp [asgTs] at e
    | cons d ds =>
      simp only [asgTs] at e
      obtain ⟨env1, e1, e2⟩ := Option.bind_eq_some_iff.mp e
      cases r with
      | cons r rs => exact ⟨_, _, rfl, A, env, d, env1, D, r, e1, fun σ1 P => ⟨A, env1, ds, env', P.den, rs.weak fun a z => P.av z, e2, fun σ2 P2 => q σ2 (P.trans P2)⟩⟩
end
end
end Tw
end STwK

section STwL
/-! Part L: list comprehensions. -/
namespace Tw
open PySem PySem.Spec PyProof.Rows L2

/-- the slots of a block's own names, forgotten -/
def wipeS : List Nat → EV → EV
  | [], env => env
  | v :: vs, env => (wipeS vs env).set v none
def noLs : List Nat → EV → Bool
  | [], _ => true
  | v :: vs, env => (match env[v]? with
    | some (some s) => !s.isLs
    | _ => true) && noLs vs env
def mergeS : Option SV → Option SV → Option SV
  | some (.own _), some (.lent ds) => some (.own ds)
  | _, b => b
/-- behind a block: the hidden slots, what was lent -/
def restS (vs : List Nat) : Nat → EV → EV → EV
  | k, a :: as, b :: bs => (if vs.contains k = true then a else mergeS a b) :: restS vs (k + 1) as bs
  | _, _, bs => bs
def noEr {α : Type} : Res α → Res α
  | some (.ok a env) => some (.ok a env)
  | _ => none
theorem wp_noEr {α : Type} {r : Res α} {k : α → EV → Prop} {w : Ex → EV → Prop} (h : wp (noEr r) k w) : wp r k fun _ _ => False := by
  cases r with
  | none => exact h
  | some o =>
    cases o with
    | ok a env => exact h
    | er x env => exact h
def tstR : Option Sm → EV → Res Bool
  | none => fun env => .mk true env
  | some s => s.t
def lcGo (vs : List Nat) (tg : Tg) (tt : EV → Res Bool) (te : EV → Res SV) : List PyData → List PyData → EV → Res (List PyData)
  | [], acc, env => .mk acc env
  | d :: r, acc, env => sure (asgT tg d env) fun env1 => (noEr (tt env1)).bd fun b env2 => if b = true then (noEr (te env2)).bd fun s env3 => sure s.freeze fun y => lcGo vs tg tt te r (acc ++ [y]) (wipeS vs env3)
    else lcGo vs tg tt te r acc (wipeS vs env2)
def vLc (vs : List Nat) (src : Src) (tg : Tg) (o : Option Sm) (e : Sm) (env : EV) : Res SV := (src env).bd fun p env1 =>
  if (decide (p.1.length ≤ sizeLine) && noLs vs env1) = true then (lcGo vs tg (tstR o) e.v p.1 [] (wipeS vs (lendS p.2 env1))).bd fun acc env2 => .mk (.own acc) (restS vs 0 env1 env2) else none

theorem wipeS_len {env : EV} : ∀ {vs : List Nat}, (wipeS vs env).length = env.length
  | [] => rfl
  | v :: vs => by unfold wipeS; rw [List.length_set, wipeS_len]
theorem wipeS_out {env : EV} {i : Nat} : ∀ {vs : List Nat}, i ∉ vs → (wipeS vs env)[i]? = env[i]?
  | [], _ => rfl
  | v :: vs, h => by
    have h1 : v ≠ i := fun e => h (by rw [e]; exact List.mem_cons_self)
    have h2 : i ∉ vs := fun m => h (List.mem_cons_of_mem _ m)
    unfold wipeS
    rw [List.getElem?_set_ne h1]
    exact wipeS_out h2
theorem wipeS_in {env : EV} {i : Nat} {s : SV} : ∀ {vs : List Nat}, (wipeS vs env)[i]? = some (some s) → i ∉ vs
  | [], _ => by simp
  | v :: vs, h => by
    unfold wipeS at h
    rcases getElem?_set_some h with ⟨_, z⟩ | ⟨n, z⟩
    · cases z
    · have := wipeS_in z
      simp only [List.mem_cons, not_or]
      exact ⟨n, this⟩
theorem wipe_in {σ : St} {i : Nat} {v : V} : ∀ {vs : List Nat}, i < σ.length → i ∈ vs → (wipe σ vs)[i]? = some none
  | v :: vs, hl, h => by
    unfold wipe
    by_cases e : v = i
    · subst e
      rw [List.getElem?_set_self (by rw [wipe_length]; exact hl)]
    · rw [List.getElem?_set_ne e]
      refine wipe_in (v := .non) hl ?_
      rcases List.mem_cons.mp h with z | z
      · exact absurd z.symm e
      · exact z
theorem noLs_at : ∀ {vs : List Nat} {env : EV} {i : Nat} {s : SV}, noLs vs env = true → i ∈ vs → env[i]? = some (some s) → s.isLs = false
  | v :: vs, env, i, s, h, m, e => by
    unfold noLs at h
    rw [Bool.and_eq_true] at h
    rcases List.mem_cons.mp m with z | z
    · subst z
      have h := h.1
      rw [e] at h
      simpa using h
    · exact noLs_at h.2 z e
/-- equal outside, wiped inside -/
theorem wipe_eq {σ σ' : St} {vs : List Nat} (hl : σ'.length = σ.length) (h : ∀ i, i ∉ vs → σ'[i]? = (wipe σ vs)[i]?) : wipe σ' vs = wipe σ vs := by
  refine List.ext_getElem? fun i => ?_
  by_cases hi : i ∈ vs
  · by_cases hs : i < σ.length
    · rw [wipe_in (v := .non) hs hi, wipe_in (v := .non) (by rw [hl]; exact hs) hi]
    · rw [List.getElem?_eq_none (by rw [wipe_length]; omega), List.getElem?_eq_none (by rw [wipe_length]; omega)]
  · rw [wipe_out hi, h i hi]
mutual
theorem asgT_len : ∀ {t : Tg} {d : PyData} {env env' : EV}, asgT t d env = some env' → env'.length = env.length
  | .name i, d, env, env', h => by
    unfold asgT putS at h
    split at h
    · cases h; exact List.length_set
    · cases h
  | .tup ts, .tuple ds, env, env', h => asgTs_len2 (ts := ts) (ds := ds) (by simpa only [asgT] using h)
  | .tup ts, .none, env, env', h => by simp [asgT] at h
  | .tup ts, .bool _, env, env', h => by simp [asgT] at h
  | .tup ts, .int _, env, env', h => by simp [asgT] at h
  | .tup ts, .str _, env, env', h => by simp [asgT] at h
  | .tup ts, .list _, env, env', h => by simp [asgT] at h
  | .tup ts, .dict _, env, env', h => by simp [asgT] at h
theorem asgTs_len2 : ∀ {ts : Tgs} {ds : List PyData} {env env' : EV}, asgTs ts ds env = some env' → env'.length = env.length
  | .nil, [], env, env', h => by cases h; rfl
  | .nil, _ :: _, _, _, h => by simp [asgTs] at h
  | .cons _ _, [], _, _, h => by simp [asgTs] at h
  | .cons t ts, d :: ds, env, env', h => by
    simp only [asgTs] at h
    obtain ⟨e1, h1, h2⟩ := Option.bind_eq_some_iff.mp h
    exact (asgTs_len2 h2).trans (asgT_len h1)
end
section
variable {K : PySem.W.Frag} {A : Addr → Prop} {env env1 : EV} {σ : St} {H H1 : Hp} {vs ls : List Nat}
theorem AtS.unwipe {p : SV → Bool} {a : Addr} (h : AtS p (wipeS vs env) (wipe σ vs) a) : AtS p env σ a := by
  obtain ⟨i, s, e, l, z⟩ := h
  have hi := wipeS_in e
  exact ⟨i, s, by rw [← wipeS_out hi]; exact e, l, by rw [← wipe_out hi]; exact z⟩
theorem Av.unwipe {a : Addr} (h : Av A (wipeS vs env) (wipe σ vs) a) : Av A env σ a := h.elim .inl fun z => .inr z.unwipe
theorem Den.wipe (D : Den K A env σ H) (vs : List Nat) : Den K A (wipeS vs env) (wipe σ vs) H := by
  refine ⟨by rw [wipeS_len, wipe_length]; exact D.len, fun i s e => ?_, fun i j s t a e1 e2 l1 l2 z1 z2 => ?_, D.amb, fun a z => D.dis a z.unwipe⟩
  · have hi := wipeS_in e
    rw [wipeS_out hi] at e
    obtain ⟨v, hv, q⟩ := D.slot i s e
    exact ⟨v, by rw [wipe_out hi]; exact hv, q.weak fun a z => z.unwipe⟩
  · have hi := wipeS_in e1
    have hj := wipeS_in e2
    rw [wipeS_out hi] at e1
    rw [wipeS_out hj] at e2
    rw [wipe_out hi] at z1
    rw [wipe_out hj] at z2
    exact D.inj i j s t a e1 e2 l1 l2 z1 z2
/-- a change of a list that no slot holds -/
theorem Den.set1 {p : Addr} {xs ys : List V} (D : Den K A env σ H) (hp : A p) (h : H p = some (.lst xs)) (n : ¬ AtS SV.isLs env σ p) : Den K A env σ (L2.upd H p (.lst ys)) := by
  have k : Keep (fun a => a = p) H (L2.upd H p (.lst ys)) := .setLst rfl h
  refine ⟨D.len, fun i s e => ?_, D.inj, fun a q => ?_, D.dis⟩
  · obtain ⟨v, hv, q⟩ := D.slot i s e
    exact ⟨v, hv, SlotOk.move k (fun a z => by rw [z]; exact .inl hp) (fun a z => .inl z) (fun l a e2 z => n (by rw [← z]; exact ⟨i, s, e, l, by rw [hv, e2]⟩)) q⟩
  · obtain ⟨zs, e⟩ := D.amb a q
    exact k.lst a zs e
theorem restS_at : ∀ {k : Nat} {env1 env : EV} {j : Nat}, env1.length = env.length → (restS vs k env1 env)[j]? = if vs.contains (k + j) = true then env1[j]? else match env1[j]?, env[j]? with
      | some a, some b => some (mergeS a b)
      | _, b => b
  | k, [], [], j, _ => by simp [restS]
  | k, a :: as, b :: bs, 0, h => by
    simp only [restS, List.getElem?_cons_zero, Nat.add_zero]
    split <;> rfl
  | k, a :: as, b :: bs, j + 1, h => by
    simp only [restS, List.getElem?_cons_succ]
    rw [restS_at (k := k + 1) (by simpa using h)]
    rw [show k + 1 + j = k + (j + 1) by omega]
theorem restS_len : ∀ {k : Nat} {env1 env : EV}, env1.length = env.length → (restS vs k env1 env).length = env.length
  | k, [], [], _ => rfl
  | k, a :: as, b :: bs, h => by
    simp only [restS, List.length_cons]
    rw [restS_len (by simpa using h)]
/-- what stands in a slot behind a block -/
theorem restS_back {j : Nat} {s : SV} (hl : env1.length = env.length) (h : (restS vs 0 env1 env)[j]? = some (some s)) :
    (j ∈ vs ∧ env1[j]? = some (some s)) ∨ (j ∉ vs ∧ env[j]? = some (some s)) ∨ (j ∉ vs ∧ ∃ ds es, s = .own ds ∧ env1[j]? = some (some (.own es)) ∧ env[j]? = some (some (.lent ds))) := by
  rw [restS_at hl, Nat.zero_add] at h
  split at h
  · rename_i hc
    exact .inl ⟨by simpa using hc, h⟩
  · rename_i hc
    have hc : j ∉ vs := by simpa using hc
    split at h
    · rename_i a b h1 h2
      rw [Option.some.injEq] at h
      unfold mergeS at h
      split at h
      · rename_i es ds
        cases h
        exact .inr (.inr ⟨hc, ds, es, rfl, h1, h2⟩)
      · subst h
        exact .inr (.inl ⟨hc, h2⟩)
    · exact .inr (.inl ⟨hc, h⟩)
/-- the slots behind a block -/
theorem blk_back {D : Addr} (D1 : Den K A env1 σ H1) (hD : H1 D = none) (hvs : noLs vs env1 = true) (Dn : Den K (fun a => A a ∨ a = D) env (wipe σ vs) H) (sub : Sub env (wipeS vs (lendS ls env1))) (k : Keep (Mt (wipeS vs (lendS ls env1)) (wipe σ vs)) H1 H) :
    Den K (fun a => A a ∨ a = D) (restS vs 0 env1 env) σ H ∧ Post K A env1 σ H1 (restS vs 0 env1 env) H ∧ (∀ a, Av A (restS vs 0 env1 env) σ a → Av (fun _ => False) env (wipe σ vs) a ∨ A a) ∧ ¬ Av A env1 σ D := by
  have nD := D1.fresh hD
  have hl : env1.length = env.length := by rw [sub.len, wipeS_len, lend_len]
  have L := D1.lend ls
  have at1 : ∀ a, AtS SV.isLs (restS vs 0 env1 env) σ a → AtS SV.isLs env (wipe σ vs) a := fun a ⟨j, s, e, l, z⟩ => by
    rcases restS_back hl e with ⟨m, h⟩ | ⟨m, h⟩ | ⟨m, ds, es, rfl, h1, h2⟩
    · rw [noLs_at hvs m h] at l; cases l
    · exact ⟨j, s, h, l, by rw [wipe_out m]; exact z⟩
    · exact ⟨j, _, h2, rfl, by rw [wipe_out m]; exact z⟩
  have at2 : ∀ a, AtS SV.isLs env (wipe σ vs) a → AtS SV.isLs env1 σ a := fun a z => (L.2.1 a).mp (sub.ls z).unwipe
  have mt2 : ∀ a, Mt (wipeS vs (lendS ls env1)) (wipe σ vs) a → Mt env1 σ a := fun a z => L.2.2 a z.unwipe
  have kp : Keep (Mt env1 σ) H1 H := k.mono mt2
  have av : ∀ a, Av (fun a => A a ∨ a = D) (restS vs 0 env1 env) σ a → Av (fun a => A a ∨ a = D) env (wipe σ vs) a := fun a z => z.elim .inl fun z => .inr (at1 a z)
  have av1 : ∀ a, Av (fun a => A a ∨ a = D) (restS vs 0 env1 env) σ a → Av A env1 σ a ∨ H1 a = none := fun a z => by
    rcases z with (z | z) | z
    · exact .inl (.inl z)
    · exact .inr (by rw [z]; exact hD)
    · exact .inl (.inr (at2 a (at1 a z)))
  have den : Den K (fun a => A a ∨ a = D) (restS vs 0 env1 env) σ H := by
    refine ⟨by rw [restS_len hl, ← hl]; exact D1.len, fun j s e => ?_, fun i j s t a e1 e2 l1 l2 z1 z2 => ?_, Dn.amb, fun a ⟨j, s, e, l, z⟩ q => ?_⟩
    · rcases restS_back hl e with ⟨m, h⟩ | ⟨m, h⟩ | ⟨m, ds, es, rfl, h1, h2⟩
      · obtain ⟨v, hv, q⟩ := D1.slot j s h
        refine ⟨v, hv, SlotOk.move kp (fun a z => z.av) av1 (fun l => ?_) q⟩
        rw [noLs_at hvs m h] at l; cases l
      · obtain ⟨v, hv, q⟩ := Dn.slot j s h
        rw [wipe_out m] at hv
        exact ⟨v, hv, q.weak av⟩
      · obtain ⟨v, hv, q⟩ := Dn.slot j _ h2
        rw [wipe_out m] at hv
        exact ⟨v, hv, SlotOk.weak (s := .own ds) q av⟩
    · have key : ∀ {i : Nat} {s : SV}, (restS vs 0 env1 env)[i]? = some (some s) → s.isLs = true → i ∉ vs ∧ ∃ s', env[i]? = some (some s') ∧ s'.isLs = true := fun {i s} e l => by
        rcases restS_back hl e with ⟨m, h⟩ | ⟨m, h⟩ | ⟨m, ds, es, rfl, h1, h2⟩
        · rw [noLs_at hvs m h] at l; cases l
        · exact ⟨m, s, h, l⟩
        · exact ⟨m, _, h2, rfl⟩
      obtain ⟨m1, s', x1, y1⟩ := key e1 l1
      obtain ⟨m2, t', x2, y2⟩ := key e2 l2
      exact Dn.inj i j s' t' a x1 x2 y1 y2 (by rw [wipe_out m1]; exact z1) (by rw [wipe_out m2]; exact z2)
    · have hls : AtS SV.isLs env1 σ a := at2 a (at1 a ⟨j, s, e, SV.ls_of_mut (SV.mut_of_own l), z⟩)
      rcases q with q | q
      · rcases restS_back hl e with ⟨m, h⟩ | ⟨m, h⟩ | ⟨m, ds, es, rfl, h1, h2⟩
        · exact D1.dis a ⟨j, s, h, l, z⟩ q
        · exact Dn.dis a ⟨j, s, h, l, by rw [wipe_out m]; exact z⟩ (.inl q)
        · exact D1.dis a ⟨j, _, h1, rfl, z⟩ q
      · subst q
        exact nD (.inr hls)
  have sb : Sub (restS vs 0 env1 env) env1 := by
    refine ⟨by rw [restS_len hl, hl], fun j s e => ?_⟩
    rcases restS_back hl e with ⟨m, h⟩ | ⟨m, h⟩ | ⟨m, ds, es, rfl, h1, h2⟩
    · exact ⟨s, h, .refl s⟩
    · obtain ⟨t, e1, tr⟩ := sub.back j s h
      rw [wipeS_out m] at e1
      rcases @lend_at ls env1 j with e2 | ⟨es, _, e2, e3⟩
      · rw [e2] at e1; exact ⟨t, e1, tr⟩
      · rw [e3] at e1
        cases e1
        cases tr
        have hc : vs.contains j = false := by simpa using m
        rw [restS_at hl, Nat.zero_add, hc, e2, h] at e
        simp only [mergeS] at e
        cases e
    · exact ⟨_, h1, .own es ds⟩
  refine ⟨den, ⟨kp, ⟨den.len, fun j s e => ?_, den.inj, fun a q => den.amb a (.inl q), fun a z q => den.dis a z (.inl q)⟩, sb⟩, fun a z => ?_, nD⟩
  · obtain ⟨v, hv, q⟩ := den.slot j s e
    exact ⟨v, hv, q.weak fun a z => z.elim (fun z => .inl (.inl z)) .inr⟩
  · exact z.elim .inr fun z => .inl (.inr (at1 a z))
end
/-- the tests of a clause -/
def tTo (c : Ct) : Option Sm → TT
  | none => tYes
  | some s => tT c s
theorem tTo_of {c : Ct} {o : Option Sm} {A : Addr → Prop} {env : EV} {σ : St} {H : Hp} {Q : Bool → Hp → Prop} {w : Ex → EV → Prop} (D : Den c.K A env σ H) (h : wp (noEr (tstR o env)) (fun b env' => ∀ H', Post c.K A env σ H env' H' → Q b H') w) : tTo c o σ H Q := by
  have h := wp_noEr h
  cases o with
  | none => exact h H D.post
  | some s => exact ⟨A, env, D, h.imp (fun _ _ z => z) fun _ _ z => z.elim⟩
abbrev Ct.inn (c : Ct) : Ct := ⟨c.K, c.mg, fun _ _ _ _ => False⟩
theorem tLc_of {c : Ct} {vs : List Nat} {src : Src} {tg : Tg} {o : Option Sm} {e : Sm} (hts : ∀ i ∈ tg.slots, i ∈ vs) (σ : St) (H : Hp) (Q : VK) (q : tV c (.of (vLc vs src tg o e)) σ H Q) :
    tLc (tI c src) (gT c.K tg) (tTo c.inn o) (tV c.inn e) vs σ H Q := by
  obtain ⟨A, env0, D0, q⟩ := q
  have q : wp (vLc vs src tg o e env0) _ _ := q
  simp only [vLc, wp_bd] at q
  refine ⟨A, env0, D0, q.imp (fun p env1 q J H1 P1 ok D hD => ?_) fun _ _ z => z⟩
  obtain ⟨items, ls⟩ := p
  dsimp only at q ok
  split at q
  · rename_i hc
    rw [Bool.and_eq_true] at hc
    obtain ⟨hlen, hvs⟩ := hc
    have hlen : items.length ≤ sizeLine := of_decide_eq_true hlen
    rw [wp_bd] at q
    have D1 := P1.den
    have L := D1.lend ls
    have nD := D1.fresh hD
    generalize henv0 : wipeS vs (lendS ls env1) = envb at q
    have at2 : ∀ a, AtS SV.isLs envb (wipe σ vs) a → AtS SV.isLs env1 σ a := fun a z => (L.2.1 a).mp (by rw [← henv0] at z; exact z.unwipe)
    have mt2 : ∀ a, Mt envb (wipe σ vs) a → Mt (lendS ls env1) σ a := fun a z => by rw [← henv0] at z; exact z.unwipe
    have Db : Den c.K (fun a => A a ∨ a = D) envb (wipe σ vs) (upd H1 D (.lst [])) := by
      rw [← henv0]; exact (L.1.amb1 hD).wipe vs
    have nDb : ∀ {env : EV}, Sub env envb → ¬ AtS SV.isLs env (wipe σ vs) D := fun s z => nD (.inr (at2 D (s.ls z)))
    refine ⟨fun i m H => m = items.length - i ∧ i ≤ items.length ∧ ∃ env acc xs, Den c.K (fun a => A a ∨ a = D) env (wipe σ vs) H ∧ Sub env envb ∧ Keep (Mt envb (wipe σ vs)) H1 H ∧ H D = some (.lst xs) ∧
      Rps c.K H (Av (fun a => A a ∨ a = D) env (wipe σ vs)) xs acc ∧ acc.length ≤ i ∧ wp (lcGo vs tg (tstR o) e.v (items.drop i) acc env) _ _, ⟨items.length, by simp, Nat.zero_le _, envb, [], [], Db, .refl, .trans (P' := fun _ => False) .refl (.upd hD) (fun _ z => z.elim), upd_same, .nil, Nat.le_refl _, q⟩, ?_⟩
    rintro i m H' ⟨rfl, hi, env, acc, xs, De, sub, kp, hDx, rx, hacc, q⟩
    have okH := ok H' (kp.mono mt2) i
    by_cases hlt : i < items.length
    · obtain ⟨go, yld⟩ := okH.1 hlt
      refine .inr ⟨go, fun H2 => i + 1 ≤ items.length ∧ ∃ env acc xs, Den c.K (fun a => A a ∨ a = D) env (wipe σ vs) H2 ∧ Sub env envb ∧ Keep (Mt envb (wipe σ vs)) H1 H2 ∧ H2 D = some (.lst xs) ∧
      Rps c.K H2 (Av (fun a => A a ∨ a = D) env (wipe σ vs)) xs acc ∧ acc.length ≤ i + 1 ∧ wp (lcGo vs tg (tstR o) e.v (items.drop (i + 1)) acc env) _ _, fun H2 h2 => ⟨items.length - (i + 1), by omega, rfl, h2.1, h2.2⟩, fun x H2 y => ?_⟩
      obtain ⟨g2, d, hd, rd⟩ := yld x H2 y
      have hdrop : items.drop i = d :: items.drop (i + 1) := by
        have : items[i] = d := by
          rw [List.getElem?_eq_getElem hlt] at hd; exact Option.some.inj hd
        rw [List.drop_eq_getElem_cons hlt, this]
      rw [hdrop] at q
      simp only [lcGo] at q
      obtain ⟨env2, e2, q⟩ := wp_sure q
      rw [wp_bd] at q
      have D2 := De.grow g2
      have r2 : Rp c.K H2 (Av (fun a => A a ∨ a = D) env (wipe σ vs)) x d := rd _ fun a z => by
        rcases z with (z | z) | z
        · exact .inl (.inl z)
        · exact .inr (by rw [z]; exact hD)
        · exact .inl (.inr (at2 a (sub.ls z)))
      refine ⟨_, env, d, env2, D2, r2, e2, fun σ2 T => ?_⟩
      have hl2 : σ2.length = σ.length := by
        rw [← T.den.len, asgT_len e2, De.len, wipe_length]
      have hw : wipe σ2 vs = wipe σ vs := wipe_eq hl2 fun j hj => (T.out j fun z => hj (hts j z)).2
      refine ⟨hw, tTo_of (c := c.inn) T.den (q.imp (fun b env3 q H3 P3 => ?_) fun _ _ z => z)⟩
      -- the slots behind a turn
      have keepAll : ∀ {env4 : EV} {H4 : Hp}, Post c.K (fun a => A a ∨ a = D) env2 σ2 H2 env4 H4 → Den c.K (fun a => A a ∨ a = D) (wipeS vs env4) (wipe σ vs) H4 ∧ Sub (wipeS vs env4) envb ∧ Keep (Mt envb (wipe σ vs)) H1 H4 ∧ H4 D = some (.lst xs) ∧
          Rps c.K H4 (Av (fun a => A a ∨ a = D) (wipeS vs env4) (wipe σ vs)) xs acc := fun {env4 H4} P4 => by
        have s4 : Sub (wipeS vs env4) env := by
          refine ⟨by rw [wipeS_len, P4.sub.len, asgT_len e2], fun j s h => ?_⟩
          have hj := wipeS_in h
          rw [wipeS_out hj] at h
          obtain ⟨t, h1, tr⟩ := P4.sub.back j s h
          rw [(T.out j fun z => hj (hts j z)).1] at h1
          exact ⟨t, h1, tr⟩
        have sa := s4.trans sub
        have k1 : Keep (Mt env (wipe σ vs)) H' H4 := Keep.trans (P' := fun a => Mt env2 σ2 a) (.ofSame g2) P4.keep fun a z => .inl (T.mt z)
        have d4 := P4.den.wipe vs
        rw [hw] at d4
        refine ⟨d4, sa, kp.trans k1 fun a z => .inl (sub.mt z), k1.same _ _ hDx (.inl fun z => nDb sub (z.mono fun _ => SV.ls_of_mut)), Rps.move k1 (fun a z => z.av) (fun a z => .inl (s4.av z)) rx⟩
      cases b with
      | false =>
        simp only [Bool.false_eq_true, if_false] at q ⊢
        obtain ⟨a1, a2, a3, a4, a5⟩ := keepAll P3
        exact ⟨hlt, _, acc, xs, a1, a2, a3, a4, a5, Nat.le_succ_of_le hacc, q⟩
      | true =>
        simp only [if_true] at q ⊢
        rw [wp_bd] at q
        have q := wp_noEr q
        refine ⟨_, env3, P3.den, q.imp (fun s env4 q v H4 P4 rv => ?_) fun _ _ z => z.elim⟩
        obtain ⟨y, ey, q⟩ := wp_sure q
        have ry := rv.freeze ey
        obtain ⟨a1, a2, a3, a4, a5⟩ := keepAll (P3.trans P4)
        refine ⟨xs, a4, ?_, ?_⟩
        · have := rx.length
          omega
        · have kD : Keep (fun a => a = D) H4 (upd H4 D (.lst (xs ++ [v]))) := .setLst rfl a4
          have sAv : ∀ a, Av (fun a => A a ∨ a = D) (wipeS vs env4) (wipe σ vs) a → Av (fun a => A a ∨ a = D) env4 σ2 a := fun a z => by
            rw [← hw] at z; exact z.unwipe
          refine ⟨hlt, wipeS vs env4, acc ++ [y], xs ++ [v], a1.set1 (.inr rfl) a4 (nDb a2), a2, a3.trans kD fun a z => .inr (by rw [z]; exact hD), upd_same, ?_, ?_, q⟩
          · exact Rps.move kD (fun a z => .inl (.inr z)) (fun a z => .inl z) (a5.append (.one (ry.weak sAv)))
          · rw [List.length_append]; exact Nat.add_le_add_right hacc 1
    · have ei : i = items.length := by omega
      subst ei
      refine .inl ⟨okH.2 (Nat.le_refl _), ?_⟩
      rw [List.drop_length] at q
      simp only [lcGo, wp_mk] at q
      rw [← henv0] at sub kp
      obtain ⟨dn, po, av, nd⟩ := blk_back D1 hD hvs De sub kp
      refine q _ H' (P1.trans po) ⟨D, xs, rfl, P1.keep.new hD, hDx, fun z => nd (po.sub.av z), dn, rx.weak fun a z => ?_⟩
      rcases z with z | z
      · rcases av a z with (z | z) | z
        · exact z.elim
        · exact .inr z
        · exact .inl (.inl z)
      · exact .inl (.inr z)
  · exact q.elim

structure SndTst (X : Cx) (W : WX) (ifs : List Expr) (o : Option Sm) : Prop where
  run : PTs X ifs (tTo (.ofX X W) o)
theorem sndTst_nil {X : Cx} {W : WX} : SndTst X W [] none := ⟨pts_nil⟩
theorem sndTst_one {X : Cx} {W : WX} {e : Expr} {s : Sm} (h : Snd X W e s) : SndTst X W [e] (some s) := ⟨pts_one h.t⟩
/-- nothing may raise -/
abbrev WF : WX := fun _ _ _ _ => False
theorem takes_wf {X : Cx} : Takes X WF := fun u s' ⟨a, B, sI, pins, σ, H, cls, d, e, I, nb, up, sky, na, os, ag, w⟩ => w.elim
section
variable {X : Cx} {W : WX}
theorem snd_lc {elt tg iter : Expr} {ifs : List Expr} {scope : Scope} {own : List (Str × Nat)} {pos : Pos} {src : Src} {t : Tg} {o : Option Sm} {e : Sm} (hc : X.calm = true) (hN : X.N.Nodup) (hi : SndI X W tg iter src) (ok : BlkOk X.N X.env.scope scope own) (hts : ∀ i ∈ t.slots, i ∈ own.map (·.2))
    (hg : ∀ (s : Shared) (H : Hp) (C : Addr) (cl : List (Str × Addr)) (fp : List Addr), SndT (X.blk s H scope (compEnvC scope cl C X.env) fp) tg t)
    (ht : ∀ (s : Shared) (H : Hp) (C : Addr) (cl : List (Str × Addr)) (fp : List Addr), SndTst (X.blk s H scope (compEnvC scope cl C X.env) fp) WF ifs o)
    (he : ∀ (s : Shared) (H : Hp) (C : Addr) (cl : List (Str × Addr)) (fp : List Addr), Snd (X.blk s H scope (compEnvC scope cl C X.env) fp) WF elt e) (hs : ∀ x, foldedSetIterable iter X.env x = pure x) :
    Snd X W (.ListComp elt [⟨tg, iter, ifs, 0⟩] scope pos) (.of (vLc (own.map (·.2)) src t o e)) :=
  .of ((pe_lc (wi := tI (.ofX X W) src) (g := gT X.K t) (tt := tTo (Ct.inn (.ofX X W)) o) (te := tV (Ct.inn (.ofX X W)) e) hc hN hi.run ok (fun s H C cl fp => SndT.pg (X := X.blk s H scope (compEnvC scope cl C X.env) fp) hc hN (hg s H C cl fp)) (fun s H C cl fp => (ht s H C cl fp).run) (fun s H C cl fp => (he s H C cl fp).v) hs).imp fun σ H Q q => tLc_of hts σ H Q q) rfl
end
end Tw
end STwL

section STwM
/-! Part M: statements; what a def's slots may become. -/
namespace Tw
open PySem PySem.Spec PyProof.Rows L2

/-- behind statements: which lists stand in slots, and which have changed -/
structure Bst (env : EV) (σ : St) (H : Hp) (env' : EV) (σ' : St) (H' : Hp) : Prop where
  len : env'.length = env.length
  keep : Keep (Mt env σ) H H'
  own : ∀ a, AtS SV.isOwn env' σ' a → AtS SV.isOwn env σ a ∨ H a = none
  mt : ∀ a, Mt env' σ' a → Mt env σ a ∨ H a = none
  ls : ∀ a, AtS SV.isLs env' σ' a → AtS SV.isLs env σ a ∨ H a = none
  io : ∀ (i : Nat) (es : List PyData), env'[i]? = some (some (SV.io es)) → (∃ ds, env[i]? = some (some (SV.io ds))) ∧ σ'[i]? = σ[i]?
  lent : ∀ (i : Nat) (ds : List PyData), env'[i]? = some (some (SV.lent ds)) → env[i]? = some (some (SV.lent ds)) ∧ σ'[i]? = σ[i]?
structure PostS (K : PySem.W.Frag) (A : Addr → Prop) (env : EV) (σ : St) (H : Hp) (env' : EV) (σ' : St) (H' : Hp) : Prop where
  st : Bst env σ H env' σ' H'
  den : Den K A env' σ' H'
/-- what is returned: data, or a list of one's own that stands in no slot any more -/
def Rt (K : PySem.W.Frag) (A : Addr → Prop) (env : EV) (σ : St) (H : Hp) (env' : EV) (σ' : St) (H' : Hp) (v : V) : SV → Prop
  | .frz d => Rp K H' (Av A env' σ') v d
  | .own ds => ∃ a xs, v = .ref a ∧ (AtS SV.isOwn env σ a ∨ H a = none) ∧ H' a = some (.lst xs) ∧ ¬ Av A env' σ' a ∧ Den K (fun b => A b ∨ b = a) env' σ' H' ∧ Rps K H' (fun b => Av A env' σ' b ∨ b = a) xs ds
  | _ => False
section
variable {K : PySem.W.Frag} {A : Addr → Prop} {env env1 env2 : EV} {σ σ1 σ2 : St} {H H1 H2 : Hp}
theorem Bst.refl : Bst env σ H env σ H := ⟨rfl, .refl, fun _ h => .inl h, fun _ h => .inl h, fun _ h => .inl h, fun _ _ h => ⟨⟨_, h⟩, rfl⟩, fun _ _ h => ⟨h, rfl⟩⟩
theorem Bst.trans (p : Bst env σ H env1 σ1 H1) (q : Bst env1 σ1 H1 env2 σ2 H2) : Bst env σ H env2 σ2 H2 := by
  refine ⟨q.len.trans p.len, p.keep.trans q.keep fun a z => p.mt a z, fun a z => ?_, fun a z => ?_, fun a z => ?_, fun i es h => ?_, fun i ds h => ?_⟩
  · exact (q.own a z).elim (p.own a) fun n => .inr (p.keep.new n)
  · exact (q.mt a z).elim (p.mt a) fun n => .inr (p.keep.new n)
  · exact (q.ls a z).elim (p.ls a) fun n => .inr (p.keep.new n)
  · obtain ⟨⟨ds, h1⟩, e1⟩ := q.io i es h
    obtain ⟨h2, e2⟩ := p.io i ds h1
    exact ⟨h2, e1.trans e2⟩
  · obtain ⟨h1, e1⟩ := q.lent i ds h
    obtain ⟨h2, e2⟩ := p.lent i ds h1
    exact ⟨h2, e1.trans e2⟩
theorem Sub.own {a : Addr} (h : Sub env1 env) : AtS SV.isOwn env1 σ a → AtS SV.isOwn env σ a := h.at fun s t q z => by cases q <;> first | rfl | cases z
theorem Post.bst (p : Post K A env σ H env1 H1) : Bst env σ H env1 σ H1 := by
  refine ⟨p.sub.len, p.keep, fun a z => .inl (p.sub.own z), fun a z => .inl (p.sub.mt z), fun a z => .inl (p.sub.ls z), fun i es h => ?_, fun i ds h => ?_⟩
  · obtain ⟨t, h1, tr⟩ := p.sub.back i _ h
    cases tr
    exact ⟨⟨_, h1⟩, rfl⟩
  · obtain ⟨t, h1, tr⟩ := p.sub.back i _ h
    cases tr
    exact ⟨h1, rfl⟩
theorem Post.s (p : Post K A env σ H env1 H1) : PostS K A env σ H env1 σ H1 := ⟨p.bst, p.den⟩
theorem PostS.trans (p : PostS K A env σ H env1 σ1 H1) (q : PostS K A env1 σ1 H1 env2 σ2 H2) : PostS K A env σ H env2 σ2 H2 := ⟨p.st.trans q.st, q.den⟩
theorem Den.s (D : Den K A env σ H) : PostS K A env σ H env σ H := ⟨.refl, D⟩
theorem Rt.behind {v : V} {s : SV} (p : Bst env σ H env1 σ1 H1) (r : Rt K A env1 σ1 H1 env2 σ2 H2 v s) : Rt K A env σ H env2 σ2 H2 v s := by
  cases s with
  | frz d => exact r
  | own ds =>
    obtain ⟨a, xs, e, n, q⟩ := r
    exact ⟨a, xs, e, n.elim (p.own a) fun n => .inr (p.keep.new n), q⟩
  | lent ds => exact r
  | io ds => exact r
  | scr ds => exact r
theorem Rv.rt {v : V} {s : SV} (r : Rv K A env1 σ H H1 v s) : Rt K A env σ H env1 σ H1 v s := by
  cases s with
  | frz d => exact r
  | own ds =>
    obtain ⟨a, xs, e, n, q⟩ := r
    exact ⟨a, xs, e, .inr n, q⟩
  | lent ds => exact r
  | io ds => exact r
  | scr ds => exact r
theorem TgPost.bst {is : List Nat} (hl : env1.length = env.length) (P : TgPost K A is env σ H env1 σ1) : Bst env σ H env1 σ1 H := by
  have key : ∀ p : SV → Bool, (∀ s, p s = true → s.isLs = true) → ∀ a, AtS p env1 σ1 a → AtS p env σ a := fun p hp a ⟨i, s, e, l, z⟩ => by
    by_cases hi : i ∈ is
    · obtain ⟨d, e'⟩ := P.ins i hi
      rw [e'] at e; cases e
      cases hp _ l
    · obtain ⟨e1, e2⟩ := P.out i hi
      exact ⟨i, s, by rw [← e1]; exact e, l, by rw [← e2]; exact z⟩
  have out : ∀ {i : Nat} {s : SV}, env1[i]? = some (some s) → s.isLs = true → env[i]? = some (some s) ∧ σ1[i]? = σ[i]? := fun {i s} e l => by
    by_cases hi : i ∈ is
    · obtain ⟨d, e'⟩ := P.ins i hi
      rw [e'] at e; cases e; cases l
    · obtain ⟨e1, e2⟩ := P.out i hi
      exact ⟨by rw [← e1]; exact e, e2⟩
  exact ⟨hl, .refl, fun a z => .inl (key _ (fun s h => SV.ls_of_mut (SV.mut_of_own h)) a z), fun a z => .inl (key _ (fun s h => SV.ls_of_mut h) a z), fun a z => .inl (key _ (fun s h => h) a z),
    fun i es h => ⟨⟨es, (out h rfl).1⟩, (out h rfl).2⟩, fun i ds h => out h rfl⟩
end

/-! ### meanings -/
inductive Fl where
  | nx
  | rt (s : SV)
  | bk
  | ct
abbrev StS := EV → Res Fl
def XWS (c : Ct) (A : Addr → Prop) (env : EV) (σ : St) (H : Hp) (x : Ex) (env' : EV) : Prop := ∀ u dx σ' H', PostS c.K A env σ H env' σ' H' → ExOk c H' (Av A env' σ') x u dx → c.W u dx σ' H'
def EndS (c : Ct) (A : Addr → Prop) (D : Ends) (env : EV) (σ : St) (H : Hp) (f : Fl) (env' : EV) : Prop := match f with
  | .nx => ∀ σ' H', PostS c.K A env σ H env' σ' H' → D.nx σ' H'
  | .bk => ∀ σ' H', PostS c.K A env σ H env' σ' H' → D.bk σ' H'
  | .ct => ∀ σ' H', PostS c.K A env σ H env' σ' H' → D.ct σ' H'
  | .rt s => ∀ v σ' H', PostS c.K A env σ H env' σ' H' → Rt c.K A env σ H env' σ' H' v s → D.rt v H'
def tS (c : Ct) (m : StS) : TS := fun D σ H => ∃ A env, Den c.K A env σ H ∧ wp (m env) (EndS c A D env σ H) (XWS c A env σ H)
structure SndS (X : Cx) (W : WX) (st : Stmt) (m : StS) : Prop where
  run : PS X st (tS (.ofX X W) m)
structure SndSs (X : Cx) (W : WX) (st : List Stmt) (m : StS) : Prop where
  run : PSs X st (tS (.ofX X W) m)
end Tw
namespace L2
theorem PS.imp {X : Cx} {e : PySem.Stmt} {t t' : TS} (h : PS X e t) (i : ∀ D σ H, t' D σ H → t D σ H) : PS X e t' := ⟨fun p s σ H D I q => h.run p s σ H D I (i D σ H q)⟩
theorem PSs.imp {X : Cx} {e : List PySem.Stmt} {t t' : TS} (h : PSs X e t) (i : ∀ D σ H, t' D σ H → t D σ H) : PSs X e t' := ⟨fun p s σ H D I q => h.run p s σ H D I (i D σ H q)⟩
end L2
namespace Tw
open PySem PySem.Spec PyProof.Rows L2
section
variable {c : Ct} {A : Addr → Prop} {env env1 : EV} {σ σ1 : St} {H H1 : Hp} {D : Ends}
theorem XWS.behind {x : Ex} {env' : EV} (P : PostS c.K A env σ H env1 σ1 H1) (h : XWS c A env σ H x env') : XWS c A env1 σ1 H1 x env' := fun u dx σ' H' P' q => h u dx σ' H' (P.trans P') q
theorem XWS.xw {x : Ex} {env' : EV} (h : XWS c A env σ H x env') : XW c A env σ H x env' := fun u dx H' P q => h u dx σ H' P.s q
theorem EndS.behind {f : Fl} {env' : EV} (P : PostS c.K A env σ H env1 σ1 H1) (h : EndS c A D env σ H f env') : EndS c A D env1 σ1 H1 f env' := by
  cases f with
  | nx => exact fun σ' H' q => h σ' H' (P.trans q)
  | bk => exact fun σ' H' q => h σ' H' (P.trans q)
  | ct => exact fun σ' H' q => h σ' H' (P.trans q)
  | rt s => exact fun v σ' H' q r => h v σ' H' (P.trans q) (r.behind P.st)
/-- a meaning goes on -/
theorem tS.on {m : StS} (P : PostS c.K A env σ H env1 σ1 H1) (h : wp (m env1) (EndS c A D env σ H) (XWS c A env σ H)) : tS c m D σ1 H1 :=
  ⟨A, env1, P.den, h.imp (fun _ _ z => z.behind P) fun _ _ z => z.behind P⟩
end

/-! ### small statements, blocks -/
def mNx : StS := fun env => .mk .nx env
def mFl (f : Fl) : StS := fun env => .mk f env
def mSeq (a b : StS) : StS := fun env => (a env).bd fun f env1 => match f with
  | .nx => b env1
  | f => .mk f env1
def mIf (t : EV → Res Bool) (a b : StS) : StS := fun env => (t env).bd fun c env1 => if c = true then a env1 else b env1
def mExpr (s : Sm) : StS := fun env => (s.v env).bd fun _ env1 => .mk .nx env1
def mRet (s : Sm) : StS := fun env => (s.v env).bd fun r env1 => .mk (.rt r) env1
/-- return x: a list of one's own leaves its slot -/
def mRetVar (i : Nat) : StS := fun env => match env[i]? with
  | some (some (.frz d)) => .mk (.rt (.frz d)) env
  | some (some (.own ds)) => .mk (.rt (.own ds)) (env.set i none)
  | _ => none
section
variable {X : Cx} {W : WX} {st : Stmt} {rest a b : List Stmt} {m n : StS} {e : Expr} {s : Sm} {pos : Pos}
theorem snd_nil : SndSs X W [] mNx := ⟨pss_nil.imp fun D σ H q => by
  obtain ⟨A, env, De, q⟩ := q
  have q : EndS _ A D env σ H .nx env := q
  exact q σ H De.s⟩
theorem snd_cons (h1 : SndS X W st m) (h2 : SndSs X W rest n) : SndSs X W (st :: rest) (mSeq m n) := ⟨(pss_cons h1.run h2.run).imp fun D σ H q => by
  obtain ⟨A, env, De, q⟩ := q
  simp only [mSeq, wp_bd] at q
  refine ⟨A, env, De, q.imp (fun f env1 q => ?_) fun _ _ z => z⟩
  cases f with
  | nx => exact fun σ1 H1 P => tS.on P q
  | bk => exact q
  | ct => exact q
  | rt s => exact q⟩
theorem snd_pass : SndS X W (.Pass pos) mNx := ⟨ps_pass.imp fun D σ H q => by
  obtain ⟨A, env, De, q⟩ := q
  have q : EndS _ A D env σ H .nx env := q
  exact q σ H De.s⟩
theorem snd_break : SndS X W (.Break pos) (mFl .bk) := ⟨ps_break.imp fun D σ H q => by
  obtain ⟨A, env, De, q⟩ := q
  have q : EndS _ A D env σ H .bk env := q
  exact q σ H De.s⟩
theorem snd_cont : SndS X W (.Continue pos) (mFl .ct) := ⟨ps_continue.imp fun D σ H q => by
  obtain ⟨A, env, De, q⟩ := q
  have q : EndS _ A D env σ H .ct env := q
  exact q σ H De.s⟩
theorem snd_if {t : Expr} (ht : Snd X W t s) (ha : SndSs X W a m) (hb : SndSs X W b n) : SndS X W (.If t a b pos) (mIf s.t m n) := ⟨(ps_if ht.t ha.run hb.run).imp fun D σ H q => by
  obtain ⟨A, env, De, q⟩ := q
  simp only [mIf, wp_bd] at q
  refine ⟨A, env, De, q.imp (fun k env1 q H1 P => ?_) fun _ _ z => z.xw⟩
  cases k with
  | true => exact tS.on P.s q
  | false => exact tS.on P.s q⟩
theorem snd_expr (he : Snd X W e s) (hs : swapsWith e none pos.line X.env = pure false) : SndS X W (.Expr e pos) (mExpr s) := ⟨(ps_expr he.v hs).imp fun D σ H q => by
  obtain ⟨A, env, De, q⟩ := q
  simp only [mExpr, wp_bd] at q
  exact ⟨A, env, De, q.imp (fun r env1 q v H1 P _ => q σ H1 P.s) fun _ _ z => z.xw⟩⟩
theorem snd_doc {x j pos'} : SndS X W (.Expr (.Constant (.str x) j pos) pos') mNx := ⟨ps_doc.imp fun D σ H q => by
  obtain ⟨A, env, De, q⟩ := q
  have q : EndS _ A D env σ H .nx env := q
  exact q σ H De.s⟩
theorem snd_ret (he : Snd X W e s) : SndS X W (.Return (some e) pos) (mRet s) := ⟨(ps_ret he.v).imp fun D σ H q => by
  obtain ⟨A, env, De, q⟩ := q
  simp only [mRet, wp_bd] at q
  exact ⟨A, env, De, q.imp (fun r env1 q v H1 P rv => q v σ H1 P.s rv.rt) fun _ _ z => z.xw⟩⟩
theorem snd_retN : SndS X W (.Return none pos) (mFl (.rt (.frz .none))) := ⟨ps_retN.imp fun D σ H q => by
  obtain ⟨A, env, De, q⟩ := q
  have q : EndS _ A D env σ H (.rt (.frz .none)) env := q
  exact q _ σ H De.s .non⟩
/-- a slot whose list is let go -/
theorem Den.drop {K : PySem.W.Frag} {A : Addr → Prop} {env : EV} {σ : St} {H : Hp} {i : Nat} {ds : List PyData} (D : Den K A env σ H) (h : env[i]? = some (some (.own ds))) :
    ∃ v, σ[i]? = some (some v) ∧ Post K A env σ H (env.set i none) H ∧ Rt K A env σ H (env.set i none) σ H v (.own ds) := by
  obtain ⟨a, xs, hv, ha, r⟩ := D.list h rfl
  have back : ∀ {j : Nat} {s : SV}, (env.set i none)[j]? = some (some s) → j ≠ i ∧ env[j]? = some (some s) := fun {j s} e => by
    rcases getElem?_set_some e with ⟨_, z⟩ | z
    · cases z
    · exact z
  have sub : Sub (env.set i none) env := ⟨List.length_set, fun j s e => ⟨s, (back e).2, .refl s⟩⟩
  have na : ¬ Av A (env.set i none) σ a := by
    rintro (q | ⟨j, s, e, l, z⟩)
    · exact D.dis a ⟨i, _, h, rfl, hv⟩ q
    · exact (back e).1 (D.inj j i s _ a (back e).2 h l rfl z hv)
  have av : ∀ b, Av (fun b => A b ∨ b = a) (env.set i none) σ b → Av A env σ b := fun b z => by
    rcases z with (z | z) | z
    · exact .inl z
    · exact .inr ⟨i, _, h, rfl, by rw [z]; exact hv⟩
    · exact .inr (sub.ls z)
  have den : Den K (fun b => A b ∨ b = a) (env.set i none) σ H := by
    refine ⟨sub.len.trans D.len, fun j s e => ?_, fun j k s t b e1 e2 l1 l2 z1 z2 => D.inj j k s t b (back e1).2 (back e2).2 l1 l2 z1 z2, fun b q => ?_, fun b z q => ?_⟩
    · obtain ⟨v, e1, q⟩ := D.slot j s (back e).2
      exact ⟨v, e1, q.weak av⟩
    · rcases q with q | rfl
      · exact D.amb b q
      · exact ⟨xs, ha⟩
    · rcases q with q | rfl
      · exact D.dis b (sub.own z) q
      · exact na (.inr (z.mono fun _ h => SV.ls_of_mut (SV.mut_of_own h)))
  refine ⟨.ref a, hv, ⟨.refl, ⟨den.len, fun j s e => ?_, den.inj, fun b q => den.amb b (.inl q), fun b z q => den.dis b z (.inl q)⟩, sub⟩, a, xs, rfl, .inl ⟨i, _, h, rfl, hv⟩, ha, na, den, r.weak fun b z => ?_⟩
  · obtain ⟨v, e1, q⟩ := den.slot j s e
    exact ⟨v, e1, q.weak fun b z => z.elim (fun z => .inl (.inl z)) .inr⟩
  · rcases z with z | z
    · exact sub.av z
    · exact .inr ⟨i, _, h, rfl, by rw [z]; exact hv⟩
theorem snd_retVar {i : Nat} {x : Str} {p : Pos} (hN : X.N[i]? = some x) (hv : Vis X.env.scope x) (hd : (x == ("__debug__" : Str)) = false) (hc : (x == ("__classdict__" : Str)) = false) : SndS X W (.Return (some (.Name x p)) pos) (mRetVar i) := ⟨(ps_ret (pe_var hN hv hd hc)).imp fun D σ H q => by
  obtain ⟨A, env, De, q⟩ := q
  simp only [mRetVar] at q
  split at q
  · rename_i d h
    have q : EndS _ A D env σ H (.rt (.frz d)) env := q
    obtain ⟨v, hv, r⟩ := De.slot i _ h
    exact ⟨v, hv, q v σ H De.s r⟩
  · rename_i ds h
    have q : EndS _ A D env σ H (.rt (.own ds)) (env.set i none) := q
    obtain ⟨v, hv, P, r⟩ := De.drop h
    exact ⟨v, hv, q v σ H P.s r⟩
  · exact q.elim⟩
end
end Tw
end STwM

section STwN
/-! Part N: stores of results into slots. -/
namespace Tw
open PySem PySem.Spec PyProof.Rows L2

section
variable {K : PySem.W.Frag} {A : Addr → Prop} {env env1 env2 : EV} {σ σ1 σ2 : St} {H H0 H1 H2 : Hp}
theorem get_append_cons {α : Type} {l r : List α} {x : α} {j : Nat} : (l ++ x :: r)[j]? = if j < l.length then l[j]? else if j = l.length then some x else r[j - l.length - 1]? := by
  by_cases h : j < l.length
  · rw [if_pos h, List.getElem?_append_left h]
  · rw [if_neg h, List.getElem?_append_right (by omega)]
    by_cases e : j = l.length
    · rw [if_pos e, e, Nat.sub_self]; rfl
    · rw [if_neg e]
      obtain ⟨k, hk⟩ : ∃ k, j - l.length = k + 1 := ⟨j - l.length - 1, by omega⟩
      rw [hk]; rfl
/-- slots taken over from others -/
theorem Den.perm (D : Den K A env1 σ1 H) (f : Nat → Nat) (hl : env2.length = σ2.length) (hf : ∀ j s, env2[j]? = some (some s) → env1[f j]? = some (some s) ∧ σ2[j]? = σ1[f j]?)
    (inj : ∀ i j s t, env2[i]? = some (some s) → env2[j]? = some (some t) → s.isLs = true → t.isLs = true → f i = f j → i = j) : Den K A env2 σ2 H := by
  have at' : ∀ p : SV → Bool, ∀ a, AtS p env2 σ2 a → AtS p env1 σ1 a := fun p a ⟨j, s, e, l, z⟩ => by
    obtain ⟨h1, h2⟩ := hf j s e
    exact ⟨f j, s, h1, l, by rw [← h2]; exact z⟩
  refine ⟨hl, fun j s e => ?_, fun i j s t a e1 e2 l1 l2 z1 z2 => ?_, D.amb, fun a z => D.dis a (at' _ a z)⟩
  · obtain ⟨h1, h2⟩ := hf j s e
    obtain ⟨v, hv, q⟩ := D.slot _ _ h1
    exact ⟨v, by rw [h2]; exact hv, q.weak fun a z => z.elim .inl fun z => .inr (at' _ a z)⟩
  · obtain ⟨h1, h2⟩ := hf i s e1
    obtain ⟨h3, h4⟩ := hf j t e2
    exact inj i j s t e1 e2 l1 l2 (D.inj _ _ s t a h1 h3 l1 l2 (by rw [← h2]; exact z1) (by rw [← h4]; exact z2))
/-- the list of a result that waits -/
def tmpL (r : SV) (v : V) (b : Addr) : Prop := r.isLs = true ∧ v = .ref b
def SV.res : SV → Bool
  | .frz _ | .own _ => true
  | _ => false
theorem Rv.res {v : V} {r : SV} (h : Rv K A env σ H0 H1 v r) : r.res = true := by cases r <;> first | rfl | exact h.elim
theorem Rv.newL {v : V} {r : SV} (h : Rv K A env σ H0 H1 v r) {b : Addr} (t : tmpL r v b) : H0 b = none := by
  obtain ⟨l, e⟩ := t
  cases r with
  | own ds => obtain ⟨a, xs, e2, n, _⟩ := h; rw [e] at e2; cases e2; exact n
  | frz d => cases l
  | lent ds => exact h.elim
  | io ds => exact h.elim
  | scr ds => exact h.elim
/-- while a result waits, data leads nowhere into its list -/
theorem Rv.wait {v : V} {r : SV} (D : Den K A env σ H1) (h : Rv K A env σ H0 H1 v r) : Den K (fun b => A b ∨ tmpL r v b) env σ H1 := by
  have same : ∀ {B : Addr → Prop}, (∀ b, B b ↔ (A b ∨ tmpL r v b)) → Den K B env σ H1 → Den K (fun b => A b ∨ tmpL r v b) env σ H1 := fun {B} hb D => by
    have : B = fun b => A b ∨ tmpL r v b := funext fun b => propext (hb b)
    rw [← this]; exact D
  cases r with
  | frz d => exact same (B := A) (fun b => ⟨.inl, fun z => z.elim id fun z => by cases z.1⟩) D
  | own ds =>
    obtain ⟨a, xs, e, n, h1, na, Da, rs⟩ := h
    refine same (fun b => ?_) Da
    constructor
    · rintro (z | z)
      · exact .inl z
      · exact .inr ⟨rfl, by rw [e, z]⟩
    · rintro (z | ⟨_, z⟩)
      · exact .inl z
      · rw [e] at z; cases z; exact .inr rfl
  | lent ds => exact h.elim
  | io ds => exact h.elim
  | scr ds => exact h.elim
theorem AtS.app {p : SV → Bool} {ts : EV} {us : St} (hl : env.length = σ.length) {a : Addr} : AtS p (env ++ ts) (σ ++ us) a ↔ (AtS p env σ a ∨ AtS p ts us a) := by
  constructor
  · rintro ⟨j, s, e, l, z⟩
    by_cases h : j < env.length
    · rw [List.getElem?_append_left h] at e
      rw [List.getElem?_append_left (by omega)] at z
      exact .inl ⟨j, s, e, l, z⟩
    · rw [List.getElem?_append_right (by omega)] at e
      rw [List.getElem?_append_right (by omega), ← hl] at z
      exact .inr ⟨_, s, e, l, z⟩
  · rintro (⟨j, s, e, l, z⟩ | ⟨j, s, e, l, z⟩)
    · have h := (List.getElem?_eq_some_iff.mp e).1
      exact ⟨j, s, by rw [List.getElem?_append_left h]; exact e, l, by rw [List.getElem?_append_left (by omega)]; exact z⟩
    · refine ⟨env.length + j, s, ?_, l, ?_⟩
      · rw [List.getElem?_append_right (by omega), Nat.add_sub_cancel_left]; exact e
      · rw [List.getElem?_append_right (by omega), ← hl, Nat.add_sub_cancel_left]; exact z
theorem AtS.cons {p : SV → Bool} {ts : EV} {us : St} {r : SV} {v : V} {a : Addr} : AtS p (some r :: ts) (some v :: us) a ↔ ((p r = true ∧ v = .ref a) ∨ AtS p ts us a) := by
  constructor
  · rintro ⟨j, s, e, l, z⟩
    cases j with
    | zero => simp at e z; subst e; exact .inl ⟨l, z⟩
    | succ j => exact .inr ⟨j, s, by simpa using e, l, by simpa using z⟩
  · rintro (⟨l, z⟩ | ⟨j, s, e, l, z⟩)
    · exact ⟨0, r, rfl, l, by rw [z]; rfl⟩
    · exact ⟨j + 1, s, by simpa using e, l, by simpa using z⟩
/-- a result that waits, ahead of others that came behind it -/
theorem Rv.join {v : V} {r : SV} {ts : EV} {us : St} (D1 : Den K A env1 σ H1) (h : Rv K A env1 σ H0 H1 v r) (P : Post K (fun b => A b ∨ tmpL r v b) env1 σ H1 env2 H2) (T : Den K (fun b => A b ∨ tmpL r v b) (env2 ++ ts) (σ ++ us) H2)
    (n : ∀ a, AtS SV.isLs ts us a → H1 a = none) : Den K A (env2 ++ some r :: ts) (σ ++ some v :: us) H2 := by
  have hl : env2.length = σ.length := P.den.len
  have hlt : ts.length = us.length := by have := T.len; simp only [List.length_append] at this; omega
  have Dw := Rv.wait D1 h
  -- the waiting list is no slot's
  have nt : ∀ b, tmpL r v b → ¬ AtS SV.isLs env1 σ b := fun b t z => by
    cases r with
    | own ds =>
      obtain ⟨a, xs, e, _, _, na, _⟩ := h
      rw [t.2] at e; cases e
      exact na (.inr z)
    | frz d => cases t.1
    | lent ds => exact h.elim
    | io ds => exact h.elim
    | scr ds => exact h.elim
  have there : ∀ b, tmpL r v b → ∃ xs, H1 b = some (.lst xs) := fun b t => Dw.amb b (.inr t)
  have atAll : ∀ a, AtS SV.isLs (env2 ++ some r :: ts) (σ ++ some v :: us) a ↔ (AtS SV.isLs (env2 ++ ts) (σ ++ us) a ∨ tmpL r v a) := fun a => by
    rw [AtS.app hl, AtS.app hl, AtS.cons]
    constructor
    · rintro (z | z | z)
      · exact .inl (.inl z)
      · exact .inr z
      · exact .inl (.inr z)
    · rintro ((z | z) | z)
      · exact .inl z
      · exact .inr (.inr z)
      · exact .inr (.inl z)
  have av : ∀ a, Av A (env2 ++ some r :: ts) (σ ++ some v :: us) a → Av (fun b => A b ∨ tmpL r v b) (env2 ++ ts) (σ ++ us) a := fun a z => by
    rcases z with z | z
    · exact .inl (.inl z)
    · rcases (atAll a).mp z with z | z
      · exact .inr z
      · exact .inl (.inr z)
  -- which slot of T, or the waiting one
  have fwd : ∀ {j : Nat} {s : SV}, (env2 ++ some r :: ts)[j]? = some (some s) → (j = env2.length ∧ s = r ∧ (σ ++ some v :: us)[j]? = some (some v)) ∨
      (j ≠ env2.length ∧ (env2 ++ ts)[if j < env2.length then j else j - 1]? = some (some s) ∧ (σ ++ some v :: us)[j]? = (σ ++ us)[if j < env2.length then j else j - 1]?) := fun {j s} e => by
    rw [get_append_cons] at e
    by_cases h1 : j < env2.length
    · rw [if_pos h1] at e
      refine .inr ⟨by omega, ?_, ?_⟩
      · rw [if_pos h1, List.getElem?_append_left h1]; exact e
      · rw [if_pos h1, List.getElem?_append_left (by omega), List.getElem?_append_left (by omega)]
    · rw [if_neg h1] at e
      by_cases h2 : j = env2.length
      · rw [if_pos h2] at e
        cases e
        refine .inl ⟨h2, rfl, ?_⟩
        rw [get_append_cons, if_neg (by omega), if_pos (by omega)]
      · rw [if_neg h2] at e
        refine .inr ⟨h2, ?_, ?_⟩
        · rw [if_neg h1, List.getElem?_append_right (by omega), show j - 1 - env2.length = j - env2.length - 1 by omega]; exact e
        · rw [if_neg h1, get_append_cons, if_neg (by omega), if_neg (by omega), List.getElem?_append_right (by omega), show j - σ.length - 1 = j - 1 - σ.length by omega]
  refine ⟨by simp only [List.length_append, List.length_cons]; omega, fun j s e => ?_, fun i j s t a e1 e2 l1 l2 z1 z2 => ?_, fun a q => T.amb a (.inl q), fun a z q => ?_⟩
  · rcases fwd e with ⟨_, rfl, hv⟩ | ⟨_, h1, h2⟩
    · refine ⟨v, hv, ?_⟩
      have B : ∀ a, Av A (env2 ++ some s :: ts) (σ ++ some v :: us) a → (Av A env1 σ a ∨ tmpL s v a) ∨ H1 a = none := fun a z => by
        rcases av a z with (z | z) | z
        · exact .inl (.inl (.inl z))
        · exact .inl (.inr z)
        · rcases (AtS.app hl).mp z with z | z
          · exact .inl (.inl (.inr (P.sub.ls z)))
          · exact .inr (n a z)
      cases s with
      | frz d =>
        have h : Rp K H1 (Av A env1 σ) v d := h
        exact Rp.move P.keep (fun a z => z.av) (fun a z => (B a z).elim (fun z => z.elim .inl fun z => by cases z.1) .inr) h
      | own ds =>
        obtain ⟨a, xs, e, _, ha, na, Da, rs⟩ := h
        subst e
        have nm : ¬ Mt env1 σ a := fun z => na (.inr (z.mono fun _ => SV.ls_of_mut))
        refine ⟨a, xs, rfl, P.keep.same _ _ ha (.inl nm), Rps.move P.keep (fun b z => .inl z.av) (fun b z => (B b z).elim (fun z => .inl (z.elim .inl fun z => .inr (by have := z.2; cases this; rfl))) .inr) rs⟩
      | lent ds => exact h.elim
      | io ds => exact h.elim
      | scr ds => exact h.elim
    · obtain ⟨u, hu, q⟩ := T.slot _ _ h1
      exact ⟨u, by rw [h2]; exact hu, q.weak av⟩
  · -- the waiting list stands in no slot of T
    have nT : ∀ b, tmpL r v b → ¬ AtS SV.isLs (env2 ++ ts) (σ ++ us) b := fun b t z => by
      rcases (AtS.app hl).mp z with z | z
      · exact nt b t (P.sub.ls z)
      · obtain ⟨xs, e⟩ := there b t
        rw [n b z] at e; cases e
    rcases fwd e1 with ⟨h1, rfl, hv⟩ | ⟨h1, x1, y1⟩
    · rcases fwd e2 with ⟨h2, _, _⟩ | ⟨h2, x2, y2⟩
      · omega
      · rw [hv] at z1; cases z1
        exact absurd ⟨_, t, x2, l2, by rw [← y2]; exact z2⟩ (nT a ⟨l1, rfl⟩)
    · rcases fwd e2 with ⟨h2, rfl, hv⟩ | ⟨h2, x2, y2⟩
      · rw [hv] at z2; cases z2
        exact absurd ⟨_, s, x1, l1, by rw [← y1]; exact z1⟩ (nT a ⟨l2, rfl⟩)
      · have := T.inj _ _ s t a x1 x2 l1 l2 (by rw [← y1]; exact z1) (by rw [← y2]; exact z2)
        split at this <;> split at this <;> omega
  · obtain ⟨j, s, e, l, y⟩ := z
    rcases fwd e with ⟨_, rfl, hv⟩ | ⟨_, h1, h2⟩
    · rw [hv] at y; cases y
      cases s with
      | own ds =>
        obtain ⟨a', xs, e, _, _, na, _⟩ := h
        cases e
        exact na (.inl q)
      | frz d => cases l
      | lent ds => exact h.elim
      | io ds => exact h.elim
      | scr ds => exact h.elim
    · exact T.dis a ⟨_, s, h1, l, by rw [← h2]; exact y⟩ (.inl q)
/-- one result that waits -/
theorem Rv.one {v : V} {r : SV} (D : Den K A env σ H1) (h : Rv K A env σ H0 H1 v r) : Den K A (env ++ [some r]) (σ ++ [some v]) H1 := by
  have Dw := Rv.wait D h
  refine Rv.join (ts := []) (us := []) D h Dw.post (by rw [List.append_nil, List.append_nil]; exact Dw) fun a ⟨j, s, e, _⟩ => by simp at e
end

/-! ### results stored -/
def putR (env : EV) (i : Nat) (r : SV) : Option EV := if storable env i = true then some (env.set i (some r)) else none
def putAll : List Nat → List SV → EV → Option EV
  | [], [], env => some env
  | i :: is, r :: rs, env => (putR env i r).bind fun env1 => putAll is rs env1
  | _, _, _ => none
def setAll : List Nat → List V → St → St
  | i :: is, v :: vs, σ => setAll is vs (σ.set i (some v))
  | _, _, σ => σ
theorem storable_lt {env : EV} {i : Nat} (h : storable env i = true) : i < env.length := by
  unfold storable at h
  split at h
  · cases h
  · rename_i e; exact (List.getElem?_eq_some_iff.mp e).1
  · cases h
theorem storable_io {env : EV} {i : Nat} (h : storable env i = true) (ds : List PyData) : env[i]? ≠ some (some (SV.io ds)) := fun e => by
  unfold storable at h
  rw [e] at h
  cases h
section
variable {K : PySem.W.Frag} {A : Addr → Prop} {env env0 env1 env2 : EV} {σ σ0 σ1 σ2 : St} {H H0 H1 H2 : Hp}
theorem Den.store {i : Nat} {r : SV} {v : V} {ts : EV} {us : St} (T : Den K A (env ++ some r :: ts) (σ ++ some v :: us) H) (hl : env.length = σ.length) (hi : i < env.length) : Den K A (env.set i (some r) ++ ts) (σ.set i (some v) ++ us) H := by
  have hlt : ts.length = us.length := by have := T.len; simp only [List.length_append, List.length_cons] at this; omega
  refine T.perm (fun j => if j = i then env.length else if j < env.length then j else j + 1) (by simp only [List.length_append, List.length_set]; omega) (fun j s e => ?_) (fun j k s t e1 e2 _ _ h => ?_)
  · by_cases hj : j = i
    · subst hj
      rw [if_pos rfl]
      rw [List.getElem?_append_left (by rw [List.length_set]; exact hi), List.getElem?_set_self hi] at e
      cases e
      rw [get_append_cons, if_neg (by omega), if_pos rfl, get_append_cons, if_neg (by omega), if_pos hl, List.getElem?_append_left (by rw [List.length_set]; omega), List.getElem?_set_self (by omega)]
      exact ⟨rfl, rfl⟩
    · rw [if_neg hj]
      by_cases hlt2 : j < env.length
      · rw [if_pos hlt2]
        rw [List.getElem?_append_left (by rw [List.length_set]; exact hlt2), List.getElem?_set_ne (Ne.symm hj)] at e
        rw [get_append_cons, if_pos hlt2, get_append_cons, if_pos (by omega), List.getElem?_append_left (by rw [List.length_set]; omega), List.getElem?_set_ne (Ne.symm hj)]
        exact ⟨e, rfl⟩
      · rw [if_neg hlt2]
        rw [List.getElem?_append_right (by rw [List.length_set]; omega), List.length_set] at e
        rw [get_append_cons, if_neg (by omega), if_neg (by omega), get_append_cons, if_neg (by omega), if_neg (by omega), List.getElem?_append_right (by rw [List.length_set]; omega), List.length_set]
        rw [show j + 1 - env.length - 1 = j - env.length by omega, show j + 1 - σ.length - 1 = j - σ.length by omega]
        exact ⟨e, rfl⟩
  · have h : (if j = i then env.length else if j < env.length then j else j + 1) = (if k = i then env.length else if k < env.length then k else k + 1) := h
    split at h <;> split at h <;> (try split at h) <;> (try split at h) <;> omega
/-- a store, as statements see it -/
theorem Bst.put {i : Nat} {r : SV} {v : V} (P : Bst env0 σ0 H0 env σ H1) (hr : r.res = true) (hn : ∀ b, tmpL r v b → H0 b = none) (hl : env.length = σ.length) (hs : storable env i = true) : Bst env0 σ0 H0 (env.set i (some r)) (σ.set i (some v)) H1 := by
  have hi := storable_lt hs
  have key : ∀ p : SV → Bool, (∀ s, p s = true → s.isLs = true) → ∀ a, AtS p (env.set i (some r)) (σ.set i (some v)) a → AtS p env σ a ∨ H0 a = none := fun p hp a ⟨j, s, e, l, z⟩ => by
    by_cases hj : j = i
    · subst hj
      rw [List.getElem?_set_self hi] at e
      rw [List.getElem?_set_self (by omega)] at z
      cases e; cases z
      exact .inr (hn a ⟨hp _ l, rfl⟩)
    · rw [List.getElem?_set_ne (Ne.symm hj)] at e z
      exact .inl ⟨j, s, e, l, z⟩
  have out : ∀ {j : Nat} {s : SV}, (env.set i (some r))[j]? = some (some s) → s.res = false → env[j]? = some (some s) ∧ (σ.set i (some v))[j]? = σ[j]? := fun {j s} e l => by
    by_cases hj : j = i
    · subst hj
      rw [List.getElem?_set_self hi] at e
      cases e
      rw [hr] at l; cases l
    · rw [List.getElem?_set_ne (Ne.symm hj)] at e ⊢
      exact ⟨e, rfl⟩
  refine ⟨by rw [List.length_set]; exact P.len, P.keep, fun a z => ?_, fun a z => ?_, fun a z => ?_, fun j es h => ?_, fun j ds h => ?_⟩
  · exact (key _ (fun s h => SV.ls_of_mut (SV.mut_of_own h)) a z).elim (P.own a) .inr
  · exact (key _ (fun s h => SV.ls_of_mut h) a z).elim (P.mt a) .inr
  · exact (key _ (fun s h => h) a z).elim (P.ls a) .inr
  · obtain ⟨h1, h2⟩ := out h rfl
    obtain ⟨h3, h4⟩ := P.io j es h1
    exact ⟨h3, h2.trans h4⟩
  · obtain ⟨h1, h2⟩ := out h rfl
    obtain ⟨h3, h4⟩ := P.lent j ds h1
    exact ⟨h3, h2.trans h4⟩
/-- all that wait are stored -/
theorem putAll_ok : ∀ {is : List Nat} {rs : List SV} {vs : List V} {env env2 : EV} {σ : St}, Bst env0 σ0 H0 env σ H → env.length = σ.length → rs.length = vs.length → (∀ r ∈ rs, r.res = true) → (∀ b, AtS SV.isLs (rs.map some) (vs.map some) b → H0 b = none) →
    Den K A (env ++ rs.map some) (σ ++ vs.map some) H → putAll is rs env = some env2 → PostS K A env0 σ0 H0 env2 (setAll is vs σ) H
  | [], [], [], env, env2, σ, B, hl, _, _, _, D, e => by
    cases e
    simp only [List.map_nil, List.append_nil] at D
    exact ⟨B, D⟩
  | [], r :: rs, _, _, _, _, _, _, _, _, _, _, e => by simp [putAll] at e
  | i :: is, [], _, _, _, _, _, _, _, _, _, _, e => by simp [putAll] at e
  | [], [], v :: vs, _, _, _, _, _, l, _, _, _, _ => by simp at l
  | i :: is, r :: rs, [], _, _, _, _, _, l, _, _, _, _ => by simp at l
  | i :: is, r :: rs, v :: vs, env, env2, σ, B, hl, l, hr, hn, D, e => by
    simp only [putAll] at e
    obtain ⟨env1, h1, e⟩ := Option.bind_eq_some_iff.mp e
    unfold putR at h1
    split at h1
    · rename_i hs
      cases h1
      simp only [List.map_cons] at D
      have D1 := D.store (i := i) hl (storable_lt hs)
      have B1 := B.put (r := r) (v := v) (hr r List.mem_cons_self) (fun b t => hn b (by rw [List.map_cons, List.map_cons]; exact AtS.cons.mpr (.inl t))) hl hs
      exact putAll_ok (is := is) (rs := rs) (vs := vs) (σ := σ.set i (some v)) B1 (by rw [List.length_set, List.length_set]; exact hl) (by simpa using l) (fun r h => hr r (List.mem_cons_of_mem _ h)) (fun b z => hn b (by rw [List.map_cons, List.map_cons]; exact AtS.cons.mpr (.inr z))) D1 e
    · cases h1
end

/-! ### several results in a row -/
def evRs : List Sm → EV → Res (List SV)
  | [], env => .mk [] env
  | s :: ss, env => (s.v env).bd fun r env1 => (evRs ss env1).bd fun rs env2 => .mk (r :: rs) env2
/-- results that wait -/
structure Wait (K : PySem.W.Frag) (A : Addr → Prop) (env : EV) (σ : St) (H H' : Hp) (vs : List V) (rs : List SV) : Prop where
  den : Den K A (env ++ rs.map some) (σ ++ vs.map some) H'
  new : ∀ b, AtS SV.isLs (rs.map some) (vs.map some) b → H b = none
  res : ∀ r ∈ rs, r.res = true
  len : rs.length = vs.length
def tRs (c : Ct) (ss : List Sm) : TA := fun σ H Q => ∃ A env, Den c.K A env σ H ∧ wp (evRs ss env) (fun rs env' => ∀ vs H', Post c.K A env σ H env' H' → Wait c.K A env' σ H H' vs rs → Q vs H') (XW c A env σ H)
/-- noStar es, each sound -/
inductive SndR (X : Cx) (W : WX) : List Expr → List Sm → Prop
  | nil : SndR X W [] []
  | cons {e : Expr} {es : List Expr} {s : Sm} {ss : List Sm} : noStar e = true → Snd X W e s → SndR X W es ss → SndR X W (e :: es) (s :: ss)
section
variable {X : Cx} {W : WX}
theorem SndR.pa : ∀ {es : List Expr} {ss : List Sm}, SndR X W es ss → PA X es (tRs (.ofX X W) ss)
  | _, _, .nil => PA.imp pa_nil fun σ H Q q => by
    obtain ⟨A, env, D, q⟩ := q
    exact q [] H D.post ⟨by simpa using D, fun b ⟨j, s, e, _⟩ => by simp at e, fun r h => (by cases h), rfl⟩
  | _, _, .cons (s := s) (ss := ss) n h t => PA.imp (pa_cons h.v t.pa (starEach_no n _ _)) fun σ H Q q => by
    obtain ⟨A, env, D, q⟩ := q
    simp only [evRs, wp_bd] at q
    refine ⟨A, env, D, q.imp (fun r env1 q v H1 P rv => ?_) fun _ _ z => z⟩
    have Dw := Rv.wait P.den rv
    refine ⟨_, env1, Dw, q.imp (fun rs env2 q vs H2 P2 w => ?_) fun x env2 z u dx H2 P2 ox => ?_⟩
    · have q : ∀ vs H', Post X.K A env σ H env2 H' → Wait X.K A env2 σ H H' vs (r :: rs) → Q vs H' := q
      have D2 : Den X.K A env2 σ H2 := by
        have d := P2.den
        exact ⟨d.len, fun j s e => by
          obtain ⟨u, hu, q⟩ := d.slot j s e
          exact ⟨u, hu, q.weak fun a z => z.elim (fun z => .inl (.inl z)) .inr⟩, d.inj, fun a q => d.amb a (.inl q), fun a z q => d.dis a z (.inl q)⟩
      refine q (v :: vs) H2 (P.trans ⟨P2.keep, D2, P2.sub⟩) ⟨?_, fun b z => ?_, fun x hx => ?_, by simpa using w.len⟩
      · rw [List.map_cons, List.map_cons]
        exact Rv.join P.den rv P2 w.den w.new
      · rw [List.map_cons, List.map_cons] at z
        rcases AtS.cons.mp z with z | z
        · exact rv.newL z
        · exact P.keep.new (w.new b z)
      · rcases List.mem_cons.mp hx with rfl | hx
        · exact rv.res
        · exact w.res x hx
    · have d := P2.den
      have D2 : Den X.K A env2 σ H2 := ⟨d.len, fun j s e => by
          obtain ⟨u, hu, q⟩ := d.slot j s e
          exact ⟨u, hu, q.weak fun a z => z.elim (fun z => .inl (.inl z)) .inr⟩, d.inj, fun a q => d.amb a (.inl q), fun a z q => d.dis a z (.inl q)⟩
      refine z u dx H2 (P.trans ⟨P2.keep, D2, P2.sub⟩) ?_
      obtain ⟨C, h1, h2, h3⟩ := ox
      refine ⟨C, h1, h2, ?_⟩
      cases hx : x.fld with
      | none => rw [hx] at h3; exact h3
      | some p =>
        rw [hx] at h3
        obtain ⟨a, w, e1, e2, e3⟩ := h3
        exact ⟨a, w, e1, e2, e3.weak fun a z => z.elim (fun z => .inl (.inl z)) .inr⟩
end

/-! ### assignments -/
def mSet (i : Nat) (s : Sm) : StS := fun env => (s.v env).bd fun r env1 => sure (putR env1 i r) fun env2 => .mk .nx env2
def mPar (is : List Nat) (ss : List Sm) : StS := fun env => (evRs ss env).bd fun rs env1 => sure (putAll is rs env1) fun env2 => .mk .nx env2
section
variable {X : Cx} {W : WX} {e : Expr} {s : Sm} {pos : Pos} {i : Nat}
theorem set_post {c : Ct} {D : Ends} {σ : St} {H : Hp} (q : tS c (mSet i s) D σ H) : tV c s σ H fun x H1 => gName i x σ H1 D.nx := by
  obtain ⟨A, env, De, q⟩ := q
  simp only [mSet, wp_bd] at q
  refine ⟨A, env, De, q.imp (fun r env1 q v H1 P rv => ?_) fun _ _ z => z.xw⟩
  obtain ⟨env2, e2, q⟩ := wp_sure q
  have q : EndS c A D env σ H .nx env2 := q
  refine q (σ.set i (some v)) H1 ?_
  have T := Rv.one P.den rv
  have := putAll_ok (is := [i]) (rs := [r]) (vs := [v]) P.bst P.den.len rfl (fun x hx => by rw [List.mem_singleton] at hx; rw [hx]; exact rv.res) (fun b z => ?_) T (by simp only [putAll]; rw [e2]; rfl)
  · exact this
  · rw [show [r].map some = some r :: [] from rfl, show [v].map some = some v :: [] from rfl] at z
    rcases AtS.cons.mp z with z | ⟨j, s, e, _⟩
    · exact rv.newL z
    · simp at e
theorem snd_set {x : Str} {p : Pos} (hN : X.N.Nodup) (hi : X.N[i]? = some x) (hx : Loc X.env.scope x) (hf : X.fn x = true ∨ X.env.scope.names.lookup x = some .local) (he : Snd X W e s) (hs : swapsWith e (some (.Name x p)) pos.line X.env = pure false) :
    SndS X W (.Assign [.Name x p] e pos) (mSet i s) := ⟨(ps_set hN hi hx he.v hs hf).imp fun D σ H q => set_post q⟩
/-- name = [..] on one line -/
theorem snd_setLc {y : Str} {py : Pos} {elt tg iter : Expr} {ifs : List Expr} {scope : Scope} {own : List (Str × Nat)} {spos : Pos} {src : Src} {t : Tg} {o : Option Sm} {e : Sm} (hc : X.calm = true) (hN : X.N.Nodup) (hy : X.N[i]? = some y) (hyl : X.env.scope.names.lookup y = some .local)
    (hsw : swapsWith (.ListComp elt [⟨tg, iter, ifs, 0⟩] scope pos) (some (.Name y py)) spos.line X.env = pure true) (hi : SndI X W tg iter src) (ok : BlkOk X.N X.env.scope scope own) (hts : ∀ i ∈ t.slots, i ∈ own.map (·.2))
    (hg : ∀ (s : Shared) (H : Hp) (C : Addr) (cl : List (Str × Addr)) (fp : List Addr), SndT (X.blk s H scope (compEnvC scope cl C X.env) fp) tg t)
    (ht : ∀ (s : Shared) (H : Hp) (C : Addr) (cl : List (Str × Addr)) (fp : List Addr), SndTst (X.blk s H scope (compEnvC scope cl C X.env) fp) WF ifs o)
    (he : ∀ (s : Shared) (H : Hp) (C : Addr) (cl : List (Str × Addr)) (fp : List Addr), Snd (X.blk s H scope (compEnvC scope cl C X.env) fp) WF elt e) (hs : ∀ x, foldedSetIterable iter X.env x = pure x) :
    SndS X W (.Assign [.Name y py] (.ListComp elt [⟨tg, iter, ifs, 0⟩] scope pos) spos) (mSet i (.of (vLc (own.map (·.2)) src t o e))) :=
  ⟨(ps_setLc (wi := tI (.ofX X W) src) (g := gT X.K t) (tt := tTo (Ct.inn (.ofX X W)) o) (te := tV (Ct.inn (.ofX X W)) e) hc hN hy hyl hsw hi.run ok (fun s H C cl fp => SndT.pg (X := X.blk s H scope (compEnvC scope cl C X.env) fp) hc hN (hg s H C cl fp)) (fun s H C cl fp => (ht s H C cl fp).run) (fun s H C cl fp => (he s H C cl fp).v) hs).imp
    fun D σ H q => tLc_of hts σ H _ (set_post q)⟩
theorem par_post {c : Ct} {D : Ends} {σ : St} {H : Hp} {is : List Nat} {ss : List Sm} (q : tS c (mPar is ss) D σ H) : tRs c ss σ H fun vs H1 => vs.length = is.length ∧ D.nx (setAll is vs σ) H1 := by
  obtain ⟨A, env, De, q⟩ := q
  simp only [mPar, wp_bd] at q
  refine ⟨A, env, De, q.imp (fun rs env1 q vs H1 P w => ?_) fun _ _ z => z.xw⟩
  obtain ⟨env2, e2, q⟩ := wp_sure q
  have q : EndS c A D env σ H .nx env2 := q
  refine ⟨?_, q _ H1 (putAll_ok P.bst P.den.len w.len w.res w.new w.den e2)⟩
  have : ∀ {is : List Nat} {rs : List SV} {env env2 : EV}, putAll is rs env = some env2 → rs.length = is.length := by
    intro is
    induction is with
    | nil => intro rs env env2 h; cases rs with
      | nil => rfl
      | cons r rs => simp [putAll] at h
    | cons i is ih => intro rs env env2 h; cases rs with
      | nil => simp [putAll] at h
      | cons r rs =>
        simp only [putAll] at h
        obtain ⟨env1, _, h⟩ := Option.bind_eq_some_iff.mp h
        rw [List.length_cons, List.length_cons, ih h]
  rw [← w.len, this e2]
theorem snd_par2 {x y : Str} {j : Nat} {a b : Expr} {sa sb : Sm} {px py pt : Pos} {kt k2 pt2} (hc : X.calm = true) (hN : X.N.Nodup) (hi : X.N[i]? = some x) (hj : X.N[j]? = some y) (hij : i ≠ j)
    (hx : X.env.scope.names.lookup x = some .local) (hy : X.env.scope.names.lookup y = some .local) (ha : SndR X W [a, b] [sa, sb])
    (hw : swappedStores [.Tuple [.Name x px, .Name y py] kt pt] (.Tuple [a, b] k2 pt2) X.env = pure (some [x, y])) :
    SndS X W (.Assign [.Tuple [.Name x px, .Name y py] kt pt] (.Tuple [a, b] k2 pt2) pos) (mPar [i, j] [sa, sb]) := ⟨(ps_par hc hN hi hj hij hx hy ha.pa hw).imp fun D σ H q => by
  obtain ⟨A, env, De, q⟩ := par_post q
  refine ⟨A, env, De, q.imp (fun rs env1 q vs H1 P w => ?_) fun _ _ z => z⟩
  obtain ⟨l, q⟩ := q vs H1 P w
  match vs, l, q with
  | [v, w], _, q => exact ⟨v, w, rfl, q⟩⟩
theorem snd_par3 {x y z : Str} {j l : Nat} {a b d : Expr} {sa sb sd : Sm} {px py pz pt : Pos} {kt k2 pt2} (hc : X.calm = true) (hN : X.N.Nodup) (hi : X.N[i]? = some x) (hj : X.N[j]? = some y) (hl : X.N[l]? = some z) (hij : i ≠ j) (hil : i ≠ l) (hjl : j ≠ l)
    (hx : X.env.scope.names.lookup x = some .local) (hy : X.env.scope.names.lookup y = some .local) (hz : X.env.scope.names.lookup z = some .local) (ha : SndR X W [a, b, d] [sa, sb, sd])
    (hw : swappedStores [.Tuple [.Name x px, .Name y py, .Name z pz] kt pt] (.Tuple [a, b, d] k2 pt2) X.env = pure (some [x, y, z])) :
    SndS X W (.Assign [.Tuple [.Name x px, .Name y py, .Name z pz] kt pt] (.Tuple [a, b, d] k2 pt2) pos) (mPar [i, j, l] [sa, sb, sd]) := ⟨(ps_par3 hc hN hi hj hl hij hil hjl hx hy hz ha.pa hw).imp fun D σ H q => by
  obtain ⟨A, env, De, q⟩ := par_post q
  refine ⟨A, env, De, q.imp (fun rs env1 q vs H1 P w => ?_) fun _ _ z => z⟩
  obtain ⟨l, q⟩ := q vs H1 P w
  match vs, l, q with
  | [u, v, w], _, q => exact ⟨u, v, w, rfl, q⟩⟩
end
end Tw
end STwN

section STwO
/-! Part O: lists in slots that change; stores through targets. -/
namespace Tw
open PySem PySem.Spec PyProof.Rows L2

/-- the items of a list that may change -/
def itemsM (env : EV) (i : Nat) : Option (List PyData) := match env[i]? with
  | some (some (.own ds)) => some ds
  | some (some (.io ds)) => some ds
  | _ => none
section
variable {K : PySem.W.Frag} {A : Addr → Prop} {env env1 env2 : EV} {σ σ1 σ2 : St} {H H0 H1 H2 : Hp} {i : Nat} {ds ds' : List PyData}
theorem itemsM_at (h : itemsM env i = some ds) : ∃ s, env[i]? = some (some s) ∧ s.isMut = true ∧ s.items = some ds := by
  unfold itemsM at h
  split at h
  · rename_i es e; cases h; exact ⟨_, e, rfl, rfl⟩
  · rename_i es e; cases h; exact ⟨_, e, rfl, rfl⟩
  · cases h
theorem reown_ex (h : reown env i ds' = some env1) : ∃ s t, env[i]? = some (some s) ∧ s.isMut = true ∧ env1 = env.set i (some t) ∧ Tr s t ∧ t.items = some ds' ∧ t.isMut = true := by
  unfold reown at h
  split at h
  · rename_i es e; cases h; exact ⟨_, _, e, rfl, rfl, .own _ _, rfl, rfl⟩
  · rename_i es e; cases h; exact ⟨_, _, e, rfl, rfl, .io _ _, rfl, rfl⟩
  · cases h
/-- the list of a slot is written -/
theorem Den.write (D : Den K A env σ H) {a : Addr} {xs ys : List V} (h : reown env i ds' = some env1) (hv : σ[i]? = some (some (V.ref a))) (ha : H a = some (.lst xs)) (r : Rps K H (Av A env σ) ys ds') : Post K A env σ H env1 (L2.upd H a (.lst ys)) := by
  obtain ⟨s, t, hs, ms, rfl, tr, ti, mt⟩ := reown_ex h
  have hi := (List.getElem?_eq_some_iff.mp hs).1
  have hav : Av A env σ a := .inr ⟨i, s, hs, SV.ls_of_mut ms, hv⟩
  have sub : Sub (env.set i (some t)) env := ⟨List.length_set, fun j u e => by
    rcases getElem?_set_some e with ⟨rfl, z⟩ | ⟨_, z⟩
    · cases z; exact ⟨s, hs, tr⟩
    · exact ⟨u, z, .refl u⟩⟩
  have k : Keep (fun b => b = a) H (L2.upd H a (.lst ys)) := .setLst rfl ha
  have mv : ∀ {vs : List V} {es : List PyData}, Rps K H (Av A env σ) vs es → Rps K (L2.upd H a (.lst ys)) (Av A (env.set i (some t)) σ) vs es := fun r => Rps.move k (fun b z => by rw [z]; exact hav) (fun b z => .inl (sub.av z)) r
  refine ⟨.setLst ⟨i, s, hs, ms, hv⟩ ha, ⟨sub.len.trans D.len, fun j u e => ?_, fun j l u w b e1 e2 l1 l2 z1 z2 => ?_, fun b q => ?_, fun b z => D.dis b (sub.own z)⟩, sub⟩
  · rcases getElem?_set_some e with ⟨rfl, z⟩ | ⟨n, z⟩
    · cases z
      exact ⟨_, hv, SlotOk.mk ti upd_same (mv r)⟩
    · obtain ⟨v, hv2, q⟩ := D.slot j u z
      refine ⟨v, hv2, SlotOk.move k (fun b z => by rw [z]; exact hav) (fun b z => .inl (sub.av z)) (fun l b e2 z2 => n ?_) q⟩
      exact D.inj j i u s b z hs l (SV.ls_of_mut ms) (by rw [hv2, e2]) (by rw [hv, z2])
  · have lsof : ∀ {j : Nat} {u : SV}, (env.set i (some t))[j]? = some (some u) → u.isLs = true → ∃ u', env[j]? = some (some u') ∧ u'.isLs = true := fun {j u} e l => by
      rcases getElem?_set_some e with ⟨rfl, z⟩ | ⟨_, z⟩
      · exact ⟨s, hs, SV.ls_of_mut ms⟩
      · exact ⟨u, z, l⟩
    obtain ⟨u', x1, y1⟩ := lsof e1 l1
    obtain ⟨w', x2, y2⟩ := lsof e2 l2
    exact D.inj j l u' w' b x1 x2 y1 y2 z1 z2
  · obtain ⟨zs, e⟩ := D.amb b q
    exact k.lst b zs e
theorem Sub.mutBack (h : Sub env1 env) {s : SV} (e : env1[i]? = some (some s)) (m : s.isMut = true) : ∃ t ds, env[i]? = some (some t) ∧ t.isMut = true ∧ t.items = some ds := by
  obtain ⟨t, e1, tr⟩ := h.back i s e
  cases tr with
  | own a b => exact ⟨_, _, e1, rfl, rfl⟩
  | io a b => exact ⟨_, _, e1, rfl, rfl⟩
  | _ => cases m
/-- data behind statements -/
theorem PostS.rp {v : V} {d : PyData} (P : PostS K A env σ H env1 σ1 H1) (r : Rp K H (Av A env σ) v d) : Rp K H1 (Av A env1 σ1) v d :=
  Rp.move P.st.keep (fun _ z => z.av) (fun a z => z.elim (fun z => .inl (.inl z)) fun z => (P.st.ls a z).elim (fun z => .inl (.inr z)) .inr) r
theorem PostS.rps {v : List V} {d : List PyData} (P : PostS K A env σ H env1 σ1 H1) (r : Rps K H (Av A env σ) v d) : Rps K H1 (Av A env1 σ1) v d :=
  Rps.move P.st.keep (fun _ z => z.av) (fun a z => z.elim (fun z => .inl (.inl z)) fun z => (P.st.ls a z).elim (fun z => .inl (.inr z)) .inr) r
end

/-! ### methods that change a list -/
def vApp (i : Nat) (s : Sm) : EV → Res SV := fun env => sure (itemsM env i) fun _ => (s.v env).bd fun r env1 => sure r.freeze fun d => sure (itemsM env1 i) fun ds =>
  if ds.length < sizeLine then sure (reown env1 i (ds ++ [d])) fun env2 => .mk (.frz .none) env2 else none
/-- xs.pop() -/
def vPop (i : Nat) : EV → Res SV := fun env => sure (itemsM env i) fun ds => sure ds[ds.length - 1]? fun d => sure (reown env i ds.dropLast) fun env1 => .mk (.frz d) env1
/-- xs.pop(k) -/
def vPopAt (i : Nat) (s : Sm) : EV → Res SV := fun env => sure (itemsM env i) fun _ => (s.v env).bd fun r env1 => match r with
  | .frz (.int k) => sure (itemsM env1 i) fun ds => if (-(2 ^ 63) ≤ k ∧ k < 2 ^ 63) then sure (seqIndex? k ds.length) fun j => sure ds[j]? fun d => sure (reown env1 i (ds.eraseIdx j)) fun env2 => .mk (.frz d) env2 else none
  | _ => none
section
variable {X : Cx} {W : WX} {e : Expr} {s : Sm} {i : Nat} {x : Str} {p apos cpos : Pos}
theorem meth_base (name : Str) : attributeBase (.Name x p) name X.env (eval (.Name x p) X.env) = eval (.Name x p) X.env := by rfl
theorem Rps.dropLast {K : PySem.W.Frag} {H : Hp} {B : Addr → Prop} {vs : List V} {ds : List PyData} (r : Rps K H B vs ds) : Rps K H B vs.dropLast ds.dropLast := by
  rw [List.dropLast_eq_take, List.dropLast_eq_take, r.length]
  exact r.take _
theorem pe_meth1 {T id : String} {name : Str} {r : V → List V → Hp → VK → Prop} {to : TE} {t : TA} (pa : PlainAttrs T) (slot : Slot T name id) (hty : typeOf (.builtin id) = pure (.type "method_descriptor")) (hm : MtR X id r) (ho : PE X (.Name x p) to) (ha : PA X [e] t)
    (n : noStar e = true) (hline : (apos.endLine == cpos.line) = true) : PE X (.Call (.Attribute (.Name x p) name apos) [e] [] cpos) (tBM X.K T r to t) :=
  pe_bm pa slot hty hm ho ha (meth_base name) (by rw [starEach_1 n]; rfl) hline (starEach_no n _ _) rfl
/-- a list in a slot, as a method's object -/
theorem Den.obj {K : PySem.W.Frag} {A : Addr → Prop} {env : EV} {σ : St} {H : Hp} {i : Nat} {ds : List PyData} (D : Den K A env σ H) (h : itemsM env i = some ds) :
    ∃ a xs, σ[i]? = some (some (V.ref a)) ∧ H a = some (.lst xs) ∧ Rps K H (Av A env σ) xs ds ∧ tyV K "list" (.ref a) H := by
  obtain ⟨s, h1, h2, h3⟩ := itemsM_at h
  obtain ⟨a, xs, hv, ha, r⟩ := D.list h1 h3
  exact ⟨a, xs, hv, ha, r, .inl ⟨rfl, xs, .of ha⟩⟩
theorem snd_app (hN : X.N[i]? = some x) (hv : Vis X.env.scope x) (hd : (x == ("__debug__" : Str)) = false) (hc : (x == ("__classdict__" : Str)) = false) (n : noStar e = true) (hline : (apos.endLine == cpos.line) = true) (he : Snd X W e s) :
    Snd X W (.Call (.Attribute (.Name x p) "append" apos) [e] [] cpos) (.of (vApp i s)) :=
  .of ((pe_meth1 PySem.F.plainAttrs_list PySem.F.slot_list_append PySem.F.type_list_append mt_append (pe_var hN hv hd hc) (pa_cons he.v pa_nil (starEach_no n _ _)) n hline).imp fun σ H Q q => by
    obtain ⟨A, env, D, q⟩ := q
    have q : wp (vApp i s env) _ _ := q
    simp only [vApp] at q
    obtain ⟨ds0, h0, q⟩ := wp_sure q
    obtain ⟨a, xs0, hv, ha0, _, ty⟩ := D.obj h0
    rw [wp_bd] at q
    refine ⟨_, hv, ty, A, env, D, q.imp (fun r env1 q v H1 P rv => ?_) fun _ _ z => z⟩
    obtain ⟨d, ed, q⟩ := wp_sure q
    obtain ⟨ds, h, q⟩ := wp_sure q
    split at q
    · rename_i hz
      obtain ⟨env2, h2, q⟩ := wp_sure q
      obtain ⟨a', xs, hv', ha, r, _⟩ := P.den.obj h
      rw [hv] at hv'; cases hv'
      have q : ∀ v H', Post X.K A env σ H env2 H' → Rv X.K A env2 σ H H' v (.frz .none) → Q v H' := q
      exact ⟨a, xs, v, rfl, rfl, ha, by rw [r.length]; exact hz, q _ _ (P.trans (P.den.write h2 hv ha (r.append (.one (rv.freeze ed))))) .non⟩
    · exact q.elim) rfl
theorem snd_pop (hN : X.N[i]? = some x) (hv : Vis X.env.scope x) (hd : (x == ("__debug__" : Str)) = false) (hc : (x == ("__classdict__" : Str)) = false) (hline : (apos.endLine == cpos.line) = true) :
    Snd X W (.Call (.Attribute (.Name x p) "pop" apos) [] [] cpos) (.of (vPop i)) :=
  .of ((pe_bm0 PySem.F.plainAttrs_list PySem.F.slot_list_pop PySem.F.type_list_pop mt_pop (pe_var hN hv hd hc) (meth_base _) hline).imp fun σ H Q q => by
    obtain ⟨A, env, D, q⟩ := q
    have q : wp (vPop i env) _ _ := q
    simp only [vPop] at q
    obtain ⟨ds, h0, q⟩ := wp_sure q
    obtain ⟨d, hd, q⟩ := wp_sure q
    obtain ⟨env1, h1, q⟩ := wp_sure q
    obtain ⟨a, xs, hv, ha, r, ty⟩ := D.obj h0
    have q : ∀ v H', Post X.K A env σ H env1 H' → Rv X.K A env1 σ H H' v (.frz d) → Q v H' := q
    obtain ⟨y, hy, ry⟩ := r.get hd
    have P := D.write h1 hv ha r.dropLast
    exact ⟨_, hv, ty, a, xs, y, rfl, rfl, ha, by rw [r.length]; exact hy, q _ _ P (Rp.move (P := fun b => b = a) (.setLst rfl ha) (fun b z => by rw [z]; obtain ⟨s, g1, g2, g3⟩ := itemsM_at h0; exact .inr ⟨i, s, g1, SV.ls_of_mut g2, hv⟩) (fun b z => .inl (P.sub.av z)) ry)⟩) rfl
theorem snd_popAt (hN : X.N[i]? = some x) (hv : Vis X.env.scope x) (hd : (x == ("__debug__" : Str)) = false) (hc : (x == ("__classdict__" : Str)) = false) (n : noStar e = true) (hline : (apos.endLine == cpos.line) = true) (he : Snd X W e s) :
    Snd X W (.Call (.Attribute (.Name x p) "pop" apos) [e] [] cpos) (.of (vPopAt i s)) :=
  .of ((pe_meth1 PySem.F.plainAttrs_list PySem.F.slot_list_pop PySem.F.type_list_pop mt_popAt (pe_var hN hv hd hc) (pa_cons he.v pa_nil (starEach_no n _ _)) n hline).imp fun σ H Q q => by
    obtain ⟨A, env, D, q⟩ := q
    have q : wp (vPopAt i s env) _ _ := q
    simp only [vPopAt] at q
    obtain ⟨ds0, h0, q⟩ := wp_sure q
    obtain ⟨a, xs0, hv, ha0, _, ty⟩ := D.obj h0
    rw [wp_bd] at q
    refine ⟨_, hv, ty, A, env, D, q.imp (fun r env1 q v H1 P rv => ?_) fun _ _ z => z⟩
    split at q
    · rename_i k
      obtain ⟨ds, h, q⟩ := wp_sure q
      split at q
      · rename_i hk
        obtain ⟨j, hj, q⟩ := wp_sure q
        obtain ⟨d, hd, q⟩ := wp_sure q
        obtain ⟨env2, h2, q⟩ := wp_sure q
        obtain ⟨a', xs, hv', ha, r, _⟩ := P.den.obj h
        rw [hv] at hv'; cases hv'
        have q : ∀ v H', Post X.K A env σ H env2 H' → Rv X.K A env2 σ H H' v (.frz d) → Q v H' := q
        obtain ⟨y, hy, ry⟩ := r.get hd
        have P2 := P.den.write h2 hv ha (r.eraseIdx j)
        have rv : Rp X.K H1 (Av A env1 σ) v (.int k) := rv
        cases rv
        exact ⟨a, xs, k, j, y, rfl, rfl, ha, hk.1, hk.2, by rw [r.length]; exact hj, hy, q _ _ (P.trans P2) (Rp.move (P := fun b => b = a) (.setLst rfl ha) (fun b z => by rw [z]; obtain ⟨s, g1, g2, g3⟩ := itemsM_at h; exact .inr ⟨i, s, g1, SV.ls_of_mut g2, hv⟩) (fun b z => .inl (P2.sub.av z)) ry)⟩
      · exact q.elim
    · exact q.elim) rfl
end

/-! ### targets of statements -/
mutual
inductive TgS where
  | name (i : Nat)
  | sub (i : Nat) (s : Sm)
  | tup (ts : TgSs)
inductive TgSs where
  | nil
  | cons (t : TgS) (ts : TgSs)
end
def TgSs.length : TgSs → Nat
  | .nil => 0
  | .cons _ ts => ts.length + 1
mutual
def asgS : TgS → PyData → EV → Option EV
  | .name i, d, env => putR env i (.frz d)
  | .sub i s, d, env => (itemsM env i).bind fun _ => match s.v env with
    | some (.ok (.frz (.int k)) env1) => (itemsM env1 i).bind fun ds => (ixN ds.length k).bind fun j => reown env1 i (ds.set j d)
    | _ => none
  | .tup ts, .tuple ds, env => asgSs ts ds env
  | .tup _, _, _ => none
def asgSs : TgSs → List PyData → EV → Option EV
  | .nil, [], env => some env
  | .cons t ts, d :: ds, env => (asgS t d env).bind fun env1 => asgSs ts ds env1
  | _, _, _ => none
end
theorem asgSs_len : ∀ {ts : TgSs} {ds : List PyData} {env env' : EV}, asgSs ts ds env = some env' → ds.length = ts.length
  | .nil, [], _, _, _ => rfl
  | .nil, _ :: _, _, _, h => by simp [asgSs] at h
  | .cons _ _, [], _, _, h => by simp [asgSs] at h
  | .cons t ts, d :: ds, env, env', h => by
    simp only [asgSs] at h
    obtain ⟨e1, _, h2⟩ := Option.bind_eq_some_iff.mp h
    show ds.length + 1 = ts.length + 1
    rw [asgSs_len h2]
def gS (K : PySem.W.Frag) (t : TgS) : TG := fun v σ H Q => ∃ A env d env', Den K A env σ H ∧ Rp K H (Av A env σ) v d ∧ asgS t d env = some env' ∧ ∀ σ' H', PostS K A env σ H env' σ' H' → Q σ' H'
def gSs (K : PySem.W.Frag) (t : TgSs) : TGs := fun vs σ H Q => ∃ A env ds env', Den K A env σ H ∧ Rps K H (Av A env σ) vs ds ∧ asgSs t ds env = some env' ∧ ∀ σ' H', PostS K A env σ H env' σ' H' → Q σ' H'
def noSlice : Expr → Bool
  | .Slice .. => false
  | _ => true
mutual
inductive SndTS (X : Cx) (W : WX) : Expr → TgS → Prop
  | name {x : Str} {p : Pos} {i : Nat} : X.N[i]? = some x → Loc X.env.scope x → (X.fn x = true ∨ X.env.scope.names.lookup x = some .local) → SndTS X W (.Name x p) (.name i)
  | sub {x : Str} {p pos : Pos} {i : Nat} {e : Expr} {s : Sm} : X.N[i]? = some x → Vis X.env.scope x → (x == ("__debug__" : Str)) = false → (x == ("__classdict__" : Str)) = false → noSlice e = true → Snd X W e s → SndTS X W (.Subscript (.Name x p) e pos) (.sub i s)
  | tup {es : List Expr} {k : Nat} {p : Pos} {ts : TgSs} : SndTSs X W es ts → SndTS X W (.Tuple es k p) (.tup ts)
inductive SndTSs (X : Cx) (W : WX) : List Expr → TgSs → Prop
  | nil : SndTSs X W [] .nil
  | cons {e : Expr} {es : List Expr} {t : TgS} {ts : TgSs} : SndTS X W e t → SndTSs X W es ts → SndTSs X W (e :: es) (.cons t ts)
end
section
variable {X : Cx} {W : WX}
theorem SndTSs.each : ∀ {es : List Expr} {ts : TgSs}, SndTSs X W es ts → (assignEach es X.env).length = ts.length ∧ (assignEach es X.env).findIdx? (·.1) = none
  | _, _, .nil => ⟨rfl, rfl⟩
  | _, _, .cons (es := es) h t => by
    obtain ⟨h1, h2⟩ := SndTSs.each t
    have one : ∀ (e : Expr) (tg : TgS), SndTS X W e tg → ∃ w, assignEach (e :: es) X.env = (false, w) :: assignEach es X.env := fun e tg h => by
      cases h with
      | name _ _ _ => exact ⟨_, rfl⟩
      | sub _ _ _ _ _ _ => exact ⟨_, rfl⟩
      | tup _ => exact ⟨_, rfl⟩
    obtain ⟨w, hw⟩ := one _ _ h
    rw [hw]
    refine ⟨by rw [List.length_cons, h1]; rfl, ?_⟩
    rw [List.findIdx?_cons]
    simp [h2]
theorem put_post {K : PySem.W.Frag} {A : Addr → Prop} {env env1 : EV} {σ : St} {H : Hp} {i : Nat} {v : V} {d : PyData} (D : Den K A env σ H) (r : Rp K H (Av A env σ) v d) (h : putR env i (.frz d) = some env1) : PostS K A env σ H env1 (σ.set i (some v)) H := by
  have rv : Rv K A env σ H H v (.frz d) := r
  refine putAll_ok (is := [i]) (rs := [.frz d]) (vs := [v]) .refl D.len rfl (fun x hx => by rw [List.mem_singleton] at hx; rw [hx]; rfl) (fun b z => ?_) (Rv.one D rv) (by simp only [putAll]; rw [h]; rfl)
  rw [show [SV.frz d].map some = some (SV.frz d) :: [] from rfl, show [v].map some = some v :: [] from rfl] at z
  rcases AtS.cons.mp z with z | ⟨j, s, e, _⟩
  · cases z.1
  · simp at e
theorem assign_sub {o i : Expr} {pos : Pos} {env : Env} (h : noSlice i = true) (v : Value) : assign (.Subscript o i pos) env v = (do
      let ov ← holding [v] (eval o env)
      let iv ← holding [v, ov] (eval i env)
      standAt pos
      holding [v, ov, iv] (setItem ov iv v)
      release [v, ov, iv] []) := by cases i <;> first | rfl | cases h
mutual
theorem SndTS.pg (hc : X.calm = true) (hN : X.N.Nodup) : ∀ {e : Expr} {t : TgS}, SndTS X W e t → PG X e (gS X.K t)
  | _, _, .name (i := i) h1 h2 h3 => PG.imp (pg_name hN h1 h2 h3) fun v σ H Q q => by
    obtain ⟨A, env, d, env', D, r, e, q⟩ := q
    exact q _ _ (put_post D r e)
  | _, _, .sub (i := i) (s := s) h1 h2 h3 h4 h5 h6 => by
    refine PG.imp (pg_sub (pe_var h1 h2 h3 h4) h6.v set_list (assign_sub h5)) fun v σ H Q q => ?_
    obtain ⟨A, env, d, env', D, r, e, q⟩ := q
    simp only [asgS] at e
    obtain ⟨ds0, g0, e⟩ := Option.bind_eq_some_iff.mp e
    obtain ⟨a, _, hv, _⟩ := D.obj g0
    split at e
    · rename_i k env1 hs
      obtain ⟨ds, g1, e⟩ := Option.bind_eq_some_iff.mp e
      obtain ⟨j, g2, e⟩ := Option.bind_eq_some_iff.mp e
      refine ⟨_, hv, A, env, D, ?_⟩
      rw [hs]
      intro w H1 P rv
      have rv : Rp X.K H1 (Av A env1 σ) w (.int k) := rv
      cases rv
      obtain ⟨a', xs, hv', ha, rs, _⟩ := P.den.obj g1
      rw [hv] at hv'; cases hv'
      refine ⟨a, xs, k, j, rfl, rfl, ha, by rw [rs.length]; exact g2, ?_⟩
      exact q _ _ (P.s.trans (P.den.write e hv ha (rs.set (P.rp r) j)).s)
    · cases e
  | _, _, .tup (ts := ts) h => by
    obtain ⟨h1, h2⟩ := h.each
    refine PG.imp (pg_tup hc (SndTSs.pgs hc hN h) h1 h2) fun v σ H Q q => ?_
    obtain ⟨A, env, d, env', D, r, e, q⟩ := q
    cases d with
    | tuple ds =>
      cases r with
      | tup hs rs =>
        have e : asgSs ts ds env = some env' := e
        exact ⟨_, _, rfl, hs, by rw [rs.length, asgSs_len e], A, env, ds, env', D, rs, e, q⟩
    | _ => simp [asgS] at e
theorem SndTSs.pgs (hc : X.calm = true) (hN : X.N.Nodup) : ∀ {es : List Expr} {ts : TgSs}, SndTSs X W es ts → PGs X es (gSs X.K ts)
  | _, _, .nil => PGs.imp pgs_nil fun vs σ H Q q => by
    obtain ⟨A, env, ds, env', D, r, e, q⟩ := q
    cases ds with
    | nil => cases r; cases e; exact ⟨rfl, q σ H D.s⟩
    | cons d ds => simp [asgSs] at e
  | _, _, .cons (e := e) (es := es) (t := t) (ts := ts) h g => by
    have hs : (assignEach (e :: es) X.env).map (·.2) = assign e X.env :: (assignEach es X.env).map (·.2) := by
      cases h with
      | name _ _ _ => rfl
      | sub _ _ _ _ _ _ => rfl
      | tup _ => rfl
    refine PGs.imp (pgs_cons (SndTS.pg hc hN h) (SndTSs.pgs hc hN g) hs) fun vs σ H Q q => ?_
    obtain ⟨A, env, ds, env', D, r, e, q⟩ := q
    cases ds with
    | nil => simp [asgSs] at e
    | cons d ds =>
      simp only [asgSs] at e
      obtain ⟨env1, e1, e2⟩ := Option.bind_eq_some_iff.mp e
      cases r with
      | cons r rs => exact ⟨_, _, rfl, A, env, d, env1, D, r, e1, fun σ1 H1 P => ⟨A, env1, ds, env', P.den, P.rps rs, e2, fun σ2 H2 P2 => q σ2 H2 (P.trans P2)⟩⟩
end
end
/-- targets = e: data, stored piece by piece -/
def mAsg (t : TgS) (s : Sm) : StS := fun env => (s.v env).bd fun r env1 => sure r.freeze fun d => sure (asgS t d env1) fun env2 => .mk .nx env2
theorem snd_asg {X : Cx} {W : WX} {tg e : Expr} {t : TgS} {s : Sm} {pos : Pos} (hc : X.calm = true) (hN : X.N.Nodup) (he : Snd X W e s) (hg : SndTS X W tg t) (hs : swapsWithSole [tg] e pos.line X.env = pure false) (hw : swappedStores [tg] e X.env = pure none) :
    SndS X W (.Assign [tg] e pos) (mAsg t s) := by
  have h1 : (assignEach [tg] X.env).map (·.2) = [assign tg X.env] := by
    cases hg with
    | name _ _ _ => rfl
    | sub _ _ _ _ _ _ => rfl
    | tup _ => rfl
  refine ⟨(ps_asg he.v (SndTS.pg hc hN hg) hs hw h1).imp fun D σ H q => ?_⟩
  obtain ⟨A, env, De, q⟩ := q
  simp only [mAsg, wp_bd] at q
  refine ⟨A, env, De, q.imp (fun r env1 q v H1 P rv => ?_) fun _ _ z => z.xw⟩
  obtain ⟨d, ed, q⟩ := wp_sure q
  obtain ⟨env2, e2, q⟩ := wp_sure q
  have q : EndS _ A D env σ H .nx env2 := q
  exact ⟨A, env1, d, env2, P.den, rv.freeze ed, e2, fun σ' H' P2 => q σ' H' (P.s.trans P2)⟩
end Tw
end STwO

section STwP
/-! Part P: loops. -/
namespace Tw
open PySem PySem.Spec PyProof.Rows L2

def Res.re {α : Type} (g : EV → EV) : Res α → Res α
  | some (.ok a env) => some (.ok a (g env))
  | some (.er x env) => some (.er x (g env))
  | none => none
theorem wp_re {α : Type} {g : EV → EV} {r : Res α} {k : α → EV → Prop} {w : Ex → EV → Prop} : wp (r.re g) k w = wp r (fun a env => k a (g env)) fun x env => w x (g env) := by
  cases r with
  | none => rfl
  | some o => cases o <;> rfl
def forGo (tg : Tg) (body : StS) : List PyData → StS
  | [], env => .mk .nx env
  | d :: r, env => sure (asgT tg d env) fun env1 => (body env1).bd fun f env2 => match f with
    | .nx => forGo tg body r env2
    | .ct => forGo tg body r env2
    | .bk => .mk .nx env2
    | .rt s => .mk (.rt s) env2
def mFor (src : Src) (tg : Tg) (body : StS) : StS := fun env => (src env).bd fun p env1 => (forGo tg body p.1 (lendS p.2 env1)).re (restS [] 0 env1)
def whGo (t : EV → Res Bool) (body : StS) : Nat → StS
  | 0, _ => none
  | n + 1, env => (t env).bd fun c env1 => if c = true then (body env1).bd fun f env2 => match f with
      | .nx => whGo t body n env2
      | .ct => whGo t body n env2
      | .bk => .mk .nx env2
      | .rt s => .mk (.rt s) env2
    else .mk .nx env1
open Classical in
noncomputable def mWhile (t : EV → Res Bool) (body : StS) : StS := fun env => if h : ∃ n, whGo t body n env ≠ none then whGo t body h.choose env else none
theorem bd_ne {α β : Type} {r : Res α} {f : α → EV → Res β} (h : r.bd f ≠ none) : (∃ a env, r = some (.ok a env) ∧ f a env ≠ none) ∨ ∃ x env, r = some (.er x env) := by
  cases r with
  | none => exact absurd rfl h
  | some o =>
    cases o with
    | ok a env => exact .inl ⟨a, env, rfl, h⟩
    | er x env => exact .inr ⟨x, env, rfl⟩
theorem whGo_succ {t : EV → Res Bool} {body : StS} : ∀ {n : Nat} {env : EV}, whGo t body n env ≠ none → whGo t body (n + 1) env = whGo t body n env
  | 0, _, h => absurd rfl h
  | n + 1, env, h => by
    unfold whGo at h
    rcases bd_ne h with ⟨c, env1, e, h⟩ | ⟨x, env1, e⟩
    · have l : whGo t body (n + 2) env = if c = true then (body env1).bd fun f env2 => match f with
        | .nx => whGo t body (n + 1) env2
        | .ct => whGo t body (n + 1) env2
        | .bk => .mk .nx env2
        | .rt s => .mk (.rt s) env2
        else .mk .nx env1 := by
          conv => lhs; unfold whGo
          rw [e]; rfl
      have r : whGo t body (n + 1) env = if c = true then (body env1).bd fun f env2 => match f with
        | .nx => whGo t body n env2
        | .ct => whGo t body n env2
        | .bk => .mk .nx env2
        | .rt s => .mk (.rt s) env2
        else .mk .nx env1 := by
          conv => lhs; unfold whGo
          rw [e]; rfl
      rw [l, r]
      cases c with
      | false => rfl
      | true =>
        simp only [if_true] at h ⊢
        rcases bd_ne h with ⟨f, env2, e2, h⟩ | ⟨x, env2, e2⟩
        · rw [e2]
          cases f with
          | nx => exact whGo_succ (n := n) h
          | ct => exact whGo_succ (n := n) h
          | bk => rfl
          | rt s => rfl
        · rw [e2]; rfl
    · conv => lhs; unfold whGo
      conv => rhs; unfold whGo
      rw [e]; rfl
theorem whGo_mono {t : EV → Res Bool} {body : StS} {n : Nat} {env : EV} (h : whGo t body n env ≠ none) : ∀ k, whGo t body (n + k) env = whGo t body n env
  | 0 => rfl
  | k + 1 => by
    have ih := whGo_mono h k
    rw [← Nat.add_assoc, whGo_succ (by rw [ih]; exact h), ih]
/-- a loop that ends at some number of turns -/
theorem mWhile_eq {t : EV → Res Bool} {body : StS} {n : Nat} {env : EV} (h : whGo t body n env ≠ none) : mWhile t body env = whGo t body n env := by
  have ex : ∃ n, whGo t body n env ≠ none := ⟨n, h⟩
  unfold mWhile
  rw [dif_pos ex]
  have hc := ex.choose_spec
  generalize ex.choose = m at hc
  rcases Nat.le_total m n with l | l
  · obtain ⟨k, rfl⟩ := Nat.exists_eq_add_of_le l
    exact (whGo_mono hc k).symm
  · obtain ⟨k, rfl⟩ := Nat.exists_eq_add_of_le l
    exact whGo_mono h k
theorem mWhile_ex {t : EV → Res Bool} {body : StS} {env : EV} {k : Fl → EV → Prop} {w : Ex → EV → Prop} (h : wp (mWhile t body env) k w) : ∃ n, wp (whGo t body n env) k w := by
  unfold mWhile at h
  split at h
  · exact ⟨_, h⟩
  · exact h.elim

section
variable {K : PySem.W.Frag} {A A' : Addr → Prop} {env env1 env2 : EV} {σ σ1 σ2 σ' : St} {H H1 H2 H' : Hp} {ls : List Nat}
theorem rest_back (hl : env1.length = env.length) {j : Nat} {s : SV} (h : (restS [] 0 env1 env)[j]? = some (some s)) : env[j]? = some (some s) ∨ ∃ ds es, s = .own ds ∧ env1[j]? = some (some (.own es)) ∧ env[j]? = some (some (.lent ds)) := by
  rcases restS_back hl h with ⟨m, _⟩ | ⟨_, h⟩ | ⟨_, h⟩
  · cases m
  · exact .inl h
  · exact .inr h
theorem rest_at (hl : env1.length = env.length) (p : SV → Bool) (hp : ∀ ds, p (.own ds) = true → p (.lent ds) = true) {a : Addr} (h : AtS p (restS [] 0 env1 env) σ a) : AtS p env σ a := by
  obtain ⟨j, s, e, l, z⟩ := h
  rcases rest_back hl e with e | ⟨ds, es, rfl, _, e⟩
  · exact ⟨j, s, e, l, z⟩
  · exact ⟨j, _, e, hp ds l, z⟩
theorem rest_av (hl : env1.length = env.length) {a : Addr} (h : Av A (restS [] 0 env1 env) σ a) : Av A env σ a := h.elim .inl fun z => .inr (rest_at hl _ (fun _ _ => rfl) z)
/-- what was lent is one's own again -/
theorem loop_den (D1 : Den K A env1 σ H1) (B : Bst (lendS ls env1) σ H1 env σ' H') (Dn : Den K A' env σ' H') (hA : ∀ z, A' z → A z ∨ ¬ AtS SV.isLs env σ' z) : Den K A' (restS [] 0 env1 env) σ' H' := by
  have hl : env1.length = env.length := by rw [B.len, lend_len]
  have at1 : ∀ a, AtS SV.isLs (restS [] 0 env1 env) σ' a → AtS SV.isLs env σ' a := fun a z => rest_at hl _ (fun _ _ => rfl) z
  have av : ∀ a, Av A' (restS [] 0 env1 env) σ' a → Av A' env σ' a := fun a z => rest_av hl z
  have lsof : ∀ {j : Nat} {s : SV}, (restS [] 0 env1 env)[j]? = some (some s) → s.isLs = true → ∃ s', env[j]? = some (some s') ∧ s'.isLs = true := fun {j s} e l => by
    rcases rest_back hl e with e | ⟨ds, es, rfl, _, e⟩
    · exact ⟨s, e, l⟩
    · exact ⟨_, e, rfl⟩
  refine ⟨by rw [restS_len hl]; exact Dn.len, fun j s e => ?_, fun i j s t a e1 e2 l1 l2 z1 z2 => ?_, Dn.amb, fun a ⟨j, s, e, l, z⟩ q => ?_⟩
  · rcases rest_back hl e with e | ⟨ds, es, rfl, _, e⟩
    · obtain ⟨v, hv, q⟩ := Dn.slot j s e
      exact ⟨v, hv, q.weak av⟩
    · obtain ⟨v, hv, q⟩ := Dn.slot j _ e
      exact ⟨v, hv, SlotOk.weak (s := .own ds) q av⟩
  · obtain ⟨s', x1, y1⟩ := lsof e1 l1
    obtain ⟨t', x2, y2⟩ := lsof e2 l2
    exact Dn.inj i j s' t' a x1 x2 y1 y2 z1 z2
  · rcases rest_back hl e with e | ⟨ds, es, rfl, e1, e⟩
    · exact Dn.dis a ⟨j, s, e, l, z⟩ q
    · rcases hA a q with q | q
      · have := (B.lent j ds e).2
        exact D1.dis a ⟨j, _, e1, rfl, by rw [← this]; exact z⟩ q
      · exact q ⟨j, _, e, rfl, z⟩
theorem loop_bst (D1 : Den K A env1 σ H1) (B : Bst (lendS ls env1) σ H1 env σ' H') : Bst env1 σ H1 (restS [] 0 env1 env) σ' H' := by
  have hl : env1.length = env.length := by rw [B.len, lend_len]
  have L := D1.lend ls
  have ownL : ∀ a, AtS SV.isOwn (lendS ls env1) σ a → AtS SV.isOwn env1 σ a := fun a ⟨j, s, e, l, z⟩ => by
    rcases @lend_at ls env1 j with e1 | ⟨es, _, _, e1⟩
    · exact ⟨j, s, by rw [← e1]; exact e, l, z⟩
    · rw [e1] at e; cases e; cases l
  refine ⟨by rw [restS_len hl, hl], B.keep.mono L.2.2, fun a ⟨j, s, e, l, z⟩ => ?_, fun a ⟨j, s, e, l, z⟩ => ?_, fun a z => ?_, fun j es h => ?_, fun j ds h => ?_⟩
  · rcases rest_back hl e with e | ⟨ds, es, rfl, e1, e⟩
    · exact (B.own a ⟨j, s, e, l, z⟩).elim (fun z => .inl (ownL a z)) .inr
    · exact .inl ⟨j, _, e1, rfl, by rw [← (B.lent j ds e).2]; exact z⟩
  · rcases rest_back hl e with e | ⟨ds, es, rfl, e1, e⟩
    · exact (B.mt a ⟨j, s, e, l, z⟩).elim (fun z => .inl (L.2.2 a z)) .inr
    · exact .inl ⟨j, _, e1, rfl, by rw [← (B.lent j ds e).2]; exact z⟩
  · exact (B.ls a (rest_at hl _ (fun _ _ => rfl) z)).elim (fun z => .inl ((L.2.1 a).mp z)) .inr
  · rcases rest_back hl h with e | ⟨ds, es, z, _⟩
    · obtain ⟨⟨ds, e1⟩, e2⟩ := B.io j es e
      refine ⟨⟨ds, ?_⟩, e2⟩
      rcases @lend_at ls env1 j with e3 | ⟨_, _, _, e3⟩
      · rw [← e3]; exact e1
      · rw [e3] at e1; cases e1
    · cases z
  · have h0 := h
    rcases rest_back hl h with e | ⟨_, _, z, _⟩
    · obtain ⟨e1, e2⟩ := B.lent j ds e
      refine ⟨?_, e2⟩
      rcases @lend_at ls env1 j with e3 | ⟨es, _, e4, e3⟩
      · rw [← e3]; exact e1
      · rw [restS_at hl, e4, e] at h0
        simp only [mergeS] at h0
        cases h0
    · cases z
theorem loop_post (D1 : Den K A env1 σ H1) (P : PostS K A (lendS ls env1) σ H1 env σ' H') : PostS K A env1 σ H1 (restS [] 0 env1 env) σ' H' :=
  ⟨loop_bst D1 P.st, loop_den D1 P.st P.den fun _ z => .inl z⟩
theorem loop_rt {v : V} {s : SV} (D1 : Den K A env1 σ H1) (B : Bst (lendS ls env1) σ H1 env σ' H') (r : Rt K A (lendS ls env1) σ H1 env σ' H' v s) : Rt K A env1 σ H1 (restS [] 0 env1 env) σ' H' v s := by
  have hl : env1.length = env.length := by rw [B.len, lend_len]
  cases s with
  | frz d => exact Rp.weak r fun a z => rest_av hl z
  | own ds =>
    obtain ⟨a, xs, e, n, ha, na, Da, rs⟩ := r
    refine ⟨a, xs, e, n.elim (fun ⟨j, s, e, l, z⟩ => ?_) .inr, ha, fun z => na (rest_av hl z), loop_den D1 B Da fun z q => q.elim .inl fun q => .inr fun y => na (.inr (by rw [← q]; exact y)), rs.weak fun b z => z.elim (fun z => .inl (rest_av hl z)) .inr⟩
    rcases @lend_at ls env1 j with e1 | ⟨es, _, _, e1⟩
    · exact .inl ⟨j, s, by rw [← e1]; exact e, l, z⟩
    · rw [e1] at e; cases e; cases l
  | lent ds => exact r
  | io ds => exact r
  | scr ds => exact r
theorem loop_end {c : Ct} {D : Ends} {f : Fl} {env0 : EV} {σ0 : St} {H0 : Hp} (P1 : PostS c.K A env0 σ0 H0 env1 σ H1) (h : EndS c A D env0 σ0 H0 f (restS [] 0 env1 env)) : EndS c A D (lendS ls env1) σ H1 f env := by
  cases f with
  | nx => exact fun σ' H' q => h σ' H' (P1.trans (loop_post P1.den q))
  | bk => exact fun σ' H' q => h σ' H' (P1.trans (loop_post P1.den q))
  | ct => exact fun σ' H' q => h σ' H' (P1.trans (loop_post P1.den q))
  | rt s => exact fun v σ' H' q r => h v σ' H' (P1.trans (loop_post P1.den q)) ((loop_rt P1.den q.st r).behind P1.st)
theorem loop_xw {c : Ct} {x : Ex} {env0 : EV} {σ0 : St} {H0 : Hp} (P1 : PostS c.K A env0 σ0 H0 env1 σ H1) (h : XWS c A env0 σ0 H0 x (restS [] 0 env1 env)) : XWS c A (lendS ls env1) σ H1 x env := fun u dx σ' H' q o => by
  have hl : env1.length = env.length := by rw [q.st.len, lend_len]
  refine h u dx σ' H' (P1.trans (loop_post P1.den q)) ?_
  obtain ⟨C, h1, h2, h3⟩ := o
  refine ⟨C, h1, h2, ?_⟩
  cases hx : x.fld with
  | none => rw [hx] at h3; exact h3
  | some p =>
    rw [hx] at h3
    obtain ⟨a, w, e1, e2, e3⟩ := h3
    exact ⟨a, w, e1, e2, e3.weak fun a z => rest_av hl z⟩
end
theorem snd_for {X : Cx} {W : WX} {tg iter : Expr} {body : List Stmt} {src : Src} {t : Tg} {m : StS} {pos : Pos} (hp : PassesOwn (model X.prog X.w) X.A X.env X.xe) (hc : X.calm = true) (hN : X.N.Nodup) (hi : SndI X W tg iter src) (hg : SndT X tg t) (hb : SndSs X W body m)
    (hs : ∀ x, foldedSetIterable iter X.env x = pure x) : SndS X W (.For tg iter body [] pos) (mFor src t m) := ⟨(ps_for hp hc hi.run (SndT.pg hc hN hg) hb.run hs).imp fun D σ H q => by
  obtain ⟨A, env0, D0, q⟩ := q
  simp only [mFor, wp_bd] at q
  refine ⟨A, env0, D0, q.imp (fun p env1 q J H1 P1 ok => ?_) fun _ _ z => z.xw⟩
  obtain ⟨items, ls⟩ := p
  dsimp only at q ok
  rw [wp_re] at q
  have L := P1.den.lend ls
  have q := q.imp (k' := EndS (.ofX X W) A D (lendS ls env1) σ H1) (fun f env z => loop_end P1.s z) (w' := XWS (.ofX X W) A (lendS ls env1) σ H1) fun x env z => loop_xw P1.s z
  refine ⟨fun i m' σ' H' => m' = items.length - i ∧ i ≤ items.length ∧ ∃ env, PostS X.K A (lendS ls env1) σ H1 env σ' H' ∧ wp (forGo t m (items.drop i) env) (EndS (.ofX X W) A D (lendS ls env1) σ H1) (XWS (.ofX X W) A (lendS ls env1) σ H1),
    ⟨items.length, by simp, Nat.zero_le _, _, L.1.s, q⟩, ?_⟩
  rintro i m' σ' H' ⟨rfl, hi, env, P, q⟩
  have okH := ok H' P.st.keep i
  by_cases hlt : i < items.length
  · obtain ⟨go, yld⟩ := okH.1 hlt
    refine .inr ⟨go, fun σ2 H2 => i + 1 ≤ items.length ∧ ∃ env, PostS X.K A (lendS ls env1) σ H1 env σ2 H2 ∧ wp (forGo t m (items.drop (i + 1)) env) (EndS (.ofX X W) A D (lendS ls env1) σ H1) (XWS (.ofX X W) A (lendS ls env1) σ H1),
      fun σ2 H2 h2 => ⟨items.length - (i + 1), by omega, rfl, h2.1, h2.2⟩, fun x H2 y => ?_⟩
    obtain ⟨g2, d, hd, rd⟩ := yld x H2 y
    have hdrop : items.drop i = d :: items.drop (i + 1) := by
      have : items[i] = d := by
        rw [List.getElem?_eq_getElem hlt] at hd; exact Option.some.inj hd
      rw [List.drop_eq_getElem_cons hlt, this]
    rw [hdrop] at q
    simp only [forGo] at q
    obtain ⟨env2, e2, q⟩ := wp_sure q
    rw [wp_bd] at q
    have D2 := P.den.grow g2
    have G : PostS X.K A (lendS ls env1) σ H1 env σ' H2 := P.trans (P.den.post.grow g2).s
    have r2 : Rp X.K H2 (Av A env σ') x d := rd _ fun a z => z.elim (fun z => .inl (.inl z)) fun z => (P.st.ls a z).elim (fun z => .inl (.inr ((L.2.1 a).mp z))) .inr
    refine ⟨A, env, d, env2, D2, r2, e2, fun σ2 T => ?_⟩
    have PT : PostS X.K A (lendS ls env1) σ H1 env2 σ2 H2 := G.trans ⟨T.bst (asgT_len e2), T.den⟩
    refine ⟨A, env2, T.den, q.imp (fun f env3 q => ?_) fun x env3 z => z.behind PT⟩
    cases f with
    | nx => exact fun σ3 H3 P3 => ⟨hlt, env3, PT.trans P3, q⟩
    | ct => exact fun σ3 H3 P3 => ⟨hlt, env3, PT.trans P3, q⟩
    | bk =>
      have q : EndS (.ofX X W) A D (lendS ls env1) σ H1 .nx env3 := q
      exact fun σ3 H3 P3 => q σ3 H3 (PT.trans P3)
    | rt s =>
      have q : EndS (.ofX X W) A D (lendS ls env1) σ H1 (.rt s) env3 := q
      exact fun v σ3 H3 P3 r => q v σ3 H3 (PT.trans P3) (r.behind PT.st)
  · have ei : i = items.length := by omega
    subst ei
    rw [List.drop_length] at q
    have q : EndS (.ofX X W) A D (lendS ls env1) σ H1 .nx env := q
    exact .inl ⟨okH.2 (Nat.le_refl _), q σ' H' P⟩⟩
theorem snd_while {X : Cx} {W : WX} {t : Expr} {s : Sm} {body : List Stmt} {m : StS} {pos : Pos} (hp : PassesOwn (model X.prog X.w) X.A X.env X.xe) (ht : Snd X W t s) (hb : SndSs X W body m) : SndS X W (.While t body [] pos) (mWhile s.t m) := ⟨(ps_while hp ht.t hb.run).imp fun D σ H q => by
  obtain ⟨A, env0, D0, q⟩ := q
  obtain ⟨n, q⟩ := mWhile_ex q
  refine ⟨fun n σ' H' => ∃ env, PostS X.K A env0 σ H env σ' H' ∧ wp (whGo s.t m n env) (EndS (.ofX X W) A D env0 σ H) (XWS (.ofX X W) A env0 σ H), ⟨n, env0, D0.s, q⟩, ?_⟩
  rintro n σ' H' ⟨env, P, q⟩
  cases n with
  | zero => exact q.elim
  | succ n =>
    unfold whGo at q
    rw [wp_bd] at q
    refine ⟨A, env, P.den, q.imp (fun c env1 q H1 P1 => ?_) fun x env1 z => (z.behind P).xw⟩
    have PP := P.trans P1.s
    cases c with
    | false =>
      simp only [Bool.false_eq_true, if_false] at q ⊢
      have q : EndS (.ofX X W) A D env0 σ H .nx env1 := q
      exact q σ' H1 PP
    | true =>
      simp only [if_true] at q ⊢
      rw [wp_bd] at q
      refine ⟨fun σ2 H2 => ∃ env, PostS X.K A env0 σ H env σ2 H2 ∧ wp (whGo s.t m n env) (EndS (.ofX X W) A D env0 σ H) (XWS (.ofX X W) A env0 σ H), fun σ2 H2 h => ⟨n, Nat.lt_succ_self n, h⟩, A, env1, P1.den, q.imp (fun f env2 q => ?_) fun x env2 z => z.behind PP⟩
      cases f with
      | nx => exact fun σ3 H3 P3 => ⟨env2, PP.trans P3, q⟩
      | ct => exact fun σ3 H3 P3 => ⟨env2, PP.trans P3, q⟩
      | bk =>
        have q : EndS (.ofX X W) A D env0 σ H .nx env2 := q
        exact fun σ3 H3 P3 => q σ3 H3 (PP.trans P3)
      | rt s' =>
        have q : EndS (.ofX X W) A D env0 σ H (.rt s') env2 := q
        exact fun v σ3 H3 P3 r => q v σ3 H3 (PP.trans P3) (r.behind PP.st)⟩
end Tw
end STwP

section STwQ
/-! Part Q: a def by its body. -/
namespace Tw
open PySem PySem.Spec PyProof.Rows L2

/-- what the arguments' slots hold behind a call: a list that the caller lets change may have changed -/
def pBack : List SV → EV → Option EV
  | [], _ => some []
  | .io _ :: r, some (.io es) :: e => (pBack r e).map (some (.io es) :: ·)
  | .io _ :: _, _ => none
  | s :: r, _ :: e => (pBack r e).map (some s :: ·)
  | _ :: _, [] => none
/-- the meaning of a def: n names in all -/
def defC (n : Nat) (m : StS) : CallSem := fun svs => match m (svs.map some ++ List.replicate (n - svs.length) none) with
  | some (.ok .nx env) => sure (pBack svs env) fun p => .mk (.frz .none) p
  | some (.ok (.rt r) env) => sure (pBack svs env) fun p => .mk r p
  | some (.er x env) => sure (pBack svs env) fun p => some (.er x p)
  | _ => none
theorem pBack_at : ∀ {svs : List SV} {env p : EV}, pBack svs env = some p → p.length = svs.length ∧ ∀ (i : Nat) (s : SV), svs[i]? = some s → (∃ ds es, s = .io ds ∧ env[i]? = some (some (.io es)) ∧ p[i]? = some (some (.io es))) ∨ ((∀ ds, s ≠ .io ds) ∧ p[i]? = some (some s))
  | [], env, p, h => by cases h; exact ⟨rfl, fun i s h => by simp at h⟩
  | .io ds :: r, env, p, h => by
    cases env with
    | nil => simp [pBack] at h
    | cons e env =>
      unfold pBack at h
      split at h
      · cases ‹_ = []›
      · rename_i r' es env' h1 h2
        cases h1; cases h2
        obtain ⟨q, hq, e⟩ := Option.map_eq_some_iff.mp h
        subst e
        obtain ⟨l, hh⟩ := pBack_at hq
        refine ⟨by simp [l], fun i s hs => ?_⟩
        cases i with
        | zero => simp at hs; subst hs; exact .inl ⟨ds, es, rfl, rfl, rfl⟩
        | succ i => simpa using hh i s (by simpa using hs)
      · cases h
      · rename_i h1 h2 h3
        cases h2
        exact absurd rfl (h1 ds)
      · cases h
  | .frz d :: r, env, p, h => by
    cases env with
    | nil => simp [pBack] at h
    | cons e env =>
      simp only [pBack] at h
      obtain ⟨q, hq, e⟩ := Option.map_eq_some_iff.mp h
      subst e
      obtain ⟨l, hh⟩ := pBack_at hq
      refine ⟨by simp [l], fun i s hs => ?_⟩
      cases i with
      | zero => simp at hs; subst hs; exact .inr ⟨(fun _ z => by cases z), rfl⟩
      | succ i => simpa using hh i s (by simpa using hs)
  | .own d :: r, env, p, h => by
    cases env with
    | nil => simp [pBack] at h
    | cons e env =>
      simp only [pBack] at h
      obtain ⟨q, hq, e⟩ := Option.map_eq_some_iff.mp h
      subst e
      obtain ⟨l, hh⟩ := pBack_at hq
      refine ⟨by simp [l], fun i s hs => ?_⟩
      cases i with
      | zero => simp at hs; subst hs; exact .inr ⟨(fun _ z => by cases z), rfl⟩
      | succ i => simpa using hh i s (by simpa using hs)
  | .lent d :: r, env, p, h => by
    cases env with
    | nil => simp [pBack] at h
    | cons e env =>
      simp only [pBack] at h
      obtain ⟨q, hq, e⟩ := Option.map_eq_some_iff.mp h
      subst e
      obtain ⟨l, hh⟩ := pBack_at hq
      refine ⟨by simp [l], fun i s hs => ?_⟩
      cases i with
      | zero => simp at hs; subst hs; exact .inr ⟨(fun _ z => by cases z), rfl⟩
      | succ i => simpa using hh i s (by simpa using hs)
  | .scr d :: r, env, p, h => by
    cases env with
    | nil => simp [pBack] at h
    | cons e env =>
      simp only [pBack] at h
      obtain ⟨q, hq, e⟩ := Option.map_eq_some_iff.mp h
      subst e
      obtain ⟨l, hh⟩ := pBack_at hq
      refine ⟨by simp [l], fun i s hs => ?_⟩
      cases i with
      | zero => simp at hs; subst hs; exact .inr ⟨(fun _ z => by cases z), rfl⟩
      | succ i => simpa using hh i s (by simpa using hs)
section
variable {K : PySem.W.Frag} {A A' Ap : Addr → Prop} {svs : List SV} {vs : List V} {env' p : EV} {σ' : St} {H H' : Hp}
theorem map_some_get {α : Type} {l : List α} {i : Nat} {x : α} : (l.map some)[i]? = some (some x) ↔ l[i]? = some x := by
  rw [List.getElem?_map]
  cases l[i]? with
  | none => simp
  | some y => simp
/-- at the def's entry -/
theorem Den.entry (D : Den K A (svs.map some) (vs.map some) H) (no : ∀ s ∈ svs, s.isOwn = false) (n : Nat) (N : List Str) (hn : n = N.length) :
    Den K (Av A (svs.map some) (vs.map some)) (svs.map some ++ List.replicate (n - svs.length) none) (L2.start N vs) H ∧ (∀ p a, AtS p (svs.map some ++ List.replicate (n - svs.length) none) (L2.start N vs) a ↔ AtS p (svs.map some) (vs.map some) a) := by
  have hl : svs.length = vs.length := by have := D.len; simpa using this
  unfold L2.start
  rw [hn, hl]
  have fwd : ∀ {j : Nat} {s : SV}, (svs.map some ++ List.replicate (N.length - vs.length) none)[j]? = some (some s) → j < svs.length ∧ (svs.map some)[j]? = some (some s) := fun {j s} e => by
    by_cases h : j < svs.length
    · rw [List.getElem?_append_left (by simpa using h)] at e
      exact ⟨h, e⟩
    · rw [List.getElem?_append_right (by simpa using h), List.getElem?_replicate] at e
      split at e <;> cases e
  have at' : ∀ p a, AtS p (svs.map some ++ List.replicate (N.length - vs.length) none) (vs.map some ++ List.replicate (N.length - vs.length) none) a ↔ AtS p (svs.map some) (vs.map some) a := fun p a => by
    constructor
    · rintro ⟨j, s, e, l, z⟩
      obtain ⟨hj, e⟩ := fwd e
      rw [List.getElem?_append_left (by simpa [← hl] using hj)] at z
      exact ⟨j, s, e, l, z⟩
    · rintro ⟨j, s, e, l, z⟩
      have hj := (List.getElem?_eq_some_iff.mp e).1
      exact ⟨j, s, by rw [List.getElem?_append_left hj]; exact e, l, by rw [List.getElem?_append_left (by simpa [← hl] using hj)]; exact z⟩
  refine ⟨⟨by simp [hl], fun j s e => ?_, fun i j s t a e1 e2 l1 l2 z1 z2 => ?_, fun a q => D.tracked q, fun a z q => ?_⟩, at'⟩
  · obtain ⟨hj, e⟩ := fwd e
    obtain ⟨v, hv, q⟩ := D.slot j s e
    refine ⟨v, by rw [List.getElem?_append_left (by simpa [← hl] using hj)]; exact hv, q.weak fun a z => ?_⟩
    rcases z with z | z
    · exact z
    · exact .inr ((at' _ a).mp z)
  · obtain ⟨hi, e1⟩ := fwd e1
    obtain ⟨hj, e2⟩ := fwd e2
    rw [List.getElem?_append_left (by simpa [← hl] using hi)] at z1
    rw [List.getElem?_append_left (by simpa [← hl] using hj)] at z2
    exact D.inj i j s t a e1 e2 l1 l2 z1 z2
  · obtain ⟨j, s, e, l, _⟩ := (at' _ a).mp z
    rw [no s (List.mem_of_getElem? (map_some_get.mp e))] at l
    cases l
/-- .. and behind it -/
theorem pBack_den {n : Nat} {N : List Str} (D : Den K A (svs.map some) (vs.map some) H) (no : ∀ s ∈ svs, s.isOwn = false) (hn : n = N.length) (B : Bst (svs.map some ++ List.replicate (n - svs.length) none) (L2.start N vs) H env' σ' H')
    (Dn : Den K A' env' σ' H') (hA : ∀ z, Av A (svs.map some) (vs.map some) z → A' z) (h1 : ∀ z, Ap z → A' z) (h2 : ∀ z, Ap z → Av A (svs.map some) (vs.map some) z ∨ H z = none) (e : pBack svs env' = some p) :
    Den K Ap p (vs.map some) H' ∧ (∀ a, AtS SV.isLs p (vs.map some) a → AtS SV.isLs (svs.map some) (vs.map some) a) ∧ Keep (Mt (svs.map some) (vs.map some)) H H' := by
  obtain ⟨hp, at1⟩ := pBack_at e
  obtain ⟨De, at0⟩ := D.entry no n N hn
  have hl : svs.length = vs.length := by have := D.len; simpa using this
  have keep : Keep (Mt (svs.map some) (vs.map some)) H H' := B.keep.mono fun a z => (at0 _ a).mp z
  -- a slot of p
  have back : ∀ {i : Nat} {s : SV}, p[i]? = some (some s) → ∃ s0, svs[i]? = some s0 ∧ s0.isLs = s.isLs ∧ ((∃ es, s = .io es ∧ env'[i]? = some (some (.io es)) ∧ σ'[i]? = (vs.map some)[i]?) ∨ (s0 = s ∧ ∀ ds, s ≠ .io ds)) ∧ (s.isOwn = false) := fun {i s} h => by
    have hi : i < svs.length := by rw [← hp]; exact (List.getElem?_eq_some_iff.mp h).1
    obtain ⟨s0, h0⟩ := lt_get hi
    rcases at1 i s0 h0 with ⟨ds, es, rfl, x1, x2⟩ | ⟨ni, x2⟩
    · rw [h] at x2; cases x2
      refine ⟨_, h0, rfl, .inl ⟨es, rfl, x1, ?_⟩, rfl⟩
      rw [(B.io i es x1).2]
      unfold L2.start
      rw [List.getElem?_append_left (by simpa [← hl] using hi)]
    · rw [h] at x2; cases x2
      exact ⟨_, h0, rfl, .inr ⟨rfl, ni⟩, no _ (List.mem_of_getElem? h0)⟩
  have at2 : ∀ a, AtS SV.isLs p (vs.map some) a → AtS SV.isLs (svs.map some) (vs.map some) a := fun a ⟨i, s, h, l, z⟩ => by
    obtain ⟨s0, h0, l0, _⟩ := back h
    exact ⟨i, s0, map_some_get.mpr h0, by rw [l0]; exact l, z⟩
  have avA : ∀ a, Av Ap p (vs.map some) a → A' a := fun a z => z.elim (h1 a) fun z => hA a (.inr (at2 a z))
  have av2 : ∀ a, Av Ap p (vs.map some) a → Av A (svs.map some) (vs.map some) a ∨ H a = none := fun a z => z.elim (h2 a) fun z => .inl (.inr (at2 a z))
  refine ⟨⟨by simp [hp, hl], fun i s h => ?_, fun i j s t a e1 e2 l1 l2 z1 z2 => ?_, fun a q => Dn.amb a (h1 a q), fun a ⟨i, s, h, l, z⟩ => ?_⟩, at2, keep⟩
  · obtain ⟨s0, h0, l0, ⟨es, rfl, x1, x2⟩ | ⟨rfl, ni⟩, _⟩ := back h
    · obtain ⟨v, hv, q⟩ := Dn.slot i _ x1
      exact ⟨v, by rw [← x2]; exact hv, SlotOk.weak (s := .io es) q fun a z => .inl (avA a z)⟩
    · obtain ⟨v, hv, q⟩ := D.slot i _ (map_some_get.mpr h0)
      refine ⟨v, hv, SlotOk.move keep (fun a z => z.av) av2 (fun l a ev z => ?_) q⟩
      obtain ⟨j, t, ht, mt, zt⟩ := z
      have : i = j := D.inj i j s0 t a (map_some_get.mpr h0) ht l (SV.ls_of_mut mt) (by rw [hv, ev]) zt
      subst this
      rw [map_some_get.mpr h0] at ht; cases ht
      cases s0 with
      | own ds => have := no _ (List.mem_of_getElem? h0); cases this
      | io ds => exact ni ds rfl
      | _ => cases mt
  · obtain ⟨s0, x1, y1, _⟩ := back e1
    obtain ⟨t0, x2, y2, _⟩ := back e2
    exact D.inj i j s0 t0 a (map_some_get.mpr x1) (map_some_get.mpr x2) (by rw [y1]; exact l1) (by rw [y2]; exact l2) z1 z2
  · obtain ⟨_, _, _, _, o⟩ := back h
    rw [o] at l; cases l
end
theorem defC_ends {K : PySem.W.Frag} {mg : Str → Option Value} {A : Addr → Prop} {svs : List SV} {vs : List V} {H : Hp} {m : StS} {N : List Str} {Q : VK} {E : XK} (D : Den K A (svs.map some) (vs.map some) H) (no : ∀ s ∈ svs, s.isOwn = false)
    (q : wp (defC N.length m svs) (fun r p => ∀ v H', Keep (Mt (svs.map some) (vs.map some)) H H' → Den K A p (vs.map some) H' → Rv K A p (vs.map some) H H' v r → Q v H')
      (fun x p => ∀ u dx H', Keep (Mt (svs.map some) (vs.map some)) H H' → Den K A p (vs.map some) H' → ExOk ⟨K, mg, fun _ _ _ _ => False⟩ H' (Av A p (vs.map some)) x u dx → E u dx H')) :
    tS ⟨K, mg, fun u d _ H' => E u d H'⟩ m { nx := fun _ H' => Q .non H', rt := Q } (L2.start N vs) H := by
  obtain ⟨De, at0⟩ := D.entry no N.length N rfl
  have hl : svs.length = vs.length := by have := D.len; simpa using this
  refine ⟨_, _, De, ?_⟩
  unfold defC at q
  -- what a def leaves
  have fin : ∀ {env' : EV} {σ' : St} {H' : Hp} {p : EV}, PostS K (Av A (svs.map some) (vs.map some)) (svs.map some ++ List.replicate (N.length - svs.length) none) (L2.start N vs) H env' σ' H' → pBack svs env' = some p →
      Den K A p (vs.map some) H' ∧ Keep (Mt (svs.map some) (vs.map some)) H H' ∧ ∀ a, Av A p (vs.map some) a → Av (Av A (svs.map some) (vs.map some)) env' σ' a := fun {env' σ' H' p} P e => by
    obtain ⟨h1, h2, h3⟩ := pBack_den (Ap := A) D no rfl P.st P.den (fun z h => h) (fun z h => .inl h) (fun z h => .inl (.inl h)) e
    exact ⟨h1, h3, fun a z => .inl (z.elim .inl fun z => .inr (h2 a z))⟩
  split at q
  · rename_i env' he
    obtain ⟨p, hp, q⟩ := wp_sure q
    rw [he]
    intro σ' H' P
    obtain ⟨h1, h2, _⟩ := fin P hp
    exact q _ H' h2 h1 .non
  · rename_i r env' he
    obtain ⟨p, hp, q⟩ := wp_sure q
    rw [he]
    intro v σ' H' P rt
    obtain ⟨h1, h2, h3⟩ := fin P hp
    refine q v H' h2 h1 ?_
    cases r with
    | frz d => exact Rp.weak rt h3
    | own ds =>
      obtain ⟨a, xs, ev, n, ha, na, Da, rs⟩ := rt
      have nn : H a = none := n.elim (fun z => by
        obtain ⟨j, s, e, l, _⟩ := (at0 _ a).mp z
        rw [no s (List.mem_of_getElem? (map_some_get.mp e))] at l; cases l) id
      obtain ⟨g1, _, _⟩ := pBack_den (Ap := fun b => A b ∨ b = a) D no rfl P.st Da (fun z h => .inl h) (fun z h => h.elim (fun h => .inl (.inl h)) .inr) (fun z h => h.elim (fun h => .inl (.inl h)) fun h => .inr (by rw [h]; exact nn)) hp
      exact ⟨a, xs, ev, nn, ha, fun z => na (h3 a z), g1, rs.weak fun b z => z.elim (fun z => .inl (h3 b z)) .inr⟩
    | lent ds => exact rt
    | io ds => exact rt
    | scr ds => exact rt
  · rename_i x env' he
    obtain ⟨p, hp, q⟩ := wp_sure q
    rw [he]
    intro u dx σ' H' P o
    obtain ⟨h1, h2, h3⟩ := fin P hp
    refine q u dx H' h2 h1 ?_
    obtain ⟨C, g1, g2, g3⟩ := o
    refine ⟨C, g1, g2, ?_⟩
    cases hx : x.fld with
    | none => rw [hx] at g3; exact g3
    | some f =>
      rw [hx] at g3
      obtain ⟨a, w, e1, e2, e3⟩ := g3
      exact ⟨a, w, e1, e2, e3.weak h3⟩
  · exact q.elim
/-- the wish of a def's body -/
abbrev WD (E : XK) : WX := fun u d _ H' => E u d H'
/-- the facts of a def's context -/
structure Home (P : Program) (w : World) (K : PySem.W.Frag) (mg : Str → Option Value) (base : Heap) (k : Nat) (N : List Str) (scope : Scope) (X : Cx) (W : WX) : Prop where
  prog : X.prog = P
  w : X.w = w
  K : X.K = K
  mg : X.mg = mg
  base : X.base = base
  room : Room k X.A
  guards : X.A.guards = some []
  N : X.N = N
  nd : X.N.Nodup
  scope : X.env.scope = scope
  calm : X.calm = true
  takes : Takes X W
  passes : PassesOwn (model X.prog X.w) X.A X.env X.xe
theorem home_of {P : Program} {w : World} {K : PySem.W.Frag} {mg : Str → Option Value} {base : Heap} {k : Nat} {N ps : List Str} {qual : Str} {scope : Scope} {f : Addr} {cd : Value} {A : Around} {outer : List Env} {s : Shared} {H : Hp} {E : XK} (S : FnScope N ps scope)
    (hr : Room k (A.deeper (envOfC qual scope s.heap.objs.size f cd))) (hg : A.guards = some []) : Home P w K mg base k N scope (cxOf (L2.CX P w) P w K mg base N qual scope f cd A outer s H E) (WD E) :=
  ⟨rfl, rfl, rfl, rfl, rfl, hr, hg, rfl, S.nd, rfl, rfl, takes_of rfl rfl rfl rfl, passes_of rfl⟩
theorem fnG_of {P : Program} {w : World} {K : PySem.W.Frag} {mg : Str → Option Value} {base : Heap} {k : Nat} {f : Addr} {name qual : Str} {params : Arguments} {body : List Stmt} {scope : Scope} {dV kV doc pm cdv ct oc : Value} {an od : Option Addr}
    {osl : Array (Option Value)} {N ps : List Str} {m : StS} (lk : K.lookup f = some ⟨oc, od, .func (PySem.W.fnOf name qual params body scope dV kV doc pm an cdv ct), osl⟩) (hcd : PySem.W.codeIn K cdv qual = true) (S : FnScope N ps scope)
    (hbody : ∀ (X : Cx) (W : WX), Home P w K mg base k N scope X W → (∀ x, X.fn x = true) → SndSs X W body m) :
    FnG P w K mg base (k + 1) f (PySem.W.fnOf name qual params body scope dV kV doc pm an cdv ct) ps (spC K mg ps.length (defC N.length m)) := by
  have len : ∀ vs H Q E, spC K mg ps.length (defC N.length m) vs H Q E → vs.length = ps.length := fun vs H Q E ⟨_, _, h, _⟩ => h
  refine ⟨len, fun A outer s H args us vs Q E hr hg e0 hb r hsp => ?_⟩
  have hl := len _ _ _ _ hsp
  have KX : K.In s.heap := e0.mod.kin.keeps fun b o e => (e0.bs b o e).1
  have lim : s.heap.NoLimit := e0.mod.nolimit.keeps fun b o e => (e0.bs b o e).1
  have hkind : ∀ y ∈ ps.zip us, scope.names.lookup y.1 = some .local ∨ (scope.names.lookup y.1 = some .cell ∧ ((cellsFrom (s.heap.objs.size + 1) scope.names []).lookup y.1).isSome = true) := fun ⟨n, v⟩ hy => by
    rcases S.par n (List.of_mem_zip hy).1 with q | q
    · exact .inl q
    · exact .inr ⟨q, PySem.W.cellsFrom_some _ _ _ (.inl q)⟩
  refine codeAny_call_function hr.depth (KX _ _ lk) rfl S.co S.gen rfl (PySem.W.codeRec_of KX hcd) (hb _ _ _ _ ?_)
  refine wpAny_newFunctionEnv_cells S.kind hkind fun env he s1 x => ?_
  subst he
  refine ⟨lim.keeps x.toInCall.keep, codeAny_func ?_⟩
  have I : Inv (cxOf (L2.CX P w) P w K mg base N qual scope f cdv A outer s H E) [] (L2.start N vs) H s1 := inv_start S hr.hd e0 hl r x
  have ht := (hbody (cxOf (L2.CX P w) P w K mg base N qual scope f cdv A outer s H E) (WD E) (home_of S (hr.deeper _) hg) fun _ => rfl).run
  obtain ⟨Aa, svs, _, D, no, q⟩ := hsp
  refine wpAny_mono (ht.run [] s1 (L2.start N vs) H { nx := fun _ H' => Q .non H', rt := Q } I (defC_ends D no q)) (fun fl s' hs => ?_) fun e s' hs => hs
  have fin : ∀ {σ' : St} {H' : Hp} {v : V} {u : Value}, Inv (cxOf (L2.CX P w) P w K mg base N qual scope f cdv A outer s H E) [] σ' H' s' → RelV v u → Q v H' → CE outer P w H s Q u s' :=
    fun {σ' H' v u} J rv q => ⟨v, H', J.os, J.bare, J.base, J.hok, rv, q⟩
  cases fl with
  | ret u =>
    obtain ⟨v, σ', H', J, rv, q⟩ := hs
    exact fin J rv q
  | next =>
    obtain ⟨σ', H', J, q⟩ := hs
    exact fin (v := V.non) (u := Value.none) J rfl q
  | brk =>
    obtain ⟨_, _, _, q⟩ := hs
    exact False.elim q
  | cont =>
    obtain ⟨_, _, _, q⟩ := hs
    exact False.elim q
end Tw
end STwQ

section STwR
/-! Part R: the law's own call. -/
namespace Tw
open PySem PySem.Spec PyProof.Rows L2

/-- what the law's meaning has to be -/
def LawOk (n : Nat) (C : CallSem) : Prop := ∀ ns : List Int, ns.length ≤ n → (∀ z ∈ ns, Builtin.Int.intBits z ≤ 1048576) → ∃ p, C [.scr (ns.map PyData.int)] = some (.ok (.frz (.bool true)) p)
theorem scr_den {K : PySem.W.Frag} {H : Hp} {a : Addr} {ns : List Int} (h : SqF K H a (ns.map V.int)) : Den K (fun _ => False) ([SV.scr (ns.map PyData.int)].map some) ([V.ref a].map some) H := by
  refine ⟨rfl, fun i s e => ?_, fun i j s t b e1 e2 l1 l2 z1 z2 => ?_, fun _ z => z.elim, fun _ _ z => z⟩
  · cases i with
    | zero =>
      cases e
      exact ⟨_, rfl, a, _, rfl, h, Rps.ints ns⟩
    | succ i => cases i <;> cases e
  · cases i with
    | zero => cases e1; cases l1
    | succ i => cases i <;> cases e1
theorem scr_sp {K : PySem.W.Frag} {mg : Str → Option Value} {C : CallSem} {H : Hp} {a : Addr} {ns : List Int} {n : Nat} (ok : LawOk n C) (hl : ns.length ≤ n) (hb : ∀ z ∈ ns, Builtin.Int.intBits z ≤ 1048576) (h : SqF K H a (ns.map V.int)) :
    spC K mg 1 C [.ref a] H (fun v _ => v = .bl true) fun _ _ _ => False := by
  obtain ⟨p, e⟩ := ok ns hl hb
  refine ⟨_, [.scr (ns.map PyData.int)], rfl, scr_den h, fun s hs => by rw [List.mem_singleton] at hs; rw [hs]; rfl, ?_⟩
  rw [e]
  intro v H' _ _ r
  have r : Rp K H' _ v (.bool true) := r
  cases r
  rfl
section
variable {P : Program} {w : World} {K : PySem.W.Frag} {mg mb : Str → Option Value} {k : Nat} {fa a : Addr} {fd : FuncData} {x : Str} {s1 : Shared} {vs : List Value} {ns : List Int} {sp : Sp}
/-- the call from an abstract heap that holds the script at most -/
theorem law_in {H : Hp} (KX : K.In s1.heap) (hns : s1.heap.Ns mainGlobals mg) (hb : s1.heap.Ns builtinsNs mb) (hbb : ∀ y : Str, y ≠ "__name__" → mb y = bootBuiltins y) (hlim : s1.heap.NoLimit) (hg : s1.gens = #[])
    (ha : s1.heap.get? a = some { cls := .type "list", data := .seq vs.toArray }) (hr : Room k callerA) (F : ∀ base : Heap, K.In base → base.Ns mainGlobals mg → FnG P w K mg base k fa fd [x] sp)
    (hbind : ∀ (s : Shared) (u : Value), BindsTo s fd ⟨[u], []⟩ [(x, u)]) (hsp : sp [.ref a] H (fun v _ => v = .bl true) fun _ _ _ => False)
    (hok : HOk P w H s1.heap) (hA : ∀ b, H b ≠ none → b = a ∧ K.lookup a = none ∧ ∃ o ys, H b = some (.frz o (.lst ys))) :
    codeAny (model P w) callerA (.call (.ref fa) ⟨[.ref a], []⟩) (fun r s' => r = .ok (.ret (.bool true)) ∧ OldK s1.heap s'.heap ∧ s'.os = s1.os ∧ AllBare s'.gens) s1 := by
  have free : ∀ {b : Addr} {o : Obj}, s1.heap.get? b = some o → (∀ i n, o.data ≠ .seq i n) → H b = none := fun {b o} e d => by
    by_cases z : H b = none
    · exact z
    · obtain ⟨rfl, _, _⟩ := hA b z
      rw [ha] at e
      cases e
      exact absurd rfl (d _ _)
  have ns' : ∀ {b : Addr} {m : Str → Option Value}, s1.heap.Ns b m → (hidT s1.heap H).Ns b m := fun ⟨o, es, ep, e, d, r⟩ => ⟨o, es, ep, hidT_get e (free e fun i n z => by rw [d] at z; cases z), d, r⟩
  have kIn : K.In (hidT s1.heap H) := fun b o e => by
    refine hidT_get (KX b o e) ?_
    by_cases z : H b = none
    · exact z
    · obtain ⟨rfl, q, _⟩ := hA b z
      rw [q] at e; cases e
  have M : Mod K mg (hidT s1.heap H) := by
    obtain ⟨mc, l1, l2⟩ := hlim
    exact ⟨kIn, ns' hns, ⟨mb, ns' hb, hbb⟩, mc, ns' l1, l2⟩
  have E0 : Env0 P w K mg (hidT s1.heap H) callerA [] s1 H := ⟨rfl, M, fun b o e => of_hidT e, Nat.le_of_eq (hidT_size _ _), trivial, fun b h => (by cases h), hok, .of_eq hg⟩
  refine codeAny_mono ((F _ kIn (ns' hns)).run callerA [] s1 H ⟨[.ref a], []⟩ [.ref a] [.ref a] _ _ hr rfl E0 (hbind s1 (.ref a)) (.cons rfl .nil) hsp) fun r s' h => ?_
  match r, h with
  | .error e, h =>
    obtain ⟨_, _, _, _, _, _, _, _, _, _, _, _, z⟩ := h
    exact z.elim
  | .ok (.ret u), h =>
    obtain ⟨v, H', os, bare, un, hok', r', q⟩ := h
    obtain rfl : v = V.bl true := q
    obtain rfl : u = Value.bool true := r'
    refine ⟨rfl, .of_keep fun b o e => ?_, os, bare⟩
    by_cases z : H b = none
    · exact un.keep b o e z (fun q => by cases q) (by simp)
    · obtain ⟨_, _, ob, ys, q⟩ := hA b z
      have t1 := (hok b _ q).1
      have t2 := (hok' b _ (un.frzs b ob _ q)).1
      rw [e] at t1
      cases t1
      exact t2
end
/-- the end of a law's row -/
theorem law_end {l : PySem.W.OpenLaw} {n k : Nat} {q : Program} {loose : List Str} {XP : (Str → Option Value) → Heap → Prop} {YP : World → Heap → Prop} {d : DefRec} {K : Params → PySem.W.Frag} {x : Str} {C : CallSem} (hn : l.most = some n) (hn2 : n ≤ sizeLine) (hdf : d.params.defaults = []) (hr : Room k callerA)
    (hY : ∀ (w : World) (h : Heap), YP w h → (K w.params).In h)
    (F : ∀ (w : World) (mg : Str → Option Value) (fa : Addr) (h : Heap), (K w.params).In h → h.Ns mainGlobals mg → mg d.name = some (.ref fa) →
      ∃ fd : FuncData, (∀ (s : Shared) (u : Value), BindsTo s fd ⟨[u], []⟩ [(x, u)]) ∧ ∀ base : Heap, (K w.params).In base → base.Ns mainGlobals mg → FnG l.prog w (K w.params) mg base k fa fd [x] (spC (K w.params) mg 1 C))
    (ok : LawOk n C) : PySem.W.WalkO q loose XP YP l.row.toRowW d [] (fun f vs => PySem.call f vs) := by
  refine Att.attach_callB hn hdf fun w s0 s1 mg mb fa o pm cd doc a vs ns G Y ho hd hcd hmg hobj hints hlen hbits hg => ?_
  have KX := hY w _ Y
  obtain ⟨fd, hb, hF⟩ := F w mg fa _ KX G.T.g hmg
  have rv := vals_ints hints
  have hz : vs.length ≤ sizeLine := by rw [hints.length]; exact Nat.le_trans hlen hn2
  have hz2 : (ns.map V.int).length ≤ sizeLine := by rw [List.length_map]; exact Nat.le_trans hlen hn2
  cases hk : (K w.params).lookup a with
  | some o =>
    have e := KX a o hk
    rw [hobj] at e
    cases e
    refine law_in (H := fun _ => none) KX G.T.g G.T.b G.T.builtins G.T.nolimit hg hobj hr hF hb (scr_sp ok hlen hbits (.inr (.inr ⟨_, vs.toArray, _, hk, rfl, rfl, rfl, by simpa using hz, by simpa using rv⟩))) (fun b u z => by cases z) fun b z => absurd rfl z
  | none =>
    have at1 : ∀ b, (fun b => if b = a then some (HO.frz { cls := .type "list", data := .seq vs.toArray } (.lst (ns.map V.int))) else none : Hp) b ≠ none → b = a := fun b z => by
      by_cases h : b = a
      · exact h
      · exact absurd (if_neg h) z
    refine law_in (H := fun b => if b = a then some (.frz { cls := .type "list", data := .seq vs.toArray } (.lst (ns.map V.int))) else none) KX G.T.g G.T.b G.T.builtins G.T.nolimit hg hobj hr hF hb (scr_sp ok hlen hbits (.inl ⟨_, if_pos rfl⟩)) (fun b u z => ?_) fun b z => ?_
    · obtain rfl := at1 b (by rw [z]; simp)
      have z := (if_pos rfl).symm.trans z
      cases z
      exact ⟨hobj, hz2, vs, _, rv, hobj⟩
    · obtain rfl := at1 b z
      exact ⟨rfl, hk, _, _, if_pos rfl⟩
end Tw
end STwR

section STwS
/-! Part S: zip; slices backwards; repr. -/
namespace Tw
open PySem PySem.Spec PyProof.Rows L2

/-! ### zip of two lists or of two tuples -/
def zipD (ds es : List PyData) : List PyData := (ds.zip es).map fun p => .tuple [p.1, p.2]
def vZip (s t : Sm) : Src := fun env => (s.o env).bd fun o env1 => (t.o env1).bd fun p env2 => sure (srcO env2 o) fun x => sure (srcO env2 p) fun y => match x.1, y.1 with
  | .list ds, .list es => .mk (zipD ds es, x.2 ++ y.2) env2
  | .tuple ds, .tuple es => .mk (zipD ds es, x.2 ++ y.2) env2
  | _, _ => none
theorem zipD_at : ∀ {ds es : List PyData} {i : Nat}, (zipD ds es)[i]? = (match ds[i]?, es[i]? with
    | some d, some e => some (.tuple [d, e])
    | _, _ => none)
  | [], es, i => by simp [zipD]
  | d :: ds, [], i => by simp [zipD]
  | d :: ds, e :: es, 0 => by simp [zipD]
  | d :: ds, e :: es, i + 1 => by
    have := @zipD_at ds es i
    simpa [zipD] using this
theorem zipD_len {ds es : List PyData} : (zipD ds es).length = min ds.length es.length := by
  unfold zipD
  rw [List.length_map, List.length_zip]
section
variable {K : PySem.W.Frag} {A : Addr → Prop} {H1 : Hp} {P B : Addr → Prop}
theorem ItOk.zip {v u : V} {ds es : List PyData} (r : Rw K H1 P B v (.list ds)) (q : Rw K H1 P B u (.list es)) (hP : ∀ a, P a → B a) : ∃ a b, v = .ref a ∧ u = .ref b ∧ (∃ xs, SqL K H1 a xs) ∧ (∃ ys, SqL K H1 b ys) ∧ ItOk K H1 P B (Itz K a b) (zipD ds es) := by
  obtain ⟨a, xs, ea, qa, ha⟩ := r.list
  obtain ⟨b, ys, eb, qb, hb⟩ := q.list
  refine ⟨a, b, ea, eb, ⟨xs, ha H1 .refl⟩, ⟨ys, hb H1 .refl⟩, fun H k i => ⟨fun hi => ?_, fun hi => ⟨xs, ys, ha H k, hb H k, ?_⟩⟩⟩
  · rw [zipD_len] at hi
    obtain ⟨d, hd⟩ := lt_get (show i < ds.length by omega)
    obtain ⟨e, he⟩ := lt_get (show i < es.length by omega)
    obtain ⟨x, hx, rx⟩ := qa.get hd
    obtain ⟨y, hy, ry⟩ := qb.get he
    refine ⟨⟨xs, ys, x, y, ha H k, hb H k, hx, hy⟩, fun z H' yl => ?_⟩
    obtain ⟨T, x', y', ez, nT, eH, f1, f2⟩ := yl
    have e1 := f1 xs (ha H k)
    have e2 := f2 ys (hb H k)
    rw [hx] at e1; cases e1
    rw [hy] at e2; cases e2
    subst ez eH
    refine ⟨fun c o ho => by rw [upd_ne (ne_of_none ho nT)]; exact ho, .tuple [d, e], by rw [zipD_at, hd, he], fun B' hB => ?_⟩
    have mv : ∀ {w : V} {c : PyData}, Rp K H1 B w c → Rp K (upd H T (.tup [x, y])) B' w c := fun r => Rp.move (k.trans (P' := fun _ => False) (.upd nT) fun _ z => z.elim) hP hB r
    exact .tup (.of upd_same) (.cons (mv rx) (.cons (mv ry) .nil))
  · rw [zipD_len] at hi
    rw [qa.length, qb.length]
    omega
theorem ItOk.zipT {v u : V} {ds es : List PyData} (r : Rw K H1 P B v (.tuple ds)) (q : Rw K H1 P B u (.tuple es)) (hP : ∀ a, P a → B a) : ∃ a b, v = .ref a ∧ u = .ref b ∧ (∃ xs, SqT K H1 a xs) ∧ (∃ ys, SqT K H1 b ys) ∧ ItOk K H1 P B (RZ.ItzT K a b) (zipD ds es) := by
  obtain ⟨a, xs, ea, qa, ha⟩ := r.tup
  obtain ⟨b, ys, eb, qb, hb⟩ := q.tup
  refine ⟨a, b, ea, eb, ⟨xs, ha H1 .refl⟩, ⟨ys, hb H1 .refl⟩, fun H k i => ⟨fun hi => ?_, fun hi => ⟨xs, ys, ha H k, hb H k, ?_⟩⟩⟩
  · rw [zipD_len] at hi
    obtain ⟨d, hd⟩ := lt_get (show i < ds.length by omega)
    obtain ⟨e, he⟩ := lt_get (show i < es.length by omega)
    obtain ⟨x, hx, rx⟩ := qa.get hd
    obtain ⟨y, hy, ry⟩ := qb.get he
    refine ⟨⟨xs, ys, x, y, ha H k, hb H k, hx, hy⟩, fun z H' yl => ?_⟩
    obtain ⟨T, x', y', ez, nT, eH, f1, f2⟩ := yl
    have e1 := f1 xs (ha H k)
    have e2 := f2 ys (hb H k)
    rw [hx] at e1; cases e1
    rw [hy] at e2; cases e2
    subst ez eH
    refine ⟨fun c o ho => by rw [upd_ne (ne_of_none ho nT)]; exact ho, .tuple [d, e], by rw [zipD_at, hd, he], fun B' hB => ?_⟩
    have mv : ∀ {w : V} {c : PyData}, Rp K H1 B w c → Rp K (upd H T (.tup [x, y])) B' w c := fun r => Rp.move (k.trans (P' := fun _ => False) (.upd nT) fun _ z => z.elim) hP hB r
    exact .tup (.of upd_same) (.cons (mv rx) (.cons (mv ry) .nil))
  · rw [zipD_len] at hi
    rw [qa.length, qb.length]
    omega
end
theorem sndI_zip {X : Cx} {W : WX} {a b : Expr} {sa sb : Sm} {p pos tpos : Pos} {elts : List Expr} {kk : Nat} (hg : Gl X "zip") (hm : X.mg "zip" = none) (n : noStar a = true) (n2 : noStar b = true) (ha : Snd X W a sa) (hb : Snd X W b sb) :
    SndI X W (.Tuple elts kk tpos) (.Call (.Name "zip" p) [a, b] [] pos) (vZip sa sb) :=
  ⟨PI.imp (RZ.pi_zipA hg hm (pa_cons ha.o (pa_cons hb.o pa_nil (starEach_no n2 _ _)) (starEach_no n _ _)) (by rw [starEach_no n, starEach_1 n2]) (by rw [starEach_1 n2]; rfl)) fun σ H R q => by
    obtain ⟨A, env, D, q⟩ := q
    simp only [vZip, wp_bd] at q
    refine ⟨A, env, D, q.imp (fun o env1 q v H1 P1 r1 => ?_) fun _ _ z => z⟩
    refine ⟨A, env1, P1.den, q.imp (fun o2 env2 q u H2 P2 r2 => ?_) fun _ _ z => z.behind P1⟩
    obtain ⟨⟨d, ls⟩, e1, q⟩ := wp_sure q
    obtain ⟨⟨e, ls2⟩, e2, q⟩ := wp_sure q
    have w1 := (r1.post P2).walk P2.den e1 (ls' := ls ++ ls2) fun i h => List.mem_append_left _ h
    have w2 := r2.walk P2.den e2 (ls' := ls ++ ls2) fun i h => List.mem_append_right _ h
    have hP : ∀ z, Mt (lendS (ls ++ ls2) env2) σ z → Av A env2 σ z := fun z y => ((P2.den.lend _).2.2 z y).av
    have PP := P1.trans P2
    cases d with
    | list ds =>
      cases e with
      | list es =>
        obtain ⟨c1, c2, ev, eu, h1, h2, ok⟩ := ItOk.zip w1 w2 hP
        obtain ⟨xs, h1⟩ := h1
        obtain ⟨ys, h2⟩ := h2
        exact ⟨c1, c2, xs, ys, by rw [ev, eu], .inl ⟨h1, h2, q _ H2 PP ok⟩⟩
      | _ => exact q.elim
    | tuple ds =>
      cases e with
      | tuple es =>
        obtain ⟨c1, c2, ev, eu, h1, h2, ok⟩ := ItOk.zipT w1 w2 hP
        obtain ⟨xs, h1⟩ := h1
        obtain ⟨ys, h2⟩ := h2
        exact ⟨c1, c2, xs, ys, by rw [ev, eu], .inr ⟨h1, h2, q _ H2 PP ok⟩⟩
      | _ => exact q.elim
    | _ => exact q.elim⟩

/-! ### x[::-1] -/
theorem back_places (n : Nat) : Builtin.Slice.sliceAdjust none none (-1) (n : Int) = ((n : Int) - 1, -1) ∧ Builtin.Slice.slicePlaces ((n : Int) - 1) (-1) (-1) = n := by
  constructor
  · unfold Builtin.Slice.sliceAdjust
    simp
  · unfold Builtin.Slice.slicePlaces
    simp only [show ¬ ((-1 : Int) > 0) by decide, if_false]
    by_cases h : n = 0
    · subst h; rfl
    · rw [if_pos (by omega)]
      have : ((n : Int) - 1 - -1 - 1) / (- -1) = (n : Int) - 1 := by
        rw [show (- -1 : Int) = 1 by decide, Int.ediv_one]; omega
      rw [this]
      omega
theorem fm_congr {α β : Type} {f g : α → Option β} : ∀ {l : List α}, (∀ x ∈ l, f x = g x) → l.filterMap f = l.filterMap g
  | [], _ => rfl
  | x :: l, h => by
    rw [List.filterMap_cons, List.filterMap_cons, h x List.mem_cons_self, fm_congr fun y hy => h y (List.mem_cons_of_mem _ hy)]
theorem back_pick (xs : List Value) : ((List.range xs.length).filterMap fun (m : Nat) => xs.toArray[(((xs.length : Int) - 1) + (m : Int) * -1).toNat]?) = xs.reverse := by
  have key : ((List.range xs.length).filterMap fun (m : Nat) => xs.toArray[(((xs.length : Int) - 1) + (m : Int) * -1).toNat]?) = (List.range xs.reverse.toArray.size).filterMap (xs.reverse.toArray[·]?) := by
    rw [List.size_toArray, List.length_reverse]
    refine fm_congr fun m hm => ?_
    have hm := List.mem_range.mp hm
    rw [show (((xs.length : Int) - 1) + (m : Int) * -1).toNat = xs.length - 1 - m by omega, List.getElem?_toArray, List.getElem?_toArray, List.getElem?_reverse hm]
  rw [key, PySem.W.krv_all]
section
variable {prog : Program} {w : World} {A : Around} {E : Value → Shared → Prop} {s : Shared}
theorem back_applied {sl : Addr} {t : Tok} {n : Nat} {Q : Int × Int × Nat → Shared → Prop} (hs : s.heap.IsSliceOf sl .none .none (.int (-1) t)) (h : Q ((n : Int) - 1, -1, n) s) :
    wpAny (model prog w) A (Builtin.Slice.sliceApplied (.ref sl) (pure (n : Int))) Q E s := by
  obtain ⟨os, hos, hcs, hds⟩ := id hs
  unfold Builtin.Slice.sliceApplied Builtin.Slice.sliceFields
  refine wpAny_bind (wpAny_bind (wpAny_field hos hds (x := .none) rfl (wpAny_bind (wpAny_field hos hds (x := .none) rfl (wpAny_bind (wpAny_field hos hds (x := .int (-1) t) rfl (wpAny_pure ?_)))))))
  refine wpAny_bind (HT.slicePart_ (.int (-1) t) ?_)
  show wpAny _ _ (if ((-1 : Int) == 0) = true then _ else _) _ _ s
  rw [if_neg (by decide)]
  refine wpAny_bind (HT.slicePart_ .none (wpAny_bind (HT.slicePart_ .none (wpAny_bind (wpAny_pure ?_)))))
  show wpAny _ _ (match Builtin.Slice.sliceAdjust none none (-1) (n : Int) with | (lo, hi) => pure (lo, (-1 : Int), Builtin.Slice.slicePlaces lo hi (-1))) _ _ s
  rw [(back_places n).1]
  show wpAny _ _ (pure ((n : Int) - 1, (-1 : Int), Builtin.Slice.slicePlaces ((n : Int) - 1) (-1) (-1))) _ _ s
  rw [(back_places n).2]
  exact wpAny_pure h
theorem back_tuple {t sl : Addr} {items : List Value} {u : Tok} {Q : Value → Shared → Prop} (ht : IsTup s.heap t items.toArray) (hs : s.heap.IsSliceOf sl .none .none (.int (-1) u))
    (h : Q (.ref s.heap.objs.size) { s with heap := s.heap.push { cls := .type "tuple", data := .seq items.reverse.toArray } }) (hz : items.length ≤ sizeLine) : wpAny (model prog w) A (getItem (.ref t) (.ref sl)) Q E s := by
  have fit : sizeOk (.seq items.reverse.toArray) := by
    show items.reverse.toArray.size ≤ sizeLine
    rw [List.size_toArray, List.length_reverse]
    exact hz
  obtain ⟨os, hos, hcs, hds⟩ := id hs
  have hTs : s.TypeIs (.ref sl) "slice" := ⟨os, hos, hcs⟩
  unfold getItem
  try with_reducible refine wpAny_holding ?_
  first | refine wpAny_bind (wpAny_pure ?_) | skip
  refine wpAny_bind (wpAny_sequenceKey ht.typeIs (by decide) ?_)
  refine wpAny_bind (wpAny_callSpecial?_slot (name := Str.ofString "__getitem__") ht.typeIs PyProof.Rows.slot_tuple_getitem (wpAny_call_entry PyProof.Rows.slot_tuple_getitem ht.typeIs entry_tuple_getitem ?_ (args_tuple_getitem _ _)))
  show wpAny _ _ (Builtin.Tuple.tupleItemsOf (.ref t) >>= _) _ _ s
  refine wpAny_bind (PyProof.Rows.tupleItemsOf_ ht ?_)
  refine wpAny_bind (wpAny_typeOf hTs ?_)
  rw [if_pos (by decide), List.size_toArray]
  refine wpAny_bind (back_applied hs ?_)
  have no : ¬ ((((items.length : Int) - 1) == 0 && (-1 : Int) == 1 && items.length == items.length) = true) := by simp
  show wpAny _ _ (if (((items.length : Int) - 1) == 0 && (-1 : Int) == 1 && items.length == items.length) = true then _ else _) _ _ s
  rw [if_neg no, back_pick]
  first
    | exact wpAny_bind (m := Builtin.Tuple.tupleExact _) (wpAny_newObj_type (wpAny_pure ⟨_, rfl, wpAny_pure h⟩) fit)
    | exact wpAny_bind (m := Builtin.Tuple.tupleExact _) (wpAny_newObj_type (wpAny_bind (wpAny_pure (wpAny_pure ⟨_, rfl, wpAny_pure h⟩))) fit)
    | exact wpAny_bind (wpAny_bind (m := Builtin.Tuple.tupleExact _) (wpAny_newObj_type (wpAny_pure (wpAny_pure ⟨_, rfl, wpAny_pure h⟩)) fit))
    | exact wpAny_bind (wpAny_bind (m := Builtin.Tuple.tupleExact _) (wpAny_newObj_type (wpAny_pure ⟨_, rfl, wpAny_pure h⟩) fit))
end
def tRev (K : PySem.W.Frag) (te : TE) : TE := fun σ H Q => te σ H fun x H1 => ∃ a xs, x = .ref a ∧ ((SqL K H1 a xs ∧ ∀ p, H1 p = none → Q (.ref p) (upd H1 p (.lst xs.reverse))) ∨ (SqT K H1 a xs ∧ ∀ p, H1 p = none → Q (.ref p) (upd H1 p (.tup xs.reverse))))
theorem pe_rev {X : Cx} {e : Expr} {te : TE} {k : Nat} {p1 p2 p3 pos : Pos} (he : PE X e te) : PE X (.Subscript e (.Slice none none (some (.UnaryOp .USub (.Constant (.int 1) k p1) p2)) p3) pos) (tRev X.K te) := by
  refine ⟨fun pins s σ H Q I h => ?_⟩
  refine Subscript_ (thn (he.run pins s σ H _ I h) fun v s1 ⟨x, H1, I1, r1, a, xs, ex, hx⟩ => ?_)
  subst ex
  cases r1
  have step : PO X (some (.UnaryOp .USub (.Constant (.int 1) k p1) p2)) (tPart (tUn (rU fun i => .int (-i)) (tC (.int 1)))) := po_some (pe_un un_neg pe_int)
  refine wpAny_Slice (thn (po_none.run pins s1 σ H1 (fun o H2 => o = none ∧ H2 = H1) I1 ⟨rfl, rfl⟩) fun vl s2 ⟨l, H2, I2, pl, el, e2⟩ => ?_)
  subst el e2
  refine thn (po_none.run pins s2 σ H2 (fun o H3 => o = none ∧ H3 = H2) I2 ⟨rfl, rfl⟩) fun vu s3 ⟨u, H3, I3, pu, eu, e3⟩ => ?_
  subst eu e3
  refine thn (step.run pins s3 σ H3 (fun o H4 => o = some (-1) ∧ H4 = H3) I3 ⟨1, rfl, -1, rfl, rfl, rfl⟩) fun vs s4 ⟨o, H4, I4, ps, eo, e4⟩ => ?_
  subst eo e4
  cases pl
  cases pu
  cases ps with
  | int i tk =>
    have I5 : Inv X pins σ H4 { s4 with heap := s4.heap.push { cls := .type "slice", data := .fields #[.none, .none, .int (-1) tk] } } := I4.kept (t' := s4.toks) fun b ob q => Heap.get?_push_of_some _ q
    show wpAny (model X.prog X.w) X.A (subscriptTail e (.Slice none none (some (.UnaryOp .USub (.Constant (.int 1) k p1) p2)) p3) (.ref a) (.ref s4.heap.objs.size)) (EP X pins σ Q) X.xe { s4 with heap := s4.heap.push { cls := .type "slice", data := .fields #[.none, .none, .int (-1) tk] } }
    rcases hx with ⟨hx, q⟩ | ⟨hx, q⟩
    · obtain ⟨its, r, ht, hz⟩ := I5.list hx
      have hlen := r.length
      refine tail_any (ops := [.ref a, .ref s4.heap.objs.size]) ht.isList.typeIs (PySem.slot_list_getitem.lookup) ?_ (by with_unfolding_all rfl)
      refine wpAny_getItem_list_slice ht.isList (Heap.IsSliceOf.new _ _ _ _) .none .none (.int (-1) tk) (by decide) ?_ (by rw [List.size_toArray]; omega)
      rw [PySem.W.krv_pick]
      exact ⟨.ref _, _, I5.laid (t' := s4.toks) (o := .lst xs.reverse) (fun b ob q => Heap.get?_push_of_some _ q) (Nat.le_refl _) ⟨by rw [List.length_reverse]; exact hz, _, 0, r.reverse, Heap.get?_push_size _ rfl⟩, rfl, q _ (I5.hok.fresh (Nat.le_refl _))⟩
    · obtain ⟨its, r, ht, hz⟩ := I5.tuple hx
      have hlen := r.length
      refine tail_any (ops := [.ref a, .ref s4.heap.objs.size]) ht.typeIs (PyProof.Rows.slot_tuple_getitem.lookup) ?_ (by with_unfolding_all rfl)
      refine back_tuple ht (Heap.IsSliceOf.new _ _ _ _) ?_ (by omega)
      exact ⟨.ref _, _, I5.laid (t' := s4.toks) (o := .tup xs.reverse) (fun b ob q => Heap.get?_push_of_some _ q) (Nat.le_refl _) ⟨by rw [List.length_reverse]; exact hz, _, r.reverse, IsTup.new _ _⟩, rfl, q _ (I5.hok.fresh (Nat.le_refl _))⟩
def revD : PyData → Option SV
  | .list ds => some (.own ds.reverse)
  | .tuple ds => some (.frz (.tuple ds.reverse))
  | _ => none
def vRev (s : Sm) (env : EV) : Res SV := (s.o env).bd fun o env1 => sure (rd false env1 o) fun d => sure (revD d) fun r => .mk r env1
theorem snd_rev {X : Cx} {W : WX} {e : Expr} {s : Sm} {k : Nat} {p1 p2 p3 pos : Pos} (he : Snd X W e s) : Snd X W (.Subscript e (.Slice none none (some (.UnaryOp .USub (.Constant (.int 1) k p1) p2)) p3) pos) (.of (vRev s)) :=
  .of ((pe_rev he.o).imp fun σ H Q q => by
    obtain ⟨A, env, D, q⟩ := q
    have q : wp (vRev s env) _ _ := q
    simp only [vRev, wp_bd] at q
    refine ⟨A, env, D, q.imp (fun o env1 q v H1 P r => ?_) fun _ _ z => z⟩
    obtain ⟨d, e1, q⟩ := wp_sure q
    obtain ⟨s', e2, q⟩ := wp_sure q
    have q : ∀ v H', Post X.K A env σ H env1 H' → Rv X.K A env1 σ H H' v s' → Q v H' := q
    have rr := r.read P.den e1
    cases d with
    | list ds =>
      cases e2
      obtain ⟨a, xs, rfl, hx, _, rs⟩ := rr
      refine ⟨a, xs, rfl, .inl ⟨hx, fun p hp => ?_⟩⟩
      have g : ∀ b o, H1 b = some o → (upd H1 p (.lst xs.reverse)) b = some o := fun b o h => by rw [upd_ne (ne_of_none h hp)]; exact h
      refine q _ _ (P.grow g) (Rv.back (Rv.ofRr P.den g (v := .ref p) (s := .own ds.reverse) ⟨p, xs.reverse, rfl, hp, upd_same, P.den.fresh hp, ?_⟩) fun a h => P.keep.new h)
      exact (Rps.newIn rs hp).reverse
    | tuple ds =>
      cases e2
      have rr : Rp X.K H1 (Av A env1 σ) v (.tuple ds) := rr
      cases rr with
      | @tup a xs _ hx rs =>
        refine ⟨_, _, rfl, .inr ⟨hx, fun p hp => ?_⟩⟩
        have g : ∀ b o, H1 b = some o → (upd H1 p (.tup xs.reverse)) b = some o := fun b o h => by rw [upd_ne (ne_of_none h hp)]; exact h
        exact q _ _ (P.grow g) (.tup (.of upd_same) (rs.grow g).reverse)
    | _ => cases e2) rfl

/-! ### repr -/
def reprOk (d : PyData) : Bool := d.canLay0 && d.showable && decide (d.depth ≤ 60) && decide (d.shown.length ≤ sizeLine)
def dRepr : List PyData → Option SV
  | [.list ds] => if reprOk (.list ds) = true then some (.frz (.str (PyData.shown (.list ds)))) else none
  | [.tuple ds] => if reprOk (.tuple ds) = true then some (.frz (.str (PyData.shown (.tuple ds)))) else none
  | _ => none
mutual
theorem noDict_of : ∀ {d : PyData}, d.canLay0 = true → d.hasDict = false
  | .none, _ => rfl
  | .bool _, _ => rfl
  | .int _, _ => rfl
  | .str _, _ => rfl
  | .list xs, h => noDicts_of (ds := xs) (by simpa [PyData.canLay0] using h)
  | .tuple xs, h => noDicts_of (ds := xs) (by simpa [PyData.canLay0] using h)
  | .dict _, h => by simp [PyData.canLay0] at h
theorem noDicts_of : ∀ {ds : List PyData}, PyData.canLayAll0 ds = true → PyData.hasDictAll ds = false
  | [], _ => rfl
  | d :: ds, h => by
    simp only [PyData.canLayAll0, Bool.and_eq_true] at h
    simp only [PyData.hasDictAll, noDict_of h.1, noDicts_of h.2, Bool.or_self]
end
theorem call_drepr {X : Cx} (hg : X.A.guards = some []) (hu : X.A.units + 64 < cLine) : CallR X (.builtin "repr") (rData false X.K dRepr) := by
  intro pins s σ H xs us Q I r h
  obtain ⟨B, ds, z, hB, rx, ev, q⟩ := h
  have go : ∀ {d : PyData} {x : V} {u : Value} {a : Addr}, Ro false X.K H B x d → RelV x u → x = .ref a → reprOk d = true → Q (.str d.shown) H → wpAny (model X.prog X.w) X.A (call (.builtin "repr") [u]) (EP X pins σ Q) X.xe s := fun {d x u a} rx ru ex ok q => by
    unfold reprOk at ok
    simp only [Bool.and_eq_true, decide_eq_true_eq] at ok
    obtain ⟨⟨⟨o1, o2⟩, o3⟩, o4⟩ := ok
    obtain ⟨as, hr⟩ := rx.reads I o1 ru
    subst ex
    cases ru
    exact repr_of_reads' hr o2 (fun e => by rw [noDict_of o1] at e; cases e) hg (by omega) (fun _ _ e => e) (fun h' u tk hk => ⟨.str _, H, I.kept hk, ⟨_, rfl⟩, q⟩) o4
  unfold dRepr at ev
  split at ev
  · rename_i es
    split at ev
    · rename_i ok
      cases ev
      obtain ⟨x, rfl, rr⟩ := rx.one
      have rr2 := rr
      obtain ⟨a, vs, rfl, _, _⟩ := rr
      cases r with
      | cons r r' => cases r'; exact go rr2 r rfl ok (q.at0 (.str _))
    · cases ev
  · rename_i es
    split at ev
    · rename_i ok
      cases ev
      obtain ⟨x, rfl, rr⟩ := rx.one
      have rr2 := rr
      obtain ⟨a, vs, rfl, _⟩ := rr.tup
      cases r with
      | cons r r' => cases r'; exact go rr2 r rfl ok (q.at0 (.str _))
    · cases ev
  · cases ev
end Tw
end STwS

section STwT
/-! Part T: expressions as terms of a small language; a check against the program's own; soundness. -/
namespace Tw
open PySem PySem.Spec PyProof.Rows L2

/-! ### operators -/
inductive BOp where
  | add | sub | mul | div | mod | pow | shl
def BOp.op : BOp → Operator
  | .add => .Add | .sub => .Sub | .mul => .Mult | .div => .FloorDiv | .mod => .Mod | .pow => .Pow | .shl => .LShift
def BOp.st : BOp → Bool
  | .add | .mul => true
  | _ => false
def dPow : List PyData → Option SV := dInt2 powOk fun i j => i ^ j.toNat
def dShl : List PyData → Option SV := dInt2 powOk fun i j => i * 2 ^ j.toNat
def dDiv : List PyData → Option SV := dInt2 divOk Int.fdiv
def dMod : List PyData → Option SV := dInt2 modOk Int.fmod
def BOp.f : BOp → List PyData → Option SV
  | .add => dAdd | .sub => dSub | .mul => dMul | .div => dDiv | .mod => dMod | .pow => dPow | .shl => dShl
inductive COp where
  | eq | ne | lt | le | gt | ge | isIn | notIn | isN | notN
def COp.op : COp → CmpOp
  | .eq => .Eq | .ne => .NotEq | .lt => .Lt | .le => .LtE | .gt => .Gt | .ge => .GtE | .isIn => .In | .notIn => .NotIn | .isN => .Is | .notN => .IsNot
def COp.f : COp → List PyData → Option SV
  | .eq => dEq | .ne => dNe | .lt => dLt | .le => dLe | .gt => dGt | .ge => dGe | .isIn => dIn | .notIn => dNotIn | .isN => dIsNone | .notN => dNotNone
inductive BF where
  | len | abs | int | min | max | any | all | sum | tuple | list | divmod | repr | gcd
def BF.name : BF → Str
  | .len => "len" | .abs => "abs" | .int => "int" | .min => "min" | .max => "max" | .any => "any" | .all => "all" | .sum => "sum" | .tuple => "tuple" | .list => "list" | .divmod => "divmod" | .repr => "repr" | .gcd => "gcd"
def BF.f : BF → List PyData → Option SV
  | .len => dLen | .abs => dAbs | .int => dInt | .min => dMin | .max => dMax | .any => dAny | .all => dAll | .sum => dSum | .tuple => dTuple | .list => dList | .divmod => dDivmod | .repr => dRepr | .gcd => dGcd

/-! ### where an expression stands -/
structure Hm (P : Program) (w : World) (K : PySem.W.Frag) (mg : Str → Option Value) (base : Heap) (k : Nat) (N : List Str) (sc : Scope) (fn : Str → Bool) (X : Cx) (W : WX) : Prop where
  prog : X.prog = P
  w : X.w = w
  K : X.K = K
  mg : X.mg = mg
  base : X.base = base
  room : Room k X.A
  guards : X.A.guards = some []
  N : X.N = N
  nd : X.N.Nodup
  scope : X.env.scope = sc
  kind : sc.kind = .function
  calm : X.calm = true
  takes : Takes X W
  fn : ∀ x, fn x = true → X.fn x = true
theorem cstInt {X : Cx} {W : WX} {i : Int} {j pos} : Snd X W (.Constant (.int i) j pos) (sCst (.int i)) := .of (pe_cst pe_int fun _ _ => .int i) rfl
theorem cstBool {X : Cx} {W : WX} {b : Bool} {j pos} : Snd X W (.Constant (.bool b) j pos) (sCst (.bool b)) := .of (pe_cst pe_bl fun _ _ => .bl b) rfl
theorem cstStr {X : Cx} {W : WX} {x : Str} {j pos} : Snd X W (.Constant (.str x) j pos) (sCst (.str x)) := .of (pe_cst pe_str fun _ _ => .str x) rfl
theorem cstNone {X : Cx} {W : WX} {j pos} : Snd X W (.Constant .none j pos) (sCst .none) := .of (pe_cst pe_non fun _ _ => .non) rfl
theorem cstDict {X : Cx} {W : WX} {pos} : Snd X W (.Dict [] [] pos) (sCst (.dict [])) := .of (pe_dnewK.imp fun σ H Q q => by
  obtain ⟨A, env, D, q⟩ := q
  intro p hp
  have g : ∀ b o, H b = some o → (upd H p (.dK [])) b = some o := fun b o h => by rw [upd_ne (ne_of_none h hp)]; exact h
  exact q (.ref p) _ (D.post.grow g) (.dct upd_same)) rfl
section
variable {P : Program} {w : World} {K : PySem.W.Frag} {mg : Str → Option Value} {base : Heap} {k : Nat} {N : List Str} {sc : Scope} {fn : Str → Bool} {X : Cx} {W : WX}
theorem Hm.units (h : Hm P w K mg base k N sc fn X W) : X.A.units + 64 < cLine := by have := h.room.un; omega
theorem BOp.snd (h : Hm P w K mg base k N sc fn X W) (o : BOp) {a b : Expr} {sa sb : Sm} {pos : Pos} (ha : Snd X W a sa) (hb : Snd X W b sb) : Snd X W (.BinOp a o.op b pos) (sOp o.st o.f [sa, sb]) := by
  cases o with
  | add => exact snd_bin op_dadd ok_add ha hb
  | sub => exact snd_bin op_sub ok_sub ha hb
  | mul => exact snd_bin op_dmul ok_mul ha hb
  | div => exact snd_bin op_divI ok_div ha hb
  | mod => exact snd_bin op_modN ok_mod ha hb
  | pow => exact snd_bin op_pow ok_pow ha hb
  | shl => exact snd_bin op_shl ok_shl ha hb
/-- each comparison by its rule -/
theorem COp.rule (h : Hm P w K mg base k N sc fn X W) (o : COp) : ∃ r : R2, OpR X (compareOp o.op) r ∧ OkB false X.K r o.f := by
  cases o with
  | eq => exact ⟨_, op_deq h.units, ok_dataB⟩
  | ne => exact ⟨_, op_dne h.units, ok_dataB⟩
  | lt => exact ⟨_, op_dlt h.units, ok_dataB⟩
  | le => exact ⟨_, op_dle h.units, ok_dataB⟩
  | gt => exact ⟨_, op_dgt h.units, ok_dataB⟩
  | ge => exact ⟨_, op_dge h.units, ok_dataB⟩
  | isIn => exact ⟨_, op_din h.units, ok_dataB⟩
  | notIn => exact ⟨_, op_dnotIn h.units, ok_dataB⟩
  | isN => exact ⟨_, op_isN, ok_isNone⟩
  | notN => exact ⟨_, op_notN, ok_notNone⟩
theorem snd_callG {x : Str} {p pos : Pos} {e : Expr} {es : List Expr} {as : List Sm} {id : String} {r : List V → Hp → VK → Prop} {st : Bool} {f : List PyData → Option SV} (hc : CallR X (.builtin id) r) (ok : OkN st X.K r f) (hg : Gl X x) (hm : X.mg x = some (.builtin id))
    (h : SndL X W (e :: es) as) (hd : (x == ("__debug__" : Str)) = false) : Snd X W (.Call (.Name x p) (e :: es) [] pos) (sOp st f as) := by
  cases h with
  | cons n h t =>
    have pa := (SndL.cons n h t).pa
    have q : PE X (.Call (.Name x p) (e :: es) [] pos) (tCB r (tOs (.ofX X W) _)) := ⟨fun pins s σ H Q I q => wpAny_Call_Name_kw (ld_glob I hg hm (PyProof.Rows.callWith_builtin1 (thn (pa.run pos pins s σ H _ I q) fun us s1 ⟨vs, H1, I1, r1, q1⟩ => hc pins s1 σ H1 vs us Q I1 r1 q1) (starEach_no n _ _) (starEach_any t.all)) hd)⟩
    exact .of (q.imp (tOs_cb (c := .ofX X W) ok)) rfl
theorem BF.snd (h : Hm P w K mg base k N sc fn X W) (o : BF) {p pos : Pos} {e : Expr} {es : List Expr} {as : List Sm} (hg : Gl X o.name) (hm : o ≠ .gcd → X.mg o.name = none) (hm2 : o = .gcd → X.mg o.name = some (.builtin "math.gcd")) (hs : SndL X W (e :: es) as) : Snd X W (.Call (.Name o.name p) (e :: es) [] pos) (sOp false o.f as) := by
  cases o with
  | len => exact snd_callB call_len ok_len hg (hm (by simp)) (by decide +kernel) hs (by decide) (by decide)
  | abs => exact snd_callB call_abs ok_abs hg (hm (by simp)) (by decide +kernel) hs (by decide) (by decide)
  | int => exact snd_callTy call_int1 ok_int hg (hm (by simp)) (by decide +kernel) hs (by decide) (by decide)
  | min => exact snd_callB (call_dmin h.calm h.units) ok_data hg (hm (by simp)) (by decide +kernel) hs (by decide) (by decide)
  | max => exact snd_callB (call_dmax h.calm h.units) ok_data hg (hm (by simp)) (by decide +kernel) hs (by decide) (by decide)
  | any => exact snd_callB (cr_any h.calm) ok_any hg (hm (by simp)) (by decide +kernel) hs (by decide) (by decide)
  | all => exact snd_callB (cr_all h.calm) ok_all hg (hm (by simp)) (by decide +kernel) hs (by decide) (by decide)
  | sum => exact snd_callB (cr_sum h.calm) ok_sum hg (hm (by simp)) (by decide +kernel) hs (by decide) (by decide)
  | tuple => exact snd_callTy call_tuple_of ok_tuple hg (hm (by simp)) (by decide +kernel) hs (by decide) (by decide)
  | list => exact snd_callTy call_list_of ok_list hg (hm (by simp)) (by decide +kernel) hs (by decide) (by decide)
  | divmod => exact snd_callB call_divmod ok_divmod hg (hm (by simp)) (by decide +kernel) hs (by decide) (by decide)
  | repr => exact snd_callB (call_drepr h.guards h.units) ok_data hg (hm (by simp)) (by decide +kernel) hs (by decide) (by decide)
  | gcd => exact snd_callG cr_gcd ok_gcd hg (hm2 rfl) hs (by decide)
end

/-! ### the small language: expressions -/
mutual
inductive E where
  | none
  | bool (b : Bool)
  | int (i : Int)
  | str (x : Str)
  | dict0
  | glb (k : Nat)
  | var (i : Nat)
  | tup (ds : Ds)
  | lst (ds : Ds)
  | bin (o : BOp) (a b : E)
  | neg (a : E)
  | cmp (o : COp) (a b : E)
  | chain (o p : COp) (a b c : E)
  | and (es : Es)
  | or (es : Es)
  | not (a : E)
  | ite (c a b : E)
  | idx (a b : E)
  | sl (a : E) (lo hi : OE)
  | rev (a : E)
  | blt (f : BF) (es : Es)
  | isa (e : E) (T : String)
  | call (j : Nat) (as : Gs)
  | kcall (j : Nat) (as ks : Gs) (ns : List Str) (π : List Nat)
  | mcall (j : Nat) (e : E)
  | lc (own : List Nat) (src : So) (tg : Tg) (o : OE) (e : E)
  | app (i : Nat) (e : E)
  | pop (i : Nat)
  | popAt (i : Nat) (e : E)
inductive Es where
  | nil
  | cons (e : E) (es : Es)
inductive Ds where
  | nil
  | cons (star : Bool) (e : E) (ds : Ds)
inductive OE where
  | no
  | so (e : E)
inductive Gs where
  | nil
  | val (e : E) (as : Gs)
  | give (i : Nat) (as : Gs)
  | lend (i : Nat) (as : Gs)
inductive So where
  | seq (e : E)
  | rng1 (e : E)
  | rng2 (a b : E)
  | zip (a b : E)
end
def andL : List Sm → Sm
  | [] => sCst .none
  | [a] => a
  | a :: b :: r => sAnd1 a (andL (b :: r))
def orL : List Sm → Sm
  | [] => sCst .none
  | [a] => a
  | a :: b :: r => sOr1 a (orL (b :: r))
mutual
/-- the meaning -/
def E.den (Φ : Nat → CallSem) (γ : Nat → PyData) : E → Sm
  | .none => sCst .none
  | .bool b => sCst (.bool b)
  | .int i => sCst (.int i)
  | .str x => sCst (.str x)
  | .dict0 => sCst (.dict [])
  | .glb k => sCst (γ k)
  | .var i => sVar i
  | .tup ds => sTup (ds.den Φ γ)
  | .lst ds => sLst (ds.den Φ γ)
  | .bin o a b => sOp o.st o.f [a.den Φ γ, b.den Φ γ]
  | .neg a => sOp false dNeg [a.den Φ γ]
  | .cmp o a b => sCmp o.f [a.den Φ γ, b.den Φ γ]
  | .chain o p a b c => sChain o.f p.f (a.den Φ γ) (b.den Φ γ) (c.den Φ γ)
  | .and es => andL (es.den Φ γ)
  | .or es => orL (es.den Φ γ)
  | .not a => sNot (a.den Φ γ)
  | .ite c a b => sIte (c.den Φ γ) (a.den Φ γ) (b.den Φ γ)
  | .idx a b => sOp false dIdx [a.den Φ γ, b.den Φ γ]
  | .sl a lo hi => sSl (a.den Φ γ) (lo.den Φ γ) (hi.den Φ γ)
  | .rev a => .of (vRev (a.den Φ γ))
  | .blt f es => sOp false f.f (es.den Φ γ)
  | .isa e T => sOp false (dIsa T) [e.den Φ γ]
  | .call j as => .of (vCallP (Φ j) (as.den Φ γ))
  | .kcall j as ks _ π => .of (vCall (Φ j) π (as.den Φ γ ++ ks.den Φ γ))
  | .mcall j e => .of (vCallM (Φ j) (e.den Φ γ))
  | .lc own src tg o e => .of (vLc own (src.den Φ γ) tg (o.den Φ γ) (e.den Φ γ))
  | .app i e => .of (vApp i (e.den Φ γ))
  | .pop i => .of (vPop i)
  | .popAt i e => .of (vPopAt i (e.den Φ γ))
def Es.den (Φ : Nat → CallSem) (γ : Nat → PyData) : Es → List Sm
  | .nil => []
  | .cons e es => e.den Φ γ :: es.den Φ γ
def Ds.den (Φ : Nat → CallSem) (γ : Nat → PyData) : Ds → List (Bool × Sm)
  | .nil => []
  | .cons s e ds => (s, e.den Φ γ) :: ds.den Φ γ
def OE.den (Φ : Nat → CallSem) (γ : Nat → PyData) : OE → Option Sm
  | .no => none
  | .so e => some (e.den Φ γ)
def Gs.den (Φ : Nat → CallSem) (γ : Nat → PyData) : Gs → List Ag
  | .nil => []
  | .val e as => .val (e.den Φ γ) :: as.den Φ γ
  | .give i as => .give i :: as.den Φ γ
  | .lend i as => .lend i :: as.den Φ γ
def So.den (Φ : Nat → CallSem) (γ : Nat → PyData) : So → Src
  | .seq e => vSeq (e.den Φ γ)
  | .rng1 e => vRng1 (e.den Φ γ)
  | .rng2 a b => vRng2 (a.den Φ γ) (b.den Φ γ)
  | .zip a b => vZip (a.den Φ γ) (b.den Φ γ)
end

/-! ### the check -/
structure Tb where
  fns : List (Str × List Str)
  kws : List (Nat × List Str × Nat × List Nat)
  glbs : List Str
  blts : List Str
  gcd : Bool
def visC (sc : Scope) (y : Str) : Bool := match sc.names.lookup y with
  | some .local => true
  | some .cell => true
  | some .free => true
  | _ => false
def locC (sc : Scope) (y : Str) : Bool := match sc.names.lookup y with
  | some .local => true
  | _ => false
def lcC (sc : Scope) (y : Str) : Bool := match sc.names.lookup y with
  | some .local => true
  | some .cell => true
  | _ => false
def glC (sc : Scope) (y : Str) : Bool := match sc.names.lookup y with
  | some .globalImplicit => true
  | _ => false
def nmC (N : List Str) (sc : Scope) (i : Nat) (y : Str) : Bool := (N[i]? == some y) && visC sc y && !(y == ("__debug__" : Str)) && !(y == ("__classdict__" : Str))
def fnC (T : Tb) (sc : Scope) (j : Nat) (y : Str) (n : Nat) : Bool := (match T.fns[j]? with
  | some (x, ps) => x == y && n == ps.length
  | none => false) && glC sc y && !(y == ("__debug__" : Str))
def setFree : Expr → Bool
  | .Set .. => false
  | _ => true
def tgC (N : List Str) (sc : Scope) (fn : Str → Bool) : Tg → Expr → Bool
  | .name i, .Name y _ => (N[i]? == some y) && lcC sc y && (fn y || locC sc y)
  | .tup ts, .Tuple es _ _ => tgsC N sc fn ts es
  | _, _ => false
where tgsC (N : List Str) (sc : Scope) (fn : Str → Bool) : Tgs → List Expr → Bool
  | .nil, [] => true
  | .cons t ts, e :: es => tgC N sc fn t e && tgsC N sc fn ts es
  | _, _ => false
mutual
def E.chk (T : Tb) (N : List Str) : E → Scope → (Str → Bool) → Expr → Bool
  | .none, _, _, e => match e with
    | .Constant .none _ _ => true
    | _ => false
  | .bool b, _, _, e => match e with
    | .Constant (.bool c) _ _ => b == c
    | _ => false
  | .int i, _, _, e => match e with
    | .Constant (.int j) _ _ => i == j
    | _ => false
  | .str x, _, _, e => match e with
    | .Constant (.str y) _ _ => x == y
    | _ => false
  | .dict0, _, _, e => match e with
    | .Dict [] [] _ => true
    | _ => false
  | .glb k, sc, _, e => match e with
    | .Name y _ => (T.glbs[k]? == some y) && glC sc y && !(y == ("__debug__" : Str))
    | _ => false
  | .var i, sc, _, e => match e with
    | .Name y _ => nmC N sc i y
    | _ => false
  | .tup ds, sc, fn, e => match e with
    | .Tuple es _ _ => ds.chk T N sc fn es
    | _ => false
  | .lst ds, sc, fn, e => match e with
    | .List es _ => ds.chk T N sc fn es
    | _ => false
  | .bin o a b, sc, fn, e => match e with
    | .BinOp x op y _ => decide (op = o.op) && a.chk T N sc fn x && b.chk T N sc fn y
    | _ => false
  | .neg a, sc, fn, e => match e with
    | .UnaryOp .USub x _ => a.chk T N sc fn x
    | _ => false
  | .cmp o a b, sc, fn, e => match e with
    | .Compare x [op] [y] _ => decide (op = o.op) && !behindInMarks op y && a.chk T N sc fn x && b.chk T N sc fn y
    | _ => false
  | .chain o p a b c, sc, fn, e => match e with
    | .Compare x [op, op'] [y, z] _ => decide (op = o.op) && decide (op' = p.op) && !lastMarks [op, op'] [y, z] && a.chk T N sc fn x && b.chk T N sc fn y && c.chk T N sc fn z
    | _ => false
  | .and es, sc, fn, e => match e with
    | .BoolOp .And xs _ => !xs.isEmpty && es.chk T N sc fn xs
    | _ => false
  | .or es, sc, fn, e => match e with
    | .BoolOp .Or xs _ => !xs.isEmpty && es.chk T N sc fn xs
    | _ => false
  | .not a, sc, fn, e => match e with
    | .UnaryOp .Not x _ => a.chk T N sc fn x
    | _ => false
  | .ite c a b, sc, fn, e => match e with
    | .IfExp x y z _ => c.chk T N sc fn x && a.chk T N sc fn y && b.chk T N sc fn z
    | _ => false
  | .idx a b, sc, fn, e => match e with
    | .Subscript x y _ => noSlice y && a.chk T N sc fn x && b.chk T N sc fn y
    | _ => false
  | .sl a lo hi, sc, fn, e => match e with
    | .Subscript x (.Slice l h none _) _ => a.chk T N sc fn x && lo.chk T N sc fn l && hi.chk T N sc fn h
    | _ => false
  | .rev a, sc, fn, e => match e with
    | .Subscript x (.Slice none none (some (.UnaryOp .USub (.Constant (.int 1) _ _) _)) _) _ => a.chk T N sc fn x
    | _ => false
  | .blt f es, sc, fn, e => match e with
    | .Call (.Name y _) xs [] _ => (y == f.name) && glC sc y && (match f with
      | .gcd => T.gcd
      | _ => T.blts.contains y) && !xs.isEmpty && es.chk T N sc fn xs && xs.all noStar
    | _ => false
  | .isa a t, sc, fn, e => match e with
    | .Call (.Name y _) [x, .Name z _] [] _ => (y == ("isinstance" : Str)) && (z == Str.ofString t) && isaTypes.contains t && glC sc y && glC sc z && T.blts.contains y && T.blts.contains z && noStar x && a.chk T N sc fn x
    | _ => false
  | .call j as, sc, fn, e => match e with
    | .Call (.Name y _) xs [] _ => fnC T sc j y xs.length && as.chk T N sc fn xs
    | _ => false
  | .kcall j as ks ns π, sc, fn, e => match e with
    | .Call (.Name y _) xs kws _ => fnC T sc j y π.length && T.kws.contains (j, ns, xs.length, π) && as.chk T N sc fn xs && (kws.map (·.arg) == ns.map some) && ks.chk T N sc fn (kws.map (·.value)) && π.all (fun i => decide (i < xs.length + ns.length))
    | _ => false
  | .mcall j a, sc, fn, e => match e with
    | .Call (.Name y _) [x] [] _ => fnC T sc j y 1 && noStar x && a.chk T N sc fn x
    | _ => false
  | .lc own src tg o a, sc, fn, e => match e with
    | .ListComp x [⟨t, it, ifs, 0⟩] scope _ => setFree it && blkC N sc scope (own.map fun i => ((N[i]?).getD "", i)) && (tg.slots.all fun i => own.contains i) && src.chk T N sc fn t it &&
      tgC N (relS scope sc) (fun y => scope.names.lookup y == some .cell) tg t && o.chkL T N (relS scope sc) (fun y => scope.names.lookup y == some .cell) ifs && a.chk T N (relS scope sc) (fun y => scope.names.lookup y == some .cell) x
    | _ => false
  | .app i a, sc, fn, e => match e with
    | .Call (.Attribute (.Name y _) nm ap) [x] [] cp => (nm == ("append" : Str)) && nmC N sc i y && (ap.endLine == cp.line) && noStar x && a.chk T N sc fn x
    | _ => false
  | .pop i, sc, _, e => match e with
    | .Call (.Attribute (.Name y _) nm ap) [] [] cp => (nm == ("pop" : Str)) && nmC N sc i y && (ap.endLine == cp.line)
    | _ => false
  | .popAt i a, sc, fn, e => match e with
    | .Call (.Attribute (.Name y _) nm ap) [x] [] cp => (nm == ("pop" : Str)) && nmC N sc i y && (ap.endLine == cp.line) && noStar x && a.chk T N sc fn x
    | _ => false
def Es.chk (T : Tb) (N : List Str) : Es → Scope → (Str → Bool) → List Expr → Bool
  | .nil, _, _, es => es.isEmpty
  | .cons a r, sc, fn, es => match es with
    | e :: es => a.chk T N sc fn e && r.chk T N sc fn es
    | [] => false
def Ds.chk (T : Tb) (N : List Str) : Ds → Scope → (Str → Bool) → List Expr → Bool
  | .nil, _, _, es => es.isEmpty
  | .cons s a r, sc, fn, es => match es with
    | e :: es => (if s = true then (match e with
        | .Starred x _ => a.chk T N sc fn x
        | _ => false) else noStar e && a.chk T N sc fn e) && r.chk T N sc fn es
    | [] => false
def OE.chk (T : Tb) (N : List Str) : OE → Scope → (Str → Bool) → Option Expr → Bool
  | .no, _, _, o => o.isNone
  | .so a, sc, fn, o => match o with
    | some e => a.chk T N sc fn e
    | none => false
/-- the tests of a clause -/
def OE.chkL (T : Tb) (N : List Str) : OE → Scope → (Str → Bool) → List Expr → Bool
  | .no, _, _, es => es.isEmpty
  | .so a, sc, fn, es => match es with
    | [e] => a.chk T N sc fn e
    | _ => false
def Gs.chk (T : Tb) (N : List Str) : Gs → Scope → (Str → Bool) → List Expr → Bool
  | .nil, _, _, es => es.isEmpty
  | .val a r, sc, fn, es => match es with
    | e :: es => noStar e && a.chk T N sc fn e && r.chk T N sc fn es
    | [] => false
  | .give i r, sc, fn, es => match es with
    | .Name y _ :: es => nmC N sc i y && r.chk T N sc fn es
    | _ => false
  | .lend i r, sc, fn, es => match es with
    | .Name y _ :: es => nmC N sc i y && r.chk T N sc fn es
    | _ => false
def So.chk (T : Tb) (N : List Str) : So → Scope → (Str → Bool) → Expr → Expr → Bool
  | .seq a, sc, fn, _, e => a.chk T N sc fn e
  | .rng1 a, sc, fn, _, e => match e with
    | .Call (.Name y _) [x] [] _ => (y == ("range" : Str)) && glC sc y && T.blts.contains y && noStar x && a.chk T N sc fn x
    | _ => false
  | .rng2 a b, sc, fn, _, e => match e with
    | .Call (.Name y _) [x, z] [] _ => (y == ("range" : Str)) && glC sc y && T.blts.contains y && noStar x && noStar z && a.chk T N sc fn x && b.chk T N sc fn z
    | _ => false
  | .zip a b, sc, fn, tg, e => match tg, e with
    | .Tuple _ _ _, .Call (.Name y _) [x, z] [] _ => (y == ("zip" : Str)) && glC sc y && T.blts.contains y && noStar x && noStar z && a.chk T N sc fn x && b.chk T N sc fn z
    | _, _ => false
end
end Tw
end STwT

section STwU
/-! Part U: the check is sound (expressions). -/
namespace Tw
open PySem PySem.Spec PyProof.Rows L2

structure TbOk (P : Program) (w : World) (K : PySem.W.Frag) (mg : Str → Option Value) (base : Heap) (k : Nat) (Φ : Nat → CallSem) (γ : Nat → PyData) (T : Tb) : Prop where
  fn : ∀ j x ps, T.fns[j]? = some (x, ps) → ∃ f fd, FnG P w K mg base k f fd ps (spC K mg ps.length (Φ j)) ∧ mg x = some (.ref f) ∧ PySem.W.keepIn K (.ref f) = true ∧ Binds K fd ps [] ∧ ∀ ns n π, (j, ns, n, π) ∈ T.kws → BindK fd ps ns n π
  glb : ∀ k x, T.glbs[k]? = some x → ∃ v u, mg x = some u ∧ RelV v u ∧ ∀ H B, Rp K H B v (γ k)
  blt : ∀ x, T.blts.contains x = true → mg x = none
  gcd : T.gcd = true → mg "gcd" = some (.builtin "math.gcd")
section
variable {P : Program} {w : World} {K : PySem.W.Frag} {mg : Str → Option Value} {base : Heap} {k : Nat} {N : List Str} {sc : Scope} {fn : Str → Bool} {X : Cx} {W : WX} {Φ : Nat → CallSem} {γ : Nat → PyData} {T : Tb}
theorem visC_of {y : Str} (h : visC sc y = true) : Vis sc y := by
  unfold visC at h
  split at h
  · rename_i e; exact .inl e
  · rename_i e; exact .inr (.inl e)
  · rename_i e; exact .inr (.inr e)
  · cases h
theorem lcC_of {y : Str} (h : lcC sc y = true) : Loc sc y := by
  unfold lcC at h
  split at h
  · rename_i e; exact .inl e
  · rename_i e; exact .inr e
  · cases h
theorem locC_of {y : Str} (h : locC sc y = true) : sc.names.lookup y = some .local := by
  unfold locC at h
  split at h
  · rename_i e; exact e
  · cases h
theorem glC_of {y : Str} (h : glC sc y = true) : sc.names.lookup y = some .globalImplicit := by
  unfold glC at h
  split at h
  · rename_i e; exact e
  · cases h
theorem Hm.gl (h : Hm P w K mg base k N sc fn X W) {y : Str} (e : glC sc y = true) : Gl X y := by
  show X.env.scope.names.lookup y = _
  rw [h.scope]; exact glC_of e
theorem Hm.nm (h : Hm P w K mg base k N sc fn X W) {i : Nat} {y : Str} (e : nmC N sc i y = true) : X.N[i]? = some y ∧ Vis X.env.scope y ∧ (y == ("__debug__" : Str)) = false ∧ (y == ("__classdict__" : Str)) = false := by
  unfold nmC at e
  simp only [Bool.and_eq_true, Bool.not_eq_true', beq_iff_eq] at e
  obtain ⟨⟨⟨e1, e2⟩, e3⟩, e4⟩ := e
  rw [h.N, h.scope]
  exact ⟨e1, visC_of e2, by simpa using e3, by simpa using e4⟩
theorem Hm.blk (h : Hm P w K mg base k N sc fn X W) {scope : Scope} (hk : scope.kind = .function) (s : Shared) (H : Hp) (C : Addr) (cl : List (Str × Addr)) (fp : List Addr) :
    Hm P w K mg base k N (relS scope sc) (fun y => scope.names.lookup y == some .cell) (X.blk s H scope (compEnvC scope cl C X.env) fp) WF :=
  ⟨h.prog, h.w, h.K, h.mg, h.base, h.room, h.guards, h.N, h.nd, by show relS scope X.env.scope = _; rw [h.scope], hk, h.calm, takes_wf, fun x e => e⟩
/-- a callee's facts, in a context -/
theorem Hm.callee (h : Hm P w K mg base k N sc fn X W) (tb : TbOk P w K mg base k Φ γ T) {j n : Nat} {y : Str} (e : fnC T sc j y n = true) : ∃ f fd ps, n = ps.length ∧ FnG X.prog X.w X.K X.mg X.base k f fd ps (spC X.K X.mg ps.length (Φ j)) ∧ X.mg y = some (.ref f) ∧ PySem.W.keepIn X.K (.ref f) = true ∧
    Binds X.K fd ps [] ∧ (∀ ns n π, (j, ns, n, π) ∈ T.kws → BindK fd ps ns n π) ∧ Gl X y ∧ (y == ("__debug__" : Str)) = false := by
  unfold fnC at e
  simp only [Bool.and_eq_true, Bool.not_eq_true'] at e
  obtain ⟨⟨e1, e2⟩, e3⟩ := e
  split at e1
  · rename_i x ps hj
    simp only [Bool.and_eq_true, beq_iff_eq] at e1
    obtain ⟨rfl, rfl⟩ := e1
    obtain ⟨f, fd, g1, g2, g3, g4, g5⟩ := tb.fn j x ps hj
    rw [h.prog, h.w, h.K, h.mg, h.base]
    exact ⟨f, fd, ps, rfl, g1, g2, g3, g4, g5, h.gl e2, e3⟩
  · cases e1
theorem SndT.mk (h : Hm P w K mg base k N sc fn X W) : ∀ {t : Tg} {e : Expr}, tgC N sc fn t e = true → SndT X e t
  | t, e, q => by
    refine Tg.rec (motive_1 := fun t => ∀ e, tgC N sc fn t e = true → SndT X e t) (motive_2 := fun ts => ∀ es, tgC.tgsC N sc fn ts es = true → SndTs X es ts) (fun i e q => ?_) (fun ts ih e q => ?_) (fun es q => ?_) (fun t ts h1 h2 es q => ?_) t e q
    · cases e with
      | Name y p =>
        simp only [tgC, Bool.and_eq_true, beq_iff_eq, Bool.or_eq_true] at q
        obtain ⟨⟨q1, q2⟩, q3⟩ := q
        refine .name (by rw [h.N]; exact q1) (by rw [h.scope]; exact lcC_of q2) ?_
        rcases q3 with q3 | q3
        · exact .inl (h.fn y q3)
        · exact .inr (by rw [h.scope]; exact locC_of q3)
      | _ => simp [tgC] at q
    · cases e with
      | Tuple es n p => exact .tup (ih es (by simpa [tgC] using q))
      | _ => simp [tgC] at q
    · cases es with
      | nil => exact .nil
      | cons e es => simp [tgC.tgsC] at q
    · cases es with
      | nil => simp [tgC.tgsC] at q
      | cons e es =>
        simp only [tgC.tgsC, Bool.and_eq_true] at q
        exact .cons (h1 e q.1) (h2 es q.2)
theorem setFree_of {e : Expr} (h : setFree e = true) (env : Env) (x : Value) : foldedSetIterable e env x = pure x := by
  cases e <;> first | rfl | cases h
theorem plainIx_of {e : Expr} (h : noSlice e = true) : PlainIx e := fun o i => by
  cases e <;> first | rfl | cases h
theorem hasL {l : List Str} {x : Str} (h : x ∈ l) : l.contains x = true := by simpa using h
theorem kw_split : ∀ {kws : List Keyword} {ns : List Str} {as : List Ag}, kws.map (·.arg) = ns.map some → SndA X W (kws.map (·.value)) as → SndK X W kws ns as
  | [], [], _, _, h => by cases h; exact .nil
  | [], n :: ns, _, e, _ => by cases e
  | kw :: kws, [], _, e, _ => by cases e
  | ⟨a, v, p⟩ :: kws, n :: ns, _, e, h => by
    rw [List.map_cons, List.map_cons, List.cons.injEq] at e
    obtain ⟨e1, e2⟩ := e
    cases e1
    cases h with
    | cons _ h1 h2 => exact .cons h1 (kw_split e2 h2)
end
mutual
theorem E.snd {P : Program} {w : World} {K : PySem.W.Frag} {mg : Str → Option Value} {base : Heap} {k : Nat} {N : List Str} {Φ : Nat → CallSem} {γ : Nat → PyData} {T : Tb} (tb : TbOk P w K mg base k Φ γ T) :
    ∀ (a : E) {sc : Scope} {fn : Str → Bool} {X : Cx} {W : WX} {e : Expr}, Hm P w K mg base k N sc fn X W → a.chk T N sc fn e = true → Snd X W e (a.den Φ γ)
  | .none, _, _, X, W, e, h, q => by
    simp only [E.chk] at q
    split at q
    · exact cstNone
    · cases q
  | .bool b, _, _, X, W, e, h, q => by
    simp only [E.chk] at q
    split at q
    · rw [beq_iff_eq] at q; subst q; exact cstBool
    · cases q
  | .int i, _, _, X, W, e, h, q => by
    simp only [E.chk] at q
    split at q
    · rw [beq_iff_eq] at q; subst q; exact cstInt
    · cases q
  | .str x, _, _, X, W, e, h, q => by
    simp only [E.chk] at q
    split at q
    · rw [beq_iff_eq] at q; subst q; exact cstStr
    · cases q
  | .dict0, _, _, X, W, e, h, q => by
    simp only [E.chk] at q
    split at q
    · exact cstDict
    · cases q
  | .glb k, _, _, X, W, e, h, q => by
    simp only [E.chk] at q
    split at q
    · rename_i y p
      simp only [Bool.and_eq_true, Bool.not_eq_true', beq_iff_eq] at q
      obtain ⟨v, u, g1, g2, g3⟩ := tb.glb k y q.1.1
      exact .of (pe_cst (pe_glob (h.gl q.1.2) (by rw [h.mg]; exact g1) g2 (by simpa using q.2)) fun H B => by rw [h.K]; exact g3 H B) rfl
    · cases q
  | .var i, _, _, X, W, e, h, q => by
    simp only [E.chk] at q
    split at q
    · obtain ⟨g1, g2, g3, g4⟩ := h.nm q
      exact snd_var g1 g2 g3 g4
    · cases q
  | .tup ds, _, _, X, W, e, h, q => by
    simp only [E.chk] at q
    split at q
    · exact snd_tup (Ds.snd tb ds h q)
    · cases q
  | .lst ds, _, _, X, W, e, h, q => by
    simp only [E.chk] at q
    split at q
    · exact snd_lst (Ds.snd tb ds h q)
    · cases q
  | .bin o a b, _, _, X, W, e, h, q => by
    simp only [E.chk] at q
    split at q
    · simp only [Bool.and_eq_true, decide_eq_true_eq] at q
      obtain ⟨⟨rfl, q1⟩, q2⟩ := q
      exact BOp.snd h o (E.snd tb a h q1) (E.snd tb b h q2)
    · cases q
  | .neg a, _, _, X, W, e, h, q => by
    simp only [E.chk] at q
    split at q
    · exact snd_un (by decide) un_neg ok_neg (E.snd tb a h q)
    · cases q
  | .cmp o a b, _, _, X, W, e, h, q => by
    simp only [E.chk] at q
    split at q
    · simp only [Bool.and_eq_true, decide_eq_true_eq, Bool.not_eq_true'] at q
      obtain ⟨⟨⟨rfl, q1⟩, q2⟩, q3⟩ := q
      obtain ⟨r, g1, g2⟩ := COp.rule h o
      exact snd_cmp g1 g2 (E.snd tb a h q2) (E.snd tb b h q3) q1
    · cases q
  | .chain o p a b c, _, _, X, W, e, h, q => by
    simp only [E.chk] at q
    split at q
    · simp only [Bool.and_eq_true, decide_eq_true_eq, Bool.not_eq_true'] at q
      obtain ⟨⟨⟨⟨⟨rfl, rfl⟩, q1⟩, q2⟩, q3⟩, q4⟩ := q
      obtain ⟨r, g1, g2⟩ := COp.rule h o
      obtain ⟨r', g3, g4⟩ := COp.rule h p
      exact snd_chain g1 g3 g2 g4 (E.snd tb a h q2) (E.snd tb b h q3) (E.snd tb c h q4) q1
    · cases q
  | .and es, _, _, X, W, e, h, q => by
    simp only [E.chk] at q
    split at q
    · rename_i xs p
      simp only [Bool.and_eq_true, Bool.not_eq_true'] at q
      exact (Es.sndAnd tb es h q.2 q.1 p).snd
    · cases q
  | .or es, _, _, X, W, e, h, q => by
    simp only [E.chk] at q
    split at q
    · rename_i xs p
      simp only [Bool.and_eq_true, Bool.not_eq_true'] at q
      exact (Es.sndOr tb es h q.2 q.1 p).snd
    · cases q
  | .not a, _, _, X, W, e, h, q => by
    simp only [E.chk] at q
    split at q
    · exact snd_not (E.snd tb a h q)
    · cases q
  | .ite c a b, _, _, X, W, e, h, q => by
    simp only [E.chk] at q
    split at q
    · simp only [Bool.and_eq_true] at q
      exact snd_ite (E.snd tb c h q.1.1) (E.snd tb a h q.1.2) (E.snd tb b h q.2)
    · cases q
  | .idx a b, _, _, X, W, e, h, q => by
    simp only [E.chk] at q
    split at q
    · simp only [Bool.and_eq_true] at q
      exact snd_ix ix_seq ok_idx (E.snd tb a h q.1.2) (E.snd tb b h q.2) (plainIx_of q.1.1)
    · cases q
  | .sl a lo hi, _, _, X, W, e, h, q => by
    simp only [E.chk] at q
    split at q
    · simp only [Bool.and_eq_true] at q
      exact snd_sl (E.snd tb a h q.1.1) (OE.snd tb lo h q.1.2) (OE.snd tb hi h q.2)
    · cases q
  | .rev a, _, _, X, W, e, h, q => by
    simp only [E.chk] at q
    split at q
    · exact snd_rev (E.snd tb a h q)
    · cases q
  | .blt f es, _, _, X, W, e, h, q => by
    simp only [E.chk] at q
    split at q
    · rename_i y p xs p2
      simp only [Bool.and_eq_true, beq_iff_eq, Bool.not_eq_true'] at q
      obtain ⟨⟨⟨⟨⟨rfl, q1⟩, q2⟩, q3⟩, q4⟩, q5⟩ := q
      cases xs with
      | nil => cases q3
      | cons x xs =>
        refine BF.snd h f (h.gl q1) (fun n => ?_) (fun n => ?_) (Es.sndL tb es h q4 q5)
        · rw [h.mg]
          refine tb.blt _ ?_
          cases f <;> first | exact q2 | exact absurd rfl n
        · subst n
          rw [h.mg]
          exact tb.gcd q2
    · cases q
  | .isa a t, _, _, X, W, e, h, q => by
    simp only [E.chk] at q
    split at q
    · simp only [Bool.and_eq_true, beq_iff_eq] at q
      obtain ⟨⟨⟨⟨⟨⟨⟨⟨rfl, rfl⟩, q1⟩, q2⟩, q3⟩, q4⟩, q5⟩, q6⟩, q7⟩ := q
      exact snd_isa (by simpa using q1) (h.gl q2) (by rw [h.mg]; exact tb.blt _ q4) (h.gl q3) (by rw [h.mg]; exact tb.blt _ q5) q6 (E.snd tb a h q7)
    · cases q
  | .call j as, _, _, X, W, e, h, q => by
    simp only [E.chk] at q
    split at q
    · simp only [Bool.and_eq_true] at q
      obtain ⟨f, fd, ps, hn, g1, g2, g3, g4, _, g6, g7⟩ := h.callee tb q.1
      have A := Gs.snd tb as h q.2
      exact snd_call g1 h.room h.guards h.takes g6 g2 g3 g4 g7 A (A.length.symm.trans hn)
    · cases q
  | .kcall j as ks ns π, _, _, X, W, e, h, q => by
    simp only [E.chk] at q
    split at q
    · simp only [Bool.and_eq_true, beq_iff_eq, List.all_eq_true, decide_eq_true_eq] at q
      obtain ⟨⟨⟨⟨⟨q1, q2⟩, q3⟩, q4⟩, q5⟩, q6⟩ := q
      obtain ⟨f, fd, ps, hn, g1, g2, g3, g4, g5, g6, g7⟩ := h.callee tb q1
      exact snd_kcall g1 h.room h.guards h.takes g6 g2 g3 (g5 _ _ _ (by simpa using q2)) g7 (Gs.snd tb as h q3) (kw_split q4 (Gs.snd tb ks h q5)) hn q6
    · cases q
  | .mcall j a, _, _, X, W, e, h, q => by
    simp only [E.chk] at q
    split at q
    · simp only [Bool.and_eq_true] at q
      obtain ⟨f, fd, ps, hn, g1, g2, g3, g4, _, g6, g7⟩ := h.callee tb q.1.1
      rw [← hn] at g1
      exact snd_mcall g1 h.room h.guards h.takes g6 g2 g3 g4 g7 q.1.2 (E.snd tb a h q.2)
    · cases q
  | .lc own src tg o a, _, _, X, W, e, h, q => by
    simp only [E.chk] at q
    split at q
    · rename_i x t it ifs scope p
      simp only [Bool.and_eq_true, List.all_eq_true] at q
      obtain ⟨⟨⟨⟨⟨⟨q1, q2⟩, q3⟩, q4⟩, q5⟩, q6⟩, q7⟩ := q
      have ok : BlkOk X.N X.env.scope scope (own.map fun i => ((N[i]?).getD "", i)) := by
        rw [h.N, h.scope]; exact blkOk_by q2
      have eo : (own.map fun i => ((N[i]?).getD ("" : Str), i)).map (·.2) = own := by
        rw [List.map_map]
        exact List.map_id own
      have z := snd_lc (own := own.map fun i => ((N[i]?).getD "", i)) (pos := p) h.calm h.nd (So.snd tb src h q4) ok (fun i hi => by rw [eo]; simpa using q3 i hi) (fun s H C cl fp => SndT.mk (h.blk ok.kind s H C cl fp) q5)
        (fun s H C cl fp => OE.sndT tb o (h.blk ok.kind s H C cl fp) q6) (fun s H C cl fp => E.snd tb a (h.blk ok.kind s H C cl fp) q7) (fun x => setFree_of q1 _ x)
      rw [eo] at z
      exact z
    · cases q
  | .app i a, _, _, X, W, e, h, q => by
    simp only [E.chk] at q
    split at q
    · simp only [Bool.and_eq_true, beq_iff_eq] at q
      obtain ⟨⟨⟨⟨rfl, q1⟩, q2⟩, q3⟩, q4⟩ := q
      obtain ⟨g1, g2, g3, g4⟩ := h.nm q1
      exact snd_app g1 g2 g3 g4 q3 (by simpa using q2) (E.snd tb a h q4)
    · cases q
  | .pop i, _, _, X, W, e, h, q => by
    simp only [E.chk] at q
    split at q
    · simp only [Bool.and_eq_true, beq_iff_eq] at q
      obtain ⟨⟨rfl, q1⟩, q2⟩ := q
      obtain ⟨g1, g2, g3, g4⟩ := h.nm q1
      exact snd_pop g1 g2 g3 g4 (by simpa using q2)
    · cases q
  | .popAt i a, _, _, X, W, e, h, q => by
    simp only [E.chk] at q
    split at q
    · simp only [Bool.and_eq_true, beq_iff_eq] at q
      obtain ⟨⟨⟨⟨rfl, q1⟩, q2⟩, q3⟩, q4⟩ := q
      obtain ⟨g1, g2, g3, g4⟩ := h.nm q1
      exact snd_popAt g1 g2 g3 g4 q3 (by simpa using q2) (E.snd tb a h q4)
    · cases q
theorem Es.sndL {P : Program} {w : World} {K : PySem.W.Frag} {mg : Str → Option Value} {base : Heap} {k : Nat} {N : List Str} {Φ : Nat → CallSem} {γ : Nat → PyData} {T : Tb} (tb : TbOk P w K mg base k Φ γ T) :
    ∀ (a : Es) {sc : Scope} {fn : Str → Bool} {X : Cx} {W : WX} {es : List Expr}, Hm P w K mg base k N sc fn X W → a.chk T N sc fn es = true → es.all noStar = true → SndL X W es (a.den Φ γ)
  | .nil, _, _, X, W, es, h, q, n => by
    cases es with
    | nil => exact .nil
    | cons e es => simp [Es.chk] at q
  | .cons a r, _, _, X, W, es, h, q, n => by
    cases es with
    | nil => simp [Es.chk] at q
    | cons e es =>
      simp only [Es.chk, Bool.and_eq_true] at q
      rw [List.all_cons, Bool.and_eq_true] at n
      exact .cons n.1 (E.snd tb a h q.1) (Es.sndL tb r h q.2 n.2)
theorem Es.sndAnd {P : Program} {w : World} {K : PySem.W.Frag} {mg : Str → Option Value} {base : Heap} {k : Nat} {N : List Str} {Φ : Nat → CallSem} {γ : Nat → PyData} {T : Tb} (tb : TbOk P w K mg base k Φ γ T) :
    ∀ (a : Es) {sc : Scope} {fn : Str → Bool} {X : Cx} {W : WX} {es : List Expr}, Hm P w K mg base k N sc fn X W → a.chk T N sc fn es = true → es.isEmpty = false → ∀ pos, SndW X W (.BoolOp .And es pos) (andL (a.den Φ γ))
  | .nil, _, _, X, W, es, h, q, n, pos => by
    cases es with
    | nil => cases n
    | cons e es => simp [Es.chk] at q
  | .cons a .nil, _, _, X, W, es, h, q, n, pos => by
    cases es with
    | nil => cases n
    | cons e es =>
      simp only [Es.chk, Bool.and_eq_true] at q
      cases es with
      | nil => exact snd_one (E.snd tb a h q.1) (.inl rfl)
      | cons _ _ => cases q.2
  | .cons a (.cons b r), _, _, X, W, es, h, q, n, pos => by
    cases es with
    | nil => cases n
    | cons e es =>
      have q : (a.chk T N _ _ e && (Es.cons b r).chk T N _ _ es) = true := q
      rw [Bool.and_eq_true] at q
      cases es with
      | nil => simp [Es.chk] at q
      | cons e2 es => exact snd_and (E.snd tb a h q.1) (Es.sndAnd tb (.cons b r) h q.2 rfl pos)
theorem Es.sndOr {P : Program} {w : World} {K : PySem.W.Frag} {mg : Str → Option Value} {base : Heap} {k : Nat} {N : List Str} {Φ : Nat → CallSem} {γ : Nat → PyData} {T : Tb} (tb : TbOk P w K mg base k Φ γ T) :
    ∀ (a : Es) {sc : Scope} {fn : Str → Bool} {X : Cx} {W : WX} {es : List Expr}, Hm P w K mg base k N sc fn X W → a.chk T N sc fn es = true → es.isEmpty = false → ∀ pos, SndW X W (.BoolOp .Or es pos) (orL (a.den Φ γ))
  | .nil, _, _, X, W, es, h, q, n, pos => by
    cases es with
    | nil => cases n
    | cons e es => simp [Es.chk] at q
  | .cons a .nil, _, _, X, W, es, h, q, n, pos => by
    cases es with
    | nil => cases n
    | cons e es =>
      simp only [Es.chk, Bool.and_eq_true] at q
      cases es with
      | nil => exact snd_one (E.snd tb a h q.1) (.inr rfl)
      | cons _ _ => cases q.2
  | .cons a (.cons b r), _, _, X, W, es, h, q, n, pos => by
    cases es with
    | nil => cases n
    | cons e es =>
      have q : (a.chk T N _ _ e && (Es.cons b r).chk T N _ _ es) = true := q
      rw [Bool.and_eq_true] at q
      cases es with
      | nil => simp [Es.chk] at q
      | cons e2 es => exact snd_or (E.snd tb a h q.1) (Es.sndOr tb (.cons b r) h q.2 rfl pos)
theorem Ds.snd {P : Program} {w : World} {K : PySem.W.Frag} {mg : Str → Option Value} {base : Heap} {k : Nat} {N : List Str} {Φ : Nat → CallSem} {γ : Nat → PyData} {T : Tb} (tb : TbOk P w K mg base k Φ γ T) :
    ∀ (a : Ds) {sc : Scope} {fn : Str → Bool} {X : Cx} {W : WX} {es : List Expr}, Hm P w K mg base k N sc fn X W → a.chk T N sc fn es = true → SndD X W es (a.den Φ γ)
  | .nil, _, _, X, W, es, h, q => by
    cases es with
    | nil => exact .nil
    | cons e es => simp [Ds.chk] at q
  | .cons s a r, _, _, X, W, es, h, q => by
    cases es with
    | nil => simp [Ds.chk] at q
    | cons e es =>
      simp only [Ds.chk, Bool.and_eq_true] at q
      cases s with
      | true =>
        rw [if_pos rfl] at q
        obtain ⟨q1, q2⟩ := q
        split at q1
        · exact .star (E.snd tb a h q1) (Ds.snd tb r h q2)
        · cases q1
      | false =>
        rw [if_neg Bool.false_ne_true] at q
        rw [Bool.and_eq_true] at q
        exact .cons q.1.1 (E.snd tb a h q.1.2) (Ds.snd tb r h q.2)
theorem OE.snd {P : Program} {w : World} {K : PySem.W.Frag} {mg : Str → Option Value} {base : Heap} {k : Nat} {N : List Str} {Φ : Nat → CallSem} {γ : Nat → PyData} {T : Tb} (tb : TbOk P w K mg base k Φ γ T) :
    ∀ (a : OE) {sc : Scope} {fn : Str → Bool} {X : Cx} {W : WX} {e : Option Expr}, Hm P w K mg base k N sc fn X W → a.chk T N sc fn e = true → SndP X W e (a.den Φ γ)
  | .no, _, _, X, W, e, h, q => by
    cases e with
    | none => exact .none
    | some e => simp [OE.chk] at q
  | .so a, _, _, X, W, e, h, q => by
    cases e with
    | none => simp [OE.chk] at q
    | some e => exact .some (E.snd tb a h (by simpa [OE.chk] using q))
theorem OE.sndT {P : Program} {w : World} {K : PySem.W.Frag} {mg : Str → Option Value} {base : Heap} {k : Nat} {N : List Str} {Φ : Nat → CallSem} {γ : Nat → PyData} {T : Tb} (tb : TbOk P w K mg base k Φ γ T) :
    ∀ (a : OE) {sc : Scope} {fn : Str → Bool} {X : Cx} {W : WX} {es : List Expr}, Hm P w K mg base k N sc fn X W → a.chkL T N sc fn es = true → SndTst X W es (a.den Φ γ)
  | .no, _, _, X, W, es, h, q => by
    cases es with
    | nil => exact sndTst_nil
    | cons e es => simp [OE.chkL] at q
  | .so a, _, _, X, W, es, h, q => by
    simp only [OE.chkL] at q
    split at q
    · exact sndTst_one (E.snd tb a h q)
    · cases q
theorem Gs.snd {P : Program} {w : World} {K : PySem.W.Frag} {mg : Str → Option Value} {base : Heap} {k : Nat} {N : List Str} {Φ : Nat → CallSem} {γ : Nat → PyData} {T : Tb} (tb : TbOk P w K mg base k Φ γ T) :
    ∀ (a : Gs) {sc : Scope} {fn : Str → Bool} {X : Cx} {W : WX} {es : List Expr}, Hm P w K mg base k N sc fn X W → a.chk T N sc fn es = true → SndA X W es (a.den Φ γ)
  | .nil, _, _, X, W, es, h, q => by
    cases es with
    | nil => exact .nil
    | cons e es => simp [Gs.chk] at q
  | .val a r, _, _, X, W, es, h, q => by
    cases es with
    | nil => simp [Gs.chk] at q
    | cons e es =>
      simp only [Gs.chk, Bool.and_eq_true] at q
      exact .cons q.1.1 (E.snd tb a h q.1.2) (Gs.snd tb r h q.2)
  | .give i r, _, _, X, W, es, h, q => by
    simp only [Gs.chk] at q
    split at q
    · rw [Bool.and_eq_true] at q
      obtain ⟨g1, g2, g3, g4⟩ := h.nm q.1
      exact .cons rfl ⟨_, _, rfl, g1, g2, g3, g4⟩ (Gs.snd tb r h q.2)
    · cases q
  | .lend i r, _, _, X, W, es, h, q => by
    simp only [Gs.chk] at q
    split at q
    · rw [Bool.and_eq_true] at q
      obtain ⟨g1, g2, g3, g4⟩ := h.nm q.1
      exact .cons rfl ⟨_, _, rfl, g1, g2, g3, g4⟩ (Gs.snd tb r h q.2)
    · cases q
theorem So.snd {P : Program} {w : World} {K : PySem.W.Frag} {mg : Str → Option Value} {base : Heap} {k : Nat} {N : List Str} {Φ : Nat → CallSem} {γ : Nat → PyData} {T : Tb} (tb : TbOk P w K mg base k Φ γ T) :
    ∀ (a : So) {sc : Scope} {fn : Str → Bool} {X : Cx} {W : WX} {tg e : Expr}, Hm P w K mg base k N sc fn X W → a.chk T N sc fn tg e = true → SndI X W tg e (a.den Φ γ)
  | .seq a, _, _, X, W, tg, e, h, q => sndI_seq (E.snd tb a h (by simpa [So.chk] using q))
  | .rng1 a, _, _, X, W, tg, e, h, q => by
    simp only [So.chk] at q
    split at q
    · simp only [Bool.and_eq_true, beq_iff_eq] at q
      obtain ⟨⟨⟨⟨rfl, q1⟩, q2⟩, q3⟩, q4⟩ := q
      exact sndI_rng1 (h.gl q1) (by rw [h.mg]; exact tb.blt _ q2) q3 (E.snd tb a h q4)
    · cases q
  | .rng2 a b, _, _, X, W, tg, e, h, q => by
    simp only [So.chk] at q
    split at q
    · simp only [Bool.and_eq_true, beq_iff_eq] at q
      obtain ⟨⟨⟨⟨⟨⟨rfl, q1⟩, q2⟩, q3⟩, q4⟩, q5⟩, q6⟩ := q
      exact sndI_rng2 (h.gl q1) (by rw [h.mg]; exact tb.blt _ q2) q3 q4 (E.snd tb a h q5) (E.snd tb b h q6)
    · cases q
  | .zip a b, _, _, X, W, tg, e, h, q => by
    simp only [So.chk] at q
    split at q
    · simp only [Bool.and_eq_true, beq_iff_eq] at q
      obtain ⟨⟨⟨⟨⟨⟨rfl, q1⟩, q2⟩, q3⟩, q4⟩, q5⟩, q6⟩ := q
      exact sndI_zip (h.gl q1) (by rw [h.mg]; exact tb.blt _ q2) q3 q4 (E.snd tb a h q5) (E.snd tb b h q6)
    · cases q
end
end Tw
end STwU

section STwV
/-! Part V: statements as terms, the check, soundness. -/
namespace Tw
open PySem PySem.Spec PyProof.Rows L2

mutual
inductive TI' where
  | name (i : Nat)
  | sub (i : Nat) (e : E)
  | tup (ts : TIs)
inductive TIs where
  | nil
  | cons (t : TI') (ts : TIs)
end
mutual
def TI'.den (Φ : Nat → CallSem) (γ : Nat → PyData) : TI' → TgS
  | .name i => .name i
  | .sub i e => .sub i (e.den Φ γ)
  | .tup ts => .tup (ts.den Φ γ)
def TIs.den (Φ : Nat → CallSem) (γ : Nat → PyData) : TIs → TgSs
  | .nil => .nil
  | .cons t ts => .cons (t.den Φ γ) (ts.den Φ γ)
end
mutual
inductive S where
  | pass | brk | cont | raise
  | set (i : Nat) (e : E)
  | par (is : List Nat) (es : Es)
  | asg (t : TI') (e : E)
  | expr (e : E)
  | ret (e : E)
  | retVar (i : Nat)
  | retN
  | ite (c : E) (a b : Ss)
  | for (s : So) (t : Tg) (b : Ss)
  | whl (c : E) (b : Ss)
inductive Ss where
  | nil
  | cons (s : S) (ss : Ss)
end
def mStuck : StS := fun _ => none
mutual
noncomputable def S.den (Φ : Nat → CallSem) (γ : Nat → PyData) : S → StS
  | .pass => mNx
  | .brk => mFl .bk
  | .cont => mFl .ct
  | .raise => mStuck
  | .set i e => mSet i (e.den Φ γ)
  | .par is es => mPar is (es.den Φ γ)
  | .asg t e => mAsg (t.den Φ γ) (e.den Φ γ)
  | .expr e => mExpr (e.den Φ γ)
  | .ret e => mRet (e.den Φ γ)
  | .retVar i => mRetVar i
  | .retN => mFl (.rt (.frz .none))
  | .ite c a b => mIf (c.den Φ γ).t (a.den Φ γ) (b.den Φ γ)
  | .for s t b => mFor (s.den Φ γ) t (b.den Φ γ)
  | .whl c b => mWhile (c.den Φ γ).t (b.den Φ γ)
noncomputable def Ss.den (Φ : Nat → CallSem) (γ : Nat → PyData) : Ss → StS
  | .nil => mNx
  | .cons s ss => mSeq (s.den Φ γ) (ss.den Φ γ)
end

/-! ### when stores are swapped, when a comprehension is laid into its caller's place -/
def isComp : Expr → Bool
  | .ListComp .. => true
  | .SetComp .. => true
  | .DictComp .. => true
  | _ => false
theorem sw_none {e : Expr} {t : Option Expr} {l : Nat} {env : Env} (h : isComp e = false) : swapsWith e t l env = pure false := by
  cases e <;> first | rfl | cases h
def notTup : Expr → Bool
  | .Tuple .. => false
  | _ => true
/-- the pair of lists, where both sides are tuples -/
def swOf (sc : Scope) (ts vs : List Expr) : Option (Option (List Str)) :=
  if !(ts.length == 2 || ts.length == 3) || vs.length != ts.length then some none else
  if (vs.any fun | .Starred .. => true | _ => false) = true then some none else
  let line := (ts.head?.map (·.pos.line)).getD 0
  let names := ts.filterMap fun
    | .Name id pos => if sc.names.lookup id == some .local && pos.line == line then some id else none
    | _ => none
  if names.length != ts.length || names.eraseDups.length != names.length then some none else
  if vs.all (foldedForSure 8) then some none else
  if vs.all (constantsAlone 8) then none else some (some names)
theorem swOf_ok {sc : Scope} {ts vs : List Expr} {k k2 : Nat} {p p2 : Pos} {env : Env} {o : Option (List Str)} (hs : env.scope = sc) (hk : sc.kind = .function) (h : swOf sc ts vs = some o) : swappedStores [.Tuple ts k p] (.Tuple vs k2 p2) env = pure o := by
  have hb : env.blockKind = .function := by unfold Env.blockKind; rw [hs, hk]; rfl
  have hl : ∀ y, env.kindOf y = sc.names.lookup y := fun y => by unfold Env.kindOf; rw [hs]
  unfold swOf at h
  unfold swappedStores
  simp only [hb, hl]
  split at h
  · rename_i c
    cases h
    have c' : (!(ts.length == 2 || ts.length == 3) || vs.length != ts.length || ScopeKind.function != ScopeKind.function) = true := by rw [c]; rfl
    simp only [c', if_true]
  · rename_i c
    have c' : (!(ts.length == 2 || ts.length == 3) || vs.length != ts.length || ScopeKind.function != ScopeKind.function) = false := by
      rw [Bool.eq_false_iff.mpr c]; rfl
    simp only [c', Bool.false_eq_true, if_false]
    split at h
    · rename_i c2
      cases h
      refine Eq.trans (if_pos ?_) rfl
      exact c2
    · rename_i c2
      refine Eq.trans (if_neg ?_) ?_
      · exact c2
      dsimp only at h
      split at h
      · rename_i c3
        cases h
        refine Eq.trans (if_pos ?_) rfl
        exact c3
      · rename_i c3
        refine Eq.trans (if_neg ?_) ?_
        · exact c3
        split at h
        · rename_i c4
          cases h
          refine Eq.trans (if_pos ?_) rfl
          exact c4
        · rename_i c4
          refine Eq.trans (if_neg ?_) ?_
          · exact c4
          split at h
          · cases h
          · rename_i c5
            cases h
            refine Eq.trans (if_neg ?_) ?_
            · exact c5
            rfl

/-! ### names = results, by a tuple: own lists stay one's own -/
inductive SndNs (X : Cx) : List Expr → List Nat → Prop
  | nil : SndNs X [] []
  | cons {y : Str} {p : Pos} {i : Nat} {es : List Expr} {is : List Nat} : X.N[i]? = some y → Loc X.env.scope y → (X.fn y = true ∨ X.env.scope.names.lookup y = some .local) → SndNs X es is → SndNs X (.Name y p :: es) (i :: is)
def gNs : List Nat → TGs
  | [] => gNil
  | i :: is => gCons (gName i) (gNs is)
theorem SndNs.each {X : Cx} : ∀ {es : List Expr} {is : List Nat}, SndNs X es is → (assignEach es X.env).length = is.length ∧ (assignEach es X.env).findIdx? (·.1) = none
  | _, _, .nil => ⟨rfl, rfl⟩
  | _, _, .cons (y := y) (p := p) (es := es) _ _ _ t => by
    obtain ⟨h1, h2⟩ := SndNs.each t
    have e : assignEach (.Name y p :: es) X.env = (false, _) :: assignEach es X.env := rfl
    rw [e]
    refine ⟨by rw [List.length_cons, h1]; rfl, ?_⟩
    rw [List.findIdx?_cons]
    simp [h2]
theorem SndNs.pgs {X : Cx} (hN : X.N.Nodup) : ∀ {es : List Expr} {is : List Nat}, SndNs X es is → PGs X es (gNs is)
  | _, _, .nil => pgs_nil
  | _, _, .cons h1 h2 h3 t => pgs_cons (pg_name hN h1 h2 h3) (t.pgs hN) rfl
theorem gNs_all : ∀ {is : List Nat} {vs : List V} {σ : St} {H : Hp} {Q : St → Hp → Prop}, vs.length = is.length → Q (setAll is vs σ) H → gNs is vs σ H Q
  | [], [], _, _, _, _, q => ⟨rfl, q⟩
  | i :: is, v :: vs, σ, H, Q, l, q => ⟨v, vs, rfl, gNs_all (is := is) (vs := vs) (by simpa using l) q⟩
theorem snd_parN {X : Cx} {W : WX} {ts vs : List Expr} {is : List Nat} {ss : List Sm} {k k2 : Nat} {p p2 pos : Pos} (hc : X.calm = true) (hN : X.N.Nodup) (hn : SndNs X ts is) (hv : SndR X W vs ss) (hl : is.length ≤ sizeLine) (hw : swappedStores [.Tuple ts k p] (.Tuple vs k2 p2) X.env = pure none) :
    SndS X W (.Assign [.Tuple ts k p] (.Tuple vs k2 p2) pos) (mPar is ss) := by
  obtain ⟨n1, n2⟩ := hn.each
  refine ⟨(ps_asg (pe_tup hv.pa) (pg_tup hc (hn.pgs hN) n1 n2) rfl hw rfl).imp fun D σ H q => ?_⟩
  obtain ⟨A, env, De, q⟩ := q
  simp only [mPar, wp_bd] at q
  refine ⟨A, env, De, q.imp (fun rs env1 q vs H1 P w => ?_) fun _ _ z => z.xw⟩
  obtain ⟨env2, e2, q⟩ := wp_sure q
  have q : EndS _ A D env σ H .nx env2 := q
  have len : ∀ {is : List Nat} {rs : List SV} {env env2 : EV}, putAll is rs env = some env2 → rs.length = is.length := by
    intro is
    induction is with
    | nil => intro rs env env2 h; cases rs with
      | nil => rfl
      | cons r rs => simp [putAll] at h
    | cons i is ih => intro rs env env2 h; cases rs with
      | nil => simp [putAll] at h
      | cons r rs =>
        simp only [putAll] at h
        obtain ⟨env1, _, h⟩ := Option.bind_eq_some_iff.mp h
        rw [List.length_cons, List.length_cons, ih h]
  have l := len e2
  refine ⟨by rw [← w.len, l]; exact hl, fun t nt => ?_⟩
  have g : ∀ b o, H1 b = some o → (upd H1 t (.tup vs)) b = some o := fun b o h => by rw [upd_ne (ne_of_none h nt)]; exact h
  have P2 := P.grow g
  refine ⟨t, vs, rfl, .of upd_same, by rw [← w.len, l], gNs_all (by rw [← w.len, l]) (q _ _ ?_)⟩
  exact putAll_ok P2.bst P2.den.len w.len w.res w.new (w.den.grow g) e2

/-! ### the check -/
def swNone (sc : Scope) : Expr → Expr → Bool
  | .Tuple ts _ _, .Tuple vs _ _ => swOf sc ts vs == some none
  | .List .., _ => false
  | _, _ => true
theorem swNone_ok {sc : Scope} {tg e : Expr} {env : Env} (hs : env.scope = sc) (hk : sc.kind = .function) (h : swNone sc tg e = true) : swappedStores [tg] e env = pure none := by
  cases tg with
  | Tuple ts k p =>
    cases e with
    | Tuple vs k2 p2 => exact swOf_ok hs hk (by simpa [swNone] using h)
    | _ => rfl
  | List ts p => cases h
  | _ => cases e <;> rfl
mutual
def TI'.chk (T : Tb) (N : List Str) (sc : Scope) : TI' → Expr → Bool
  | .name i, e => match e with
    | .Name y _ => (N[i]? == some y) && lcC sc y
    | _ => false
  | .sub i a, e => match e with
    | .Subscript (.Name y _) x _ => nmC N sc i y && noSlice x && a.chk T N sc (fun _ => true) x
    | _ => false
  | .tup ts, e => match e with
    | .Tuple es _ _ => ts.chk T N sc es
    | _ => false
def TIs.chk (T : Tb) (N : List Str) (sc : Scope) : TIs → List Expr → Bool
  | .nil, es => es.isEmpty
  | .cons t ts, es => match es with
    | e :: es => t.chk T N sc e && ts.chk T N sc es
    | [] => false
end
def parC (N : List Str) (sc : Scope) : List Nat → List Expr → Bool
  | [], [] => true
  | i :: is, .Name y _ :: es => (N[i]? == some y) && locC sc y && parC N sc is es
  | _, _ => false
/-- names, captured ones among them -/
def parN (N : List Str) (sc : Scope) : List Nat → List Expr → Bool
  | [], [] => true
  | i :: is, .Name y _ :: es => (N[i]? == some y) && lcC sc y && parN N sc is es
  | _, _ => false
def namesOf : List Expr → List Str
  | .Name y _ :: es => y :: namesOf es
  | _ => []
mutual
def S.chk (T : Tb) (N : List Str) (sc : Scope) : S → Stmt → Bool
  | .pass, st => match st with
    | .Pass _ => true
    | _ => false
  | .brk, st => match st with
    | .Break _ => true
    | _ => false
  | .cont, st => match st with
    | .Continue _ => true
    | _ => false
  | .raise, _ => true
  | .set i a, st => match st with
    | .Assign [.Name y p] x _ => (N[i]? == some y) && (match a, x with
      | .lc own src tg o a, .ListComp x [⟨t, it, ifs, 0⟩] scope xp => locC sc y && (p.line == xp.line) && !(scope.names.any fun (n, k) => n == y && (k == .local || k == .cell)) &&
        (E.lc own src tg o a).chk T N sc (fun _ => true) (.ListComp x [⟨t, it, ifs, 0⟩] scope xp)
      | a, x => lcC sc y && !isComp x && a.chk T N sc (fun _ => true) x)
    | _ => false
  | .par is es, st => match st with
    | .Assign [.Tuple ts _ _] (.Tuple vs _ _) _ => vs.all noStar && es.chk T N sc (fun _ => true) vs && (if (swOf sc ts vs == some none) = true then decide (is.length ≤ 1000) && parN N sc is ts else
      (is.length == 2 || is.length == 3) && decide is.Nodup && parC N sc is ts && (swOf sc ts vs == some (some (namesOf ts))) && (vs.length == is.length))
    | _ => false
  | .asg t a, st => match st with
    | .Assign [tg] x _ => !isComp x && swNone sc tg x && t.chk T N sc tg && a.chk T N sc (fun _ => true) x
    | _ => false
  | .expr a, st => match st with
    | .Expr x _ => !isComp x && a.chk T N sc (fun _ => true) x
    | _ => false
  | .ret a, st => match st with
    | .Return (some x) _ => a.chk T N sc (fun _ => true) x
    | _ => false
  | .retVar i, st => match st with
    | .Return (some (.Name y _)) _ => nmC N sc i y
    | _ => false
  | .retN, st => match st with
    | .Return none _ => true
    | _ => false
  | .ite c a b, st => match st with
    | .If x ys zs _ => c.chk T N sc (fun _ => true) x && a.chk T N sc ys && b.chk T N sc zs
    | _ => false
  | .for s t b, st => match st with
    | .For tg it bs [] _ => setFree it && tgC N sc (fun _ => true) t tg && s.chk T N sc (fun _ => true) tg it && b.chk T N sc bs
    | _ => false
  | .whl c b, st => match st with
    | .While x bs [] _ => c.chk T N sc (fun _ => true) x && b.chk T N sc bs
    | _ => false
def Ss.chk (T : Tb) (N : List Str) (sc : Scope) : Ss → List Stmt → Bool
  | .nil, l => l.isEmpty
  | .cons s ss, l => match l with
    | st :: l => s.chk T N sc st && ss.chk T N sc l
    | [] => false
end
section
variable {P : Program} {w : World} {K : PySem.W.Frag} {mg : Str → Option Value} {base : Heap} {k : Nat} {N : List Str} {sc : Scope} {X : Cx} {W : WX} {Φ : Nat → CallSem} {γ : Nat → PyData} {T : Tb}
theorem SndTS.mk (tb : TbOk P w K mg base k Φ γ T) (h : Hm P w K mg base k N sc (fun _ => true) X W) : ∀ {t : TI'} {e : Expr}, t.chk T N sc e = true → SndTS X W e (t.den Φ γ)
  | t, e, q => by
    refine TI'.rec (motive_1 := fun t => ∀ e, t.chk T N sc e = true → SndTS X W e (t.den Φ γ)) (motive_2 := fun ts => ∀ es, ts.chk T N sc es = true → SndTSs X W es (ts.den Φ γ)) (fun i e q => ?_) (fun i a e q => ?_) (fun ts ih e q => ?_) (fun es q => ?_) (fun t ts h1 h2 es q => ?_) t e q
    · simp only [TI'.chk] at q
      split at q
      · simp only [Bool.and_eq_true, beq_iff_eq] at q
        exact .name (by rw [h.N]; exact q.1) (by rw [h.scope]; exact lcC_of q.2) (.inl (h.fn _ rfl))
      · cases q
    · simp only [TI'.chk] at q
      split at q
      · simp only [Bool.and_eq_true] at q
        obtain ⟨g1, g2, g3, g4⟩ := h.nm q.1.1
        exact .sub g1 g2 g3 g4 q.1.2 (E.snd tb a h q.2)
      · cases q
    · simp only [TI'.chk] at q
      split at q
      · exact .tup (ih _ q)
      · cases q
    · cases es with
      | nil => exact .nil
      | cons e es => simp [TIs.chk] at q
    · cases es with
      | nil => simp [TIs.chk] at q
      | cons e es =>
        simp only [TIs.chk, Bool.and_eq_true] at q
        exact .cons (h1 e q.1) (h2 es q.2)
theorem SndL.toR : ∀ {es : List Expr} {as : List Sm}, SndL X W es as → SndR X W es as
  | _, _, .nil => .nil
  | _, _, .cons n h t => .cons n h t.toR
end
theorem parC_cons {N : List Str} {sc : Scope} {i : Nat} {is : List Nat} {ts : List Expr} (h : parC N sc (i :: is) ts = true) : ∃ y p es, ts = .Name y p :: es ∧ N[i]? = some y ∧ sc.names.lookup y = some .local ∧ parC N sc is es = true := by
  cases ts with
  | nil => simp [parC] at h
  | cons t es =>
    cases t with
    | Name y p =>
      simp only [parC, Bool.and_eq_true, beq_iff_eq] at h
      exact ⟨y, p, es, rfl, h.1.1, locC_of h.1.2, h.2⟩
    | _ => simp [parC] at h
theorem SndNs.mk {P : Program} {w : World} {K : PySem.W.Frag} {mg : Str → Option Value} {base : Heap} {k : Nat} {N : List Str} {sc : Scope} {X : Cx} {W : WX} (h : Hm P w K mg base k N sc (fun _ => true) X W) : ∀ {is : List Nat} {ts : List Expr}, parN N sc is ts = true → SndNs X ts is
  | [], [], _ => .nil
  | [], _ :: _, q => by simp [parN] at q
  | i :: is, ts, q => by
    cases ts with
    | nil => simp [parN] at q
    | cons t es =>
      cases t with
      | Name y p =>
        simp only [parN, Bool.and_eq_true, beq_iff_eq] at q
        exact .cons (by rw [h.N]; exact q.1.1) (by rw [h.scope]; exact lcC_of q.1.2) (.inl (h.fn y rfl)) (SndNs.mk h q.2)
      | _ => simp [parN] at q
theorem parC_nil {N : List Str} {sc : Scope} {ts : List Expr} (h : parC N sc [] ts = true) : ts = [] := by
  cases ts with
  | nil => rfl
  | cons t es => simp [parC] at h
/-- never reached -/
theorem snd_stuck {X : Cx} {W : WX} {st : Stmt} : SndS X W st mStuck := ⟨ps_never.imp fun D σ H q => by
  obtain ⟨A, env, De, q⟩ := q
  exact q⟩
mutual
theorem S.snd {P : Program} {w : World} {K : PySem.W.Frag} {mg : Str → Option Value} {base : Heap} {k : Nat} {N : List Str} {Φ : Nat → CallSem} {γ : Nat → PyData} {T : Tb} {sc : Scope} {X : Cx} {W : WX} (tb : TbOk P w K mg base k Φ γ T) (h : Hm P w K mg base k N sc (fun _ => true) X W) (hp : PassesOwn (model X.prog X.w) X.A X.env X.xe) :
    ∀ (a : S) {st : Stmt}, a.chk T N sc st = true → SndS X W st (a.den Φ γ)
  | .pass, st, q => by
    simp only [S.chk] at q
    split at q
    · exact snd_pass
    · cases q
  | .brk, st, q => by
    simp only [S.chk] at q
    split at q
    · exact snd_break
    · cases q
  | .cont, st, q => by
    simp only [S.chk] at q
    split at q
    · exact snd_cont
    · cases q
  | .raise, st, q => snd_stuck
  | .set i a, st, q => by
    simp only [S.chk] at q
    split at q
    · rename_i y p x sp
      rw [Bool.and_eq_true, beq_iff_eq] at q
      obtain ⟨q0, q⟩ := q
      have hi : X.N[i]? = some y := by rw [h.N]; exact q0
      split at q
      · rename_i own src tg o a x t it ifs scope xp
        simp only [Bool.and_eq_true, Bool.not_eq_true'] at q
        obtain ⟨⟨⟨q1, q2⟩, q3⟩, q4⟩ := q
        simp only [E.chk, Bool.and_eq_true, List.all_eq_true] at q4
        obtain ⟨⟨⟨⟨⟨⟨r1, r2⟩, r3⟩, r4⟩, r5⟩, r6⟩, r7⟩ := q4
        have ok : BlkOk X.N X.env.scope scope (own.map fun i => ((N[i]?).getD "", i)) := by
          rw [h.N, h.scope]; exact blkOk_by r2
        have eo : (own.map fun i => ((N[i]?).getD ("" : Str), i)).map (·.2) = own := by
          rw [List.map_map]
          exact List.map_id own
        have hyl : X.env.scope.names.lookup y = some .local := by rw [h.scope]; exact locC_of q1
        have z := snd_setLc (i := i) (py := p) (spos := sp) (own := own.map fun i => ((N[i]?).getD "", i)) (pos := xp) h.calm h.nd hi hyl (sw_true (by rw [h.scope]; exact h.kind) hyl q2 q3) (So.snd tb src h r4) ok (fun i hi => by rw [eo]; simpa using r3 i hi) (fun s H C cl fp => SndT.mk (h.blk ok.kind s H C cl fp) r5)
          (fun s H C cl fp => OE.sndT tb o (h.blk ok.kind s H C cl fp) r6) (fun s H C cl fp => E.snd tb a (h.blk ok.kind s H C cl fp) r7) (fun x => setFree_of r1 _ x)
        rw [eo] at z
        exact z
      · rename_i a' x' _
        simp only [Bool.and_eq_true, Bool.not_eq_true'] at q
        exact snd_set h.nd hi (by rw [h.scope]; exact lcC_of q.1.1) (.inl (h.fn _ rfl)) (E.snd tb _ h q.2) (sw_none q.1.2)
    · cases q
  | .par is es, st, q => by
    simp only [S.chk] at q
    split at q
    · rename_i ts k1 p1 vs k2 p2 sp
      rw [Bool.and_eq_true, Bool.and_eq_true] at q
      obtain ⟨⟨q5, q6⟩, q⟩ := q
      have R := (Es.sndL tb es h q6 q5).toR
      split at q
      · rename_i c
        simp only [beq_iff_eq] at c
        rw [Bool.and_eq_true, decide_eq_true_eq] at q
        exact snd_parN h.calm h.nd (.mk h q.2) R (Nat.le_trans q.1 (by decide)) (swOf_ok h.scope h.kind c)
      simp only [Bool.and_eq_true, beq_iff_eq, decide_eq_true_eq] at q
      obtain ⟨⟨⟨⟨q1, q2⟩, q3⟩, q4⟩, q7⟩ := q
      have sw := swOf_ok (env := X.env) (k := k1) (p := p1) (k2 := k2) (p2 := p2) h.scope h.kind q4
      show SndS X W _ (mPar is (es.den Φ γ))
      generalize es.den Φ γ = L at R
      cases is with
      | nil => cases q1
      | cons i is =>
      obtain ⟨x, px, ts, rfl, hx1, hx2, q3⟩ := parC_cons q3
      cases is with
      | nil => cases q1
      | cons j is =>
      obtain ⟨y, py, ts, rfl, hy1, hy2, q3⟩ := parC_cons q3
      rw [← h.N] at hx1 hy1
      rw [← h.scope] at hx2 hy2
      cases is with
      | nil =>
        obtain rfl := parC_nil q3
        have n : i ≠ j := by simpa using q2
        cases R with
        | nil => cases q7
        | cons n1 s1 R =>
          cases R with
          | nil => cases q7
          | cons n2 s2 R =>
            cases R with
            | nil => exact snd_par2 h.calm h.nd hx1 hy1 n hx2 hy2 (.cons n1 s1 (.cons n2 s2 .nil)) sw
            | cons _ _ _ => simp at q7
      | cons l is =>
      obtain ⟨z, pz, ts, rfl, hz1, hz2, q3⟩ := parC_cons q3
      rw [← h.N] at hz1
      rw [← h.scope] at hz2
      cases is with
      | cons _ _ => simp at q1
      | nil =>
        obtain rfl := parC_nil q3
        have n : (i ≠ j ∧ i ≠ l) ∧ j ≠ l := by simpa using q2
        cases R with
        | nil => cases q7
        | cons n1 s1 R =>
          cases R with
          | nil => cases q7
          | cons n2 s2 R =>
            cases R with
            | nil => simp at q7
            | cons n3 s3 R =>
              cases R with
              | nil => exact snd_par3 h.calm h.nd hx1 hy1 hz1 n.1.1 n.1.2 n.2 hx2 hy2 hz2 (.cons n1 s1 (.cons n2 s2 (.cons n3 s3 .nil))) sw
              | cons _ _ _ => simp at q7
    · cases q
  | .asg t a, st, q => by
    simp only [S.chk] at q
    split at q
    · rename_i tg x sp
      simp only [Bool.and_eq_true, Bool.not_eq_true'] at q
      obtain ⟨⟨⟨q1, q2⟩, q3⟩, q4⟩ := q
      exact snd_asg h.calm h.nd (E.snd tb a h q4) (SndTS.mk tb h q3) (sw_none q1) (swNone_ok h.scope h.kind q2)
    · cases q
  | .expr a, st, q => by
    simp only [S.chk] at q
    split at q
    · simp only [Bool.and_eq_true, Bool.not_eq_true'] at q
      exact snd_expr (E.snd tb a h q.2) (sw_none q.1)
    · cases q
  | .ret a, st, q => by
    simp only [S.chk] at q
    split at q
    · exact snd_ret (E.snd tb a h q)
    · cases q
  | .retVar i, st, q => by
    simp only [S.chk] at q
    split at q
    · obtain ⟨g1, g2, g3, g4⟩ := h.nm q
      exact snd_retVar g1 g2 g3 g4
    · cases q
  | .retN, st, q => by
    simp only [S.chk] at q
    split at q
    · exact snd_retN
    · cases q
  | .ite c a b, st, q => by
    simp only [S.chk] at q
    split at q
    · simp only [Bool.and_eq_true] at q
      exact snd_if (E.snd tb c h q.1.1) (Ss.snd tb h hp a q.1.2) (Ss.snd tb h hp b q.2)
    · cases q
  | .for s t b, st, q => by
    simp only [S.chk] at q
    split at q
    · simp only [Bool.and_eq_true] at q
      obtain ⟨⟨⟨q1, q2⟩, q3⟩, q4⟩ := q
      exact snd_for hp h.calm h.nd (So.snd tb s h q3) (SndT.mk h q2) (Ss.snd tb h hp b q4) (fun x => setFree_of q1 _ x)
    · cases q
  | .whl c b, st, q => by
    simp only [S.chk] at q
    split at q
    · simp only [Bool.and_eq_true] at q
      exact snd_while hp (E.snd tb c h q.1) (Ss.snd tb h hp b q.2)
    · cases q
theorem Ss.snd {P : Program} {w : World} {K : PySem.W.Frag} {mg : Str → Option Value} {base : Heap} {k : Nat} {N : List Str} {Φ : Nat → CallSem} {γ : Nat → PyData} {T : Tb} {sc : Scope} {X : Cx} {W : WX} (tb : TbOk P w K mg base k Φ γ T) (h : Hm P w K mg base k N sc (fun _ => true) X W) (hp : PassesOwn (model X.prog X.w) X.A X.env X.xe) :
    ∀ (a : Ss) {l : List Stmt}, a.chk T N sc l = true → SndSs X W l (a.den Φ γ)
  | .nil, l, q => by
    cases l with
    | nil => exact snd_nil
    | cons st l => simp [Ss.chk] at q
  | .cons s ss, l, q => by
    cases l with
    | nil => simp [Ss.chk] at q
    | cons st l =>
      simp only [Ss.chk, Bool.and_eq_true] at q
      exact snd_cons (S.snd tb h hp s q.1) (Ss.snd tb h hp ss q.2)
end
end Tw
end STwV

section STwW
/-! Part W: all defs of a text at once. -/
namespace Tw
open PySem PySem.Spec PyProof.Rows L2

/-- a def as a term: its place among the text's defs, its name, its parameters, its names, its body -/
structure DR where
  at_ : Nat
  name : Str
  ps : List Str
  N : List Str
  body : Ss
def cNone : CallSem := fun _ => none
def look (acc : List CallSem) (j : Nat) : CallSem := (acc[j]?).getD cNone
noncomputable def DR.sem (γ : Nat → PyData) (acc : List CallSem) (r : DR) : CallSem := defC r.N.length (r.body.den (look acc) γ)
noncomputable def sems (γ : Nat → PyData) : List DR → List CallSem → List CallSem
  | [], acc => acc
  | r :: rs, acc => sems γ rs (acc ++ [r.sem γ acc])
def dOf : Stmt → Option He.DefD
  | .FunctionDef name args body _ _ _ scope _ _ _ => some ⟨(name, none), name, name, args, body, scope, [], []⟩
  | _ => none
def defsOf (P : Program) : List He.DefD := P.main.body.filterMap dOf
def simpleP (a : Arguments) (ps : List Str) : Bool := a.posonlyargs.isEmpty && a.vararg.isNone && a.kwonlyargs.isEmpty && a.kwarg.isNone && a.defaults.isEmpty && (a.args.map (·.arg) == ps) && decide ps.Nodup
def DR.chk (T : Tb) (fns : List He.DefD) (r : DR) : Bool := match fns[r.at_]? with
  | some d => (d.name == r.name) && simpleP d.params r.ps && C8.scC r.N r.ps d.scope && r.body.chk T r.N d.scope d.body
  | none => false
/-! ### constants of the module -/
mutual
def valB (K : PySem.W.Frag) : PyData → Value → Bool
  | .none, u => match u with
    | .none => true
    | _ => false
  | .bool b, u => match u with
    | .bool c => b == c
    | _ => false
  | .int i, u => match u with
    | .int j _ => decide (i = j)
    | _ => false
  | .str x, u => match u with
    | .str y _ => decide (x = y)
    | _ => false
  | .tuple ds, u => match u with
    | .ref a => match K.lookup a with
      | some ⟨.type c, _, .seq its _, _⟩ => decide (c = "tuple") && decide (its.size ≤ sizeLine) && valsB K ds its.toList
      | _ => false
    | _ => false
  | .list _, _ => false
  | .dict _, _ => false
def valsB (K : PySem.W.Frag) : List PyData → List Value → Bool
  | [], us => us.isEmpty
  | d :: ds, us => match us with
    | u :: us => valB K d u && valsB K ds us
    | [] => false
end
mutual
theorem valB_ok {K : PySem.W.Frag} : ∀ {d : PyData} {u : Value}, valB K d u = true → ∃ v, RelV v u ∧ ∀ H B, Rp K H B v d
  | .none, u, h => by
    simp only [valB] at h
    split at h
    · exact ⟨.non, rfl, fun _ _ => .non⟩
    · cases h
  | .bool b, u, h => by
    simp only [valB] at h
    split at h
    · rw [beq_iff_eq] at h; subst h; exact ⟨.bl b, rfl, fun _ _ => .bl b⟩
    · cases h
  | .int i, u, h => by
    simp only [valB] at h
    split at h
    · rw [decide_eq_true_eq] at h; subst h; exact ⟨.int i, ⟨_, rfl⟩, fun _ _ => .int i⟩
    · cases h
  | .str x, u, h => by
    simp only [valB] at h
    split at h
    · rw [decide_eq_true_eq] at h; subst h; exact ⟨.str x, ⟨_, rfl⟩, fun _ _ => .str x⟩
    · cases h
  | .tuple ds, u, h => by
    simp only [valB] at h
    split at h
    · rename_i a
      split at h
      · rename_i c od its n sl e
        simp only [Bool.and_eq_true, decide_eq_true_eq] at h
        obtain ⟨⟨rfl, hz⟩, h⟩ := h
        obtain ⟨vs, rv, q⟩ := valsB_ok h
        exact ⟨.ref a, rfl, fun H B => .tup (.inr ⟨_, its, n, e, rfl, rfl, hz, rv⟩) (q H B)⟩
      · cases h
    · cases h
  | .list _, u, h => by simp [valB] at h
  | .dict _, u, h => by simp [valB] at h
theorem valsB_ok {K : PySem.W.Frag} : ∀ {ds : List PyData} {us : List Value}, valsB K ds us = true → ∃ vs, Vals vs us ∧ ∀ H B, Rps K H B vs ds
  | [], us, h => by
    cases us with
    | nil => exact ⟨[], .nil, fun _ _ => .nil⟩
    | cons u us => simp [valsB] at h
  | d :: ds, us, h => by
    cases us with
    | nil => simp [valsB] at h
    | cons u us =>
      simp only [valsB, Bool.and_eq_true] at h
      obtain ⟨v, r1, q1⟩ := valB_ok h.1
      obtain ⟨vs, r2, q2⟩ := valsB_ok h.2
      exact ⟨v :: vs, .cons r1 r2, fun H B => .cons (q1 H B) (q2 H B)⟩
end
def glbB (K : PySem.W.Frag) (x : Str) (d : PyData) : Bool := match PySem.W.nsIn K mainGlobals x with
  | some (some u) => valB K d u
  | _ => false
def freeB (K : PySem.W.Frag) (x : Str) : Bool := match PySem.W.nsIn K mainGlobals x with
  | some none => true
  | _ => false
def defB (K : PySem.W.Frag) (r : DR) : Bool := match PySem.W.nsIn K mainGlobals r.name with
  | some (some (.ref _)) => true
  | _ => false
def gcdB (K : PySem.W.Frag) : Bool := match PySem.W.nsIn K mainGlobals "gcd" with
  | some (some (.builtin id)) => id == "math.gcd"
  | _ => false
/-- what the top has to have left -/
def topB (T : Tb) (rs : List DR) (cs : List PyData) (K : PySem.W.Frag) : Bool :=
  (rs.all (defB K)) && (T.blts.all (freeB K)) && ((T.glbs.zip cs).all fun p => glbB K p.1 p.2) && decide (T.glbs.length = cs.length) && (!T.gcd || gcdB K)
def gam (cs : List PyData) (k : Nat) : PyData := (cs[k]?).getD .none
/-! ### how the defs bind their arguments -/
theorem zip_lookup : ∀ {ps : List Str} {us : List Value}, us.length = ps.length → ps.Nodup → ps.filterMap (fun n => ((ps.zip us).lookup n).map (n, ·)) = ps.zip us
  | [], [], _, _ => rfl
  | p :: ps, u :: us, h, n => by
    have ih := zip_lookup (ps := ps) (us := us) (by simpa using h) (List.nodup_cons.mp n).2
    rw [List.zip_cons_cons, List.filterMap_cons]
    simp only [List.lookup_cons, beq_self_eq_true, Option.map_some]
    congr 1
    rw [← ih]
    refine fm_congr fun x hx => ?_
    have hne : (x == p) = false := by
      rw [beq_eq_false_iff_ne]
      rintro rfl
      exact (List.nodup_cons.mp n).1 hx
    rw [hne, ih]
theorem zip_there : ∀ {ps : List Str} {us : List Value} {x : Str}, us.length = ps.length → x ∈ ps → ((ps.zip us).lookup x).isNone = false
  | p :: ps, u :: us, x, h, m => by
    rw [List.zip_cons_cons, List.lookup_cons]
    cases e : x == p with
    | true => rfl
    | false =>
      rcases List.mem_cons.mp m with z | z
      · subst z; simp at e
      · exact zip_there (by simpa using h) z
theorem bind_pos {name qual : Str} {params : Arguments} {body : List Stmt} {scope : Scope} {kV doc pm cdv ct : Value} {an : Option Addr} {ps : List Str} {us : List Value} (h : simpleP params ps = true) (hl : us.length = ps.length) :
    bindArgs (PySem.W.fnOf name qual params body scope .none kV doc pm an cdv ct) ⟨us, []⟩ = pure (ps.zip us) := by
  obtain ⟨po, as, va, ko, kd, kw, df⟩ := params
  simp only [simpleP, Bool.and_eq_true, List.isEmpty_iff, Option.isNone_iff_eq_none, beq_iff_eq, decide_eq_true_eq] at h
  obtain ⟨⟨⟨⟨⟨⟨rfl, rfl⟩, rfl⟩, rfl⟩, rfl⟩, e⟩, nd⟩ := h
  unfold bindArgs
  simp only [PySem.W.fnOf, List.map_nil, List.nil_append, e, List.forIn_nil, pure_bind, List.append_nil]
  have m0 : (ps.filter fun n => ((ps.zip us).lookup n).isNone) = [] := by
    rw [List.filter_eq_nil_iff]
    intro x hx
    rw [zip_there hl hx]; decide
  have z := zip_lookup hl nd
  have sq : seqItems? (PySem.W.fnOf name qual ⟨[], as, none, [], kd, none, []⟩ body scope .none kV doc pm an cdv ct).defaults = pure none := rfl
  simp only [sq, pure_bind, Option.getD_none, Array.toList, List.length_nil, List.isEmpty_nil, List.drop_nil, Nat.sub_zero, List.take_length, m0, hl, List.zip_nil_right, List.forIn_nil, z]
  simp only [gt_iff_lt, Nat.lt_irrefl, decide_false, Bool.false_and, Bool.false_eq_true, if_false, Bool.not_true]
def cparams (ps : List Str) : Arguments := ⟨[], ps.map fun n => ⟨n, none, ⟨0, 0, 0, 0⟩⟩, none, [], [], none, []⟩
theorem bind_canon {name qual : Str} {params : Arguments} {body : List Stmt} {scope : Scope} {kV doc pm cdv ct : Value} {an : Option Addr} {ps : List Str} {a : Args} (h : simpleP params ps = true) :
    bindArgs (PySem.W.fnOf name qual params body scope .none kV doc pm an cdv ct) a = bindArgs (PySem.W.fnOf name qual (cparams ps) body scope .none kV doc pm an cdv ct) a := by
  obtain ⟨po, as, va, ko, kd, kw, df⟩ := params
  simp only [simpleP, Bool.and_eq_true, List.isEmpty_iff, Option.isNone_iff_eq_none, beq_iff_eq, decide_eq_true_eq] at h
  obtain ⟨⟨⟨⟨⟨⟨rfl, rfl⟩, rfl⟩, rfl⟩, rfl⟩, e⟩, nd⟩ := h
  have e2 : (cparams ps).args.map (·.arg) = ps := by
    unfold cparams
    rw [List.map_map]
    exact List.map_id ps
  unfold bindArgs
  simp only [PySem.W.fnOf, e, e2]
  rfl
/-- keywords, bound -/
def KwOk (ps ns : List Str) (n : Nat) (π : List Nat) : Prop := ∀ (name qual : Str) (body : List Stmt) (scope : Scope) (kV doc pm : Value) (an : Option Addr) (cdv ct : Value) (us ws : List Value), us.length = n → ws.length = ns.length →
    bindArgs (PySem.W.fnOf name qual (cparams ps) body scope .none kV doc pm an cdv ct) ⟨us, ns.zip ws⟩ = pure (ps.zip (permL π (us ++ ws)))
section
variable {P : Program} {w : World} {K : PySem.W.Frag} {mg : Str → Option Value} {base h : Heap} {T : Tb} {rs : List DR} {cs : List PyData} {fns : List He.DefD}
theorem cNone_fn {k : Nat} {f : Addr} {fd : FuncData} {ps : List Str} : FnG P w K mg base k f fd ps (spC K mg ps.length cNone) :=
  ⟨fun vs H Q E ⟨_, _, h, _⟩ => h, fun A outer s H args us vs Q E _ _ _ _ _ ⟨_, _, _, _, _, q⟩ => q.elim⟩
theorem FnG.mono {j k : Nat} {f : Addr} {fd : FuncData} {ps : List Str} {sp : Sp} (F : FnG P w K mg base j f fd ps sp) (h : j ≤ k) : FnG P w K mg base k f fd ps sp :=
  ⟨F.len, fun A outer s H args us vs Q E hr => F.run A outer s H args us vs Q E (hr.mono h)⟩
/-- the facts of one def -/
structure DefOk (K : PySem.W.Frag) (mg : Str → Option Value) (fns : List He.DefD) (T : Tb) (j : Nat) (r : DR) (d : He.DefD) (f : Addr) (fd : FuncData) : Prop where
  at_ : fns[r.at_]? = some d
  fn : FunD K d.name d.qual d.params d.body d.scope [] [] f fd
  mg : mg r.name = some (.ref f)
  kp : PySem.W.keepIn K (.ref f) = true
  binds : Binds K fd r.ps []
  kws : ∀ ns n π, (j, ns, n, π) ∈ T.kws → BindK fd r.ps ns n π
theorem defOk_of (X : K.In h) (G : h.Ns mainGlobals mg) (c : He.SaysD [] fns K) (t : topB T rs cs K = true) {j : Nat} {r : DR} (hr : r ∈ rs) (hd : ∀ d ∈ fns, d.dfl = [] ∧ d.kwd = [] ∧ d.at_ = (d.name, none)) (ck : r.chk T fns = true) (b : ∀ ns n π, (j, ns, n, π) ∈ T.kws → KwOk r.ps ns n π) :
    ∃ d f fd, DefOk K mg fns T j r d f fd := by
  unfold DR.chk at ck
  split at ck
  · rename_i d hat
    simp only [Bool.and_eq_true, beq_iff_eq] at ck
    obtain ⟨⟨⟨hn, hs⟩, _⟩, _⟩ := ck
    obtain ⟨e1, e2, e3⟩ := hd d (List.mem_of_getElem? hat)
    obtain ⟨fd, F⟩ := c.def_ r.at_ hat
    have hF : FunD K d.name d.qual d.params d.body d.scope [] [] (He.fAd K d.at_) fd := by
      have z1 : d.dvs K = [] := by unfold He.DefD.dvs; rw [e1]; rfl
      have z2 : d.kws K = [] := by unfold He.DefD.kws; rw [e2]; rfl
      rw [z1, z2] at F
      exact F
    unfold topB at t
    simp only [Bool.and_eq_true, List.all_eq_true] at t
    have tb := t.1.1.1.1 r hr
    unfold defB at tb
    split at tb
    · rename_i a ha
      have ef : He.fAd K d.at_ = a := by
        rw [e3, hn]
        show He.ga K r.name = a
        unfold He.ga
        rw [ha]
      refine ⟨d, _, fd, hat, hF, by rw [ef]; exact PySem.W.mg_of X G ha, hF.kp, hF.bindsN fun kV doc pm an cdv ct us hl => bind_pos hs hl, fun ns n π hm => ⟨fun us ws l1 l2 => ?_⟩⟩
      obtain ⟨oc, od, dV, kV, doc, pm, an, cdv, ct, osl, rfl, _, _, hD, _⟩ := hF.ex
      have : dV = .none := by
        rcases hD with ⟨_, e⟩ | ⟨e, _⟩
        · exact e
        · exact absurd rfl e
      subst this
      rw [bind_canon hs]
      exact b ns n π hm _ _ _ _ _ _ _ _ _ _ us ws l1 l2
    · cases tb
  · cases ck
/-- every def keeps its promise -/
theorem sems_ok (X : K.In base) (G : base.Ns mainGlobals mg) (t : topB T rs cs K = true) (hT : T.fns = rs.map fun r => (r.name, r.ps)) (ok : ∀ j r, rs[j]? = some r → r.chk T fns = true ∧ ∃ d f fd, DefOk K mg fns T j r d f fd) :
    ∀ (post pre : List DR) (acc : List CallSem), rs = pre ++ post → acc.length = pre.length →
      (∀ i r C d f fd, rs[i]? = some r → acc[i]? = some C → DefOk K mg fns T i r d f fd → FnG P w K mg base (i + 1) f fd r.ps (spC K mg r.ps.length C)) →
      ∀ i r C d f fd, rs[i]? = some r → (sems (gam cs) post acc)[i]? = some C → DefOk K mg fns T i r d f fd → FnG P w K mg base (i + 1) f fd r.ps (spC K mg r.ps.length C)
  | [], pre, acc, e, l, h => h
  | r :: post, pre, acc, e, l, h => by
    unfold sems
    refine sems_ok X G t hT ok post (pre ++ [r]) (acc ++ [r.sem (gam cs) acc]) (by rw [e]; simp) (by simp [l]) fun i r' C d f fd h1 h2 D => ?_
    by_cases hi : i < acc.length
    · rw [List.getElem?_append_left hi] at h2
      exact h i r' C d f fd h1 h2 D
    · rw [List.getElem?_append_right (by omega)] at h2
      have hi2 : i = acc.length := by
        rcases Nat.lt_or_ge acc.length i with z | z
        · rw [List.getElem?_eq_none (by simp; omega)] at h2; cases h2
        · omega
      subst hi2
      rw [Nat.sub_self] at h2
      cases h2
      have er : r' = r := by
        rw [e, l, List.getElem?_append_right (Nat.le_refl _), Nat.sub_self] at h1
        cases h1; rfl
      subst er
      obtain ⟨ck, _⟩ := ok _ _ h1
      unfold DR.chk at ck
      rw [D.at_] at ck
      simp only [Bool.and_eq_true] at ck
      obtain ⟨⟨⟨_, _⟩, ck2⟩, ck3⟩ := ck
      have S := C8.fnScope_by ck2
      have top := t
      unfold topB at top
      simp only [Bool.and_eq_true, List.all_eq_true, Bool.or_eq_true, Bool.not_eq_true', decide_eq_true_eq] at top
      obtain ⟨⟨⟨⟨_, t2⟩, t3⟩, t4⟩, t5⟩ := top
      have tb : TbOk P w K mg base acc.length (look acc) (gam cs) T := by
        refine ⟨fun j x ps hj => ?_, fun k x hk => ?_, fun x hx => ?_, fun hg => ?_⟩
        · rw [hT, List.getElem?_map] at hj
          obtain ⟨r2, hr2, e2⟩ := Option.map_eq_some_iff.mp hj
          cases e2
          obtain ⟨_, d2, f2, fd2, D2⟩ := ok j r2 hr2
          refine ⟨f2, fd2, ?_, D2.mg, D2.kp, D2.binds, D2.kws⟩
          unfold look
          cases hc : acc[j]? with
          | none => exact cNone_fn
          | some C2 =>
            have hj2 := (List.getElem?_eq_some_iff.mp hc).1
            exact (h j r2 C2 d2 f2 fd2 hr2 hc D2).mono (by omega)
        · obtain ⟨d0, hd0⟩ : ∃ d0, cs[k]? = some d0 := lt_get (by rw [← t4]; exact (List.getElem?_eq_some_iff.mp hk).1)
          have hz : (T.glbs.zip cs)[k]? = some (x, d0) := List.getElem?_zip_eq_some.mpr ⟨hk, hd0⟩
          have hb := t3 (x, d0) (List.mem_of_getElem? hz)
          have hb : glbB K x d0 = true := hb
          unfold glbB at hb
          split at hb
          · rename_i u hu
            obtain ⟨v, rv, q⟩ := valB_ok hb
            refine ⟨v, u, PySem.W.mg_of X G hu, rv, ?_⟩
            unfold gam
            rw [hd0]
            exact q
          · cases hb
        · have hb := t2 x (by simpa using hx)
          unfold freeB at hb
          split at hb
          · rename_i hu; exact PySem.W.mg_none_of X G hu
          · cases hb
        · rcases t5 with t5 | t5
          · rw [hg] at t5; cases t5
          · unfold gcdB at t5
            split at t5
            · rename_i id hu
              rw [beq_iff_eq] at t5
              subst t5
              exact PySem.W.mg_of X G hu
            · cases t5
      obtain ⟨oc, od, dV, kV, doc, pm, an, cdv, ct, osl, rfl, lk, hcd, _, _⟩ := D.fn.ex
      refine fnG_of (N := r'.N) lk hcd S fun X' W H hf => ?_
      have hm : Hm P w K mg base acc.length r'.N d.scope (fun _ => true) X' W := ⟨H.prog, H.w, H.K, H.mg, H.base, H.room, H.guards, H.N, H.nd, H.scope, S.kind, H.calm, H.takes, fun x _ => hf x⟩
      exact Ss.snd tb hm H.passes r'.body ck3
theorem defsOf_plain {P : Program} {d : He.DefD} (h : d ∈ defsOf P) : d.dfl = [] ∧ d.kwd = [] ∧ d.at_ = (d.name, none) := by
  obtain ⟨st, _, e⟩ := List.mem_filterMap.mp h
  unfold dOf at e
  split at e
  · cases e; exact ⟨rfl, rfl, rfl⟩
  · cases e
/-- the law's own def, from the facts -/
theorem law_fn {l : PySem.W.OpenLaw} {C : CallSem} {j : Nat} {r : DR} {fa : Addr} (X : K.In h) (G : h.Ns mainGlobals mg) (c : He.SaysD [] fns K) (t : topB T rs cs K = true) (hT : T.fns = rs.map fun r => (r.name, r.ps)) (hd : ∀ d ∈ fns, d.dfl = [] ∧ d.kwd = [] ∧ d.at_ = (d.name, none))
    (ck : rs.all (fun r => r.chk T fns) = true) (b : ∀ e ∈ T.kws, ∀ r, rs[e.1]? = some r → KwOk r.ps e.2.1 e.2.2.1 e.2.2.2) (hj : rs[j]? = some r) (hC : (sems (gam cs) rs [])[j]? = some C) (hl : r.ps.length = 1) (hfa : mg r.name = some (.ref fa)) :
    ∃ fd : FuncData, (∀ (s : Shared) (u : Value), BindsTo s fd ⟨[u], []⟩ (r.ps.zip [u])) ∧ ∀ base : Heap, K.In base → base.Ns mainGlobals mg → FnG l.prog w K mg base rs.length fa fd r.ps (spC K mg r.ps.length C) := by
  have ok : ∀ j r, rs[j]? = some r → r.chk T fns = true ∧ ∃ d f fd, DefOk K mg fns T j r d f fd := fun j r hr => by
    have hm := List.mem_of_getElem? hr
    have k1 := List.all_eq_true.mp ck r hm
    exact ⟨k1, defOk_of X G c t hm hd k1 fun ns n π hm => b _ hm r hr⟩
  obtain ⟨_, d, f, fd, D⟩ := ok j r hj
  have ef : f = fa := by
    have e := D.mg.symm.trans hfa
    cases e; rfl
  subst ef
  refine ⟨fd, fun s u => ?_, fun base X' G' => ?_⟩
  · obtain ⟨oc, od, dV, kV, doc, pm, an, cdv, ct, osl, rfl, lk, hcd, hD, _⟩ := D.fn.ex
    have : dV = .none := by
      rcases hD with ⟨_, e⟩ | ⟨e, _⟩
      · exact e
      · exact absurd rfl e
    subst this
    have k1 := List.all_eq_true.mp ck r (List.mem_of_getElem? hj)
    unfold DR.chk at k1
    rw [D.at_] at k1
    simp only [Bool.and_eq_true] at k1
    exact .of_eq (bind_pos k1.1.1.2 (by rw [hl]; rfl))
  · have hlt : j < rs.length := (List.getElem?_eq_some_iff.mp hj).1
    exact (sems_ok X' G' t hT ok rs [] [] rfl rfl (fun i r C d f fd _ h2 => by simp at h2) j r C d f fd hj hC D).mono hlt
end
end Tw
end STwW

section STwX
/-! Part X: what a term's meaning comes to: rules for plain proofs. -/
namespace Tw
open PySem PySem.Spec PyProof.Rows L2

/-- ends well, with this -/
def tot {α : Type} (r : Res α) (Q : α → EV → Prop) (_ : Dp Q := ()) : Prop := wp r Q fun _ _ => False
section
variable {α β : Type} {r : Res α} {f : α → EV → Res β} {Q Q' : α → EV → Prop}
theorem tot_some {a : α} {env : EV} (h : Q a env) : tot (some (.ok a env)) Q := h
theorem tot_imp (h : tot r Q) (k : ∀ a env, Q a env → Q' a env) : tot r Q' := wp.imp h k fun _ _ z => z
theorem tot_bd {R : β → EV → Prop} (h : tot r fun a env => tot (f a env) R) : tot (r.bd f) R := by
  unfold tot at h ⊢
  rw [wp_bd]; exact h
theorem tot_eq {a : α} {env : EV} (h : tot r fun x e => x = a ∧ e = env) : r = some (.ok a env) := by
  cases r with
  | none => exact h.elim
  | some o =>
    cases o with
    | ok x e => obtain ⟨rfl, rfl⟩ := h; rfl
    | er x e => exact h.elim
theorem tot_ex (h : tot r Q) : ∃ a env, r = some (.ok a env) ∧ Q a env := by
  cases r with
  | none => exact h.elim
  | some o =>
    cases o with
    | ok x e => exact ⟨x, e, rfl, h⟩
    | er x e => exact h.elim
@[simp] theorem tot_ok {a : α} {env : EV} : tot (some (.ok a env)) Q = Q a env := rfl
@[simp] theorem bd_ok {a : α} {env : EV} : Res.bd (some (.ok a env)) f = f a env := rfl
@[simp] theorem mk_ok {a : α} {env : EV} : Res.mk a env = some (.ok a env) := rfl
@[simp] theorem sure_some {a : α} {g : α → Res β} : sure (some a) g = g a := rfl
@[simp] theorem bd_bd {γ : Type} {g : β → EV → Res γ} : (r.bd f).bd g = r.bd fun a e => (f a e).bd g := by
  cases r with
  | none => rfl
  | some o => cases o <;> rfl
@[simp] theorem noEr_ok {a : α} {env : EV} : noEr (some (.ok a env)) = some (.ok a env) := rfl
end
/-! ### expressions -/
section
variable {env : EV} {i : Nat} {d : PyData} {ds : List PyData}
@[simp] theorem of_v {v : EV → Res SV} : (Sm.of v).v = v := rfl
@[simp] theorem of_o {v : EV → Res SV} : (Sm.of v).o = oOf v := rfl
@[simp] theorem of_t {v : EV → Res SV} : (Sm.of v).t = tOf (oOf v) := rfl
@[simp] theorem ofB_v {v : EV → Res SV} : (Sm.ofB v).v = v := rfl
@[simp] theorem ofB_o {v : EV → Res SV} : (Sm.ofB v).o = oOf v := rfl
@[simp] theorem ofB_t {v : EV → Res SV} : (Sm.ofB v).t = tstV v := rfl
@[simp] theorem fr_frz : (SV.frz d).freeze = some d := rfl
@[simp] theorem fr_own : (SV.own ds).freeze = some (.list ds) := rfl
@[simp] theorem boolD_b {b : Bool} : boolD (.frz (.bool b)) = some b := rfl
@[simp] theorem truth_b {b : Bool} : truthD (.bool b) = some b := rfl
@[simp] theorem cst_v : (sCst d).v env = some (.ok (.frz d) env) := rfl
@[simp] theorem cst_o : (sCst d).o env = some (.ok (.dat d) env) := rfl
theorem oOf_eq {v : EV → Res SV} : oOf v env = (v env).bd fun s env1 => sure s.freeze fun d => .mk (.dat d) env1 := rfl
theorem tOf_eq {o : EV → Res Opd} : tOf o env = (o env).bd fun o env1 => sure (rd false env1 o) fun d => sure (truthD d) fun b => .mk b env1 := rfl
theorem tstV_eq {v : EV → Res SV} : tstV v env = (v env).bd fun r env1 => sure (boolD r) fun b => .mk b env1 := rfl
@[simp] theorem rd_dat {st : Bool} : rd st env (.dat d) = some d := rfl
theorem var_v (i : Nat) (env : EV) : (sVar i).v env = vVar i env := rfl
theorem var_o (i : Nat) (env : EV) : (sVar i).o env = oVar i env := rfl
theorem var_t (i : Nat) (env : EV) : (sVar i).t env = tOf (oVar i) env := rfl
theorem sop_v (st : Bool) (f : List PyData → Option SV) (as : List Sm) (env : EV) : (sOp st f as).v env = vOp st f as env := rfl
theorem sop_o (st : Bool) (f : List PyData → Option SV) (as : List Sm) (env : EV) : (sOp st f as).o env = oOf (vOp st f as) env := rfl
theorem sop_t (st : Bool) (f : List PyData → Option SV) (as : List Sm) (env : EV) : (sOp st f as).t env = tOf (oOf (vOp st f as)) env := rfl
theorem cmp_v (f : List PyData → Option SV) (as : List Sm) (env : EV) : (sCmp f as).v env = vOp false f as env := rfl
theorem cmp_o (f : List PyData → Option SV) (as : List Sm) (env : EV) : (sCmp f as).o env = oOf (vOp false f as) env := rfl
theorem cmp_t (f : List PyData → Option SV) (as : List Sm) (env : EV) : (sCmp f as).t env = tstV (vOp false f as) env := rfl
theorem chain_v (f g : List PyData → Option SV) (a b c : Sm) (env : EV) : (sChain f g a b c).v env = vChain f g a b c env := rfl
theorem chain_o (f g : List PyData → Option SV) (a b c : Sm) (env : EV) : (sChain f g a b c).o env = oOf (vChain f g a b c) env := rfl
theorem chain_t (f g : List PyData → Option SV) (a b c : Sm) (env : EV) : (sChain f g a b c).t env = tstV (vChain f g a b c) env := rfl
theorem and_v (a b : Sm) (env : EV) : (sAnd1 a b).v env = (a.v env).bd fun r env1 => sure (boolD r) fun k => if k = true then b.v env1 else .mk (.frz (.bool false)) env1 := rfl
theorem and_o (a b : Sm) (env : EV) : (sAnd1 a b).o env = oOf (sAnd1 a b).v env := rfl
theorem and_t (a b : Sm) (env : EV) : (sAnd1 a b).t env = (a.t env).bd fun k env1 => if k = true then b.t env1 else .mk false env1 := rfl
theorem or_v (a b : Sm) (env : EV) : (sOr1 a b).v env = (a.v env).bd fun r env1 => sure (boolD r) fun k => if k = true then .mk (.frz (.bool true)) env1 else b.v env1 := rfl
theorem or_o (a b : Sm) (env : EV) : (sOr1 a b).o env = oOf (sOr1 a b).v env := rfl
theorem or_t (a b : Sm) (env : EV) : (sOr1 a b).t env = (a.t env).bd fun k env1 => if k = true then .mk true env1 else b.t env1 := rfl
theorem not_v (a : Sm) (env : EV) : (sNot a).v env = (tOf a.o env).bd fun k env1 => .mk (.frz (.bool !k)) env1 := rfl
theorem not_o (a : Sm) (env : EV) : (sNot a).o env = oOf (sNot a).v env := rfl
theorem not_t (a : Sm) (env : EV) : (sNot a).t env = (a.t env).bd fun k env1 => .mk (!k) env1 := rfl
theorem ite_v (c a b : Sm) (env : EV) : (sIte c a b).v env = (c.t env).bd fun k env1 => if k = true then a.v env1 else b.v env1 := rfl
theorem ite_o (c a b : Sm) (env : EV) : (sIte c a b).o env = oOf (sIte c a b).v env := rfl
theorem ite_t (c a b : Sm) (env : EV) : (sIte c a b).t env = (c.t env).bd fun k env1 => if k = true then a.t env1 else b.t env1 := rfl
theorem tup_v (as : List (Bool × Sm)) (env : EV) : (sTup as).v env = (evDs as env).bd fun ds env1 => if ds.length ≤ sizeLine then .mk (.frz (.tuple ds)) env1 else none := rfl
theorem tup_o (as : List (Bool × Sm)) (env : EV) : (sTup as).o env = oOf (sTup as).v env := rfl
theorem lst_v (as : List (Bool × Sm)) (env : EV) : (sLst as).v env = (evDs as env).bd fun ds env1 => if ds.length ≤ sizeLine then .mk (.own ds) env1 else none := rfl
theorem lst_o (as : List (Bool × Sm)) (env : EV) : (sLst as).o env = oOf (sLst as).v env := rfl
end
/-! ### defs -/
/-- what a def leaves: its result and the slots of its arguments -/
def EndC (svs : List SV) (Q : SV → EV → Prop) : Fl → EV → Prop
  | .nx, env => ∃ p, pBack svs env = some p ∧ Q (.frz .none) p
  | .rt r, env => ∃ p, pBack svs env = some p ∧ Q r p
  | _, _ => False
@[simp] theorem endC_rt {svs : List SV} {Q : SV → EV → Prop} {r : SV} {env : EV} : EndC svs Q (.rt r) env = ∃ p, pBack svs env = some p ∧ Q r p := rfl
@[simp] theorem endC_nx {svs : List SV} {Q : SV → EV → Prop} {env : EV} : EndC svs Q .nx env = ∃ p, pBack svs env = some p ∧ Q (.frz .none) p := rfl
theorem tot_defC {n : Nat} {m : StS} {svs : List SV} {Q : SV → EV → Prop} (h : tot (m (svs.map some ++ List.replicate (n - svs.length) none)) (EndC svs Q)) : tot (defC n m svs) Q := by
  unfold defC
  obtain ⟨f, env, e, h⟩ := tot_ex h
  rw [e]
  cases f with
  | nx => obtain ⟨p, e2, q⟩ := h; simp only [e2]; exact q
  | rt r => obtain ⟨p, e2, q⟩ := h; simp only [e2]; exact q
  | bk => exact h.elim
  | ct => exact h.elim
/-- a statement, then the rest -/
def NxtD (b : StS) (Q : Fl → EV → Prop) (_ : Dp b) (_ : Dp Q) : Fl → EV → Prop
  | .nx, env => tot (b env) Q
  | f, env => Q f env
abbrev Nxt (b : StS) (Q : Fl → EV → Prop) : Fl → EV → Prop := NxtD b Q () ()
theorem tot_seq {a b : StS} {env : EV} {Q : Fl → EV → Prop} (h : tot (a env) (Nxt b Q)) : tot (mSeq a b env) Q := by
  refine tot_bd (tot_imp h fun f env1 q => ?_)
  cases f with
  | nx => exact q
  | rt s => exact q
  | bk => exact q
  | ct => exact q
theorem nxt_nx {b : StS} {Q : Fl → EV → Prop} {env : EV} (h : tot (b env) Q) : Nxt b Q .nx env := h
@[simp] theorem nxt_rt {b : StS} {Q : Fl → EV → Prop} {env : EV} {r : SV} : Nxt b Q (.rt r) env = Q (.rt r) env := rfl
@[simp] theorem nxt_bk {b : StS} {Q : Fl → EV → Prop} {env : EV} : Nxt b Q .bk env = Q .bk env := rfl
@[simp] theorem nxt_ct {b : StS} {Q : Fl → EV → Prop} {env : EV} : Nxt b Q .ct env = Q .ct env := rfl
theorem tot_cons {Φ : Nat → CallSem} {γ : Nat → PyData} {s : S} {ss : Ss} {env : EV} {Q : Fl → EV → Prop} (h : tot (s.den Φ γ env) (Nxt (ss.den Φ γ) Q)) : tot ((Ss.cons s ss).den Φ γ env) Q := by
  unfold Ss.den
  exact tot_seq h
theorem tot_nil {Φ : Nat → CallSem} {γ : Nat → PyData} {env : EV} {Q : Fl → EV → Prop} (h : Q .nx env) : tot (Ss.nil.den Φ γ env) Q := by
  unfold Ss.den
  exact h
theorem tot_whl {Φ : Nat → CallSem} {γ : Nat → PyData} {c : E} {b : Ss} {env : EV} {Q : Fl → EV → Prop} (h : tot (mWhile (c.den Φ γ).t (b.den Φ γ) env) Q) : tot ((S.whl c b).den Φ γ env) Q := by
  unfold S.den
  exact h
theorem tot_ite {Φ : Nat → CallSem} {γ : Nat → PyData} {c : E} {a b : Ss} {env env1 : EV} {k : Bool} {Q : Fl → EV → Prop} (hc : (c.den Φ γ).t env = some (.ok k env1)) (h : tot ((if k = true then a.den Φ γ else b.den Φ γ) env1) Q) : tot ((S.ite c a b).den Φ γ env) Q := by
  unfold S.den mIf
  rw [hc]
  show tot (if k = true then _ else _) Q
  cases k <;> exact h
theorem tot_call {C : CallSem} {as : List Arg} {env : EV} {svs : List SV} {R : SV → EV → Prop} {Q : SV → EV → Prop} (h1 : apart as = true) (h2 : passAs env as = some svs) (hC : tot (C svs) R) (hk : ∀ r p, R r p → ∃ env1, backA as p env = some env1 ∧ Q r env1) : tot (callA C as env) Q := by
  unfold callA
  rw [if_pos h1, h2]
  obtain ⟨r, p, e, q⟩ := tot_ex hC
  obtain ⟨env1, e2, q2⟩ := hk r p q
  simp only [sure_some, e, e2]
  exact q2
theorem callA_eq {C : CallSem} {as : List Arg} {env env1 : EV} {svs : List SV} {r : SV} {p : EV} (h1 : apart as = true) (h2 : passAs env as = some svs) (hC : C svs = some (.ok r p)) (hk : backA as p env = some env1) : callA C as env = some (.ok r env1) :=
  tot_eq (tot_call (R := fun a e => a = r ∧ e = p) h1 h2 (by rw [hC]; exact ⟨rfl, rfl⟩) fun a e h => by obtain ⟨rfl, rfl⟩ := h; exact ⟨env1, hk, rfl, rfl⟩)
/-! ### loops -/
/-- J i: ahead of the i-th turn -/
theorem tot_for {tg : Tg} {body : StS} {Q : Fl → EV → Prop} : ∀ {items : List PyData} (J : Nat → EV → Prop) {env : EV}, J 0 env →
    (∀ i d env, items[i]? = some d → J i env → ∃ env1, asgT tg d env = some env1 ∧ tot (body env1) fun f env2 => match f with
      | .nx => J (i + 1) env2
      | .ct => J (i + 1) env2
      | .bk => Q .nx env2
      | .rt s => Q (.rt s) env2) → (∀ env, J items.length env → Q .nx env) → tot (forGo tg body items env) Q
  | [], J, env, h0, _, hd => hd env h0
  | d :: items, J, env, h0, hs, hd => by
    obtain ⟨env1, e1, t⟩ := hs 0 d env rfl h0
    unfold forGo
    rw [e1]
    refine tot_bd (tot_imp t fun f env2 q => ?_)
    cases f with
    | nx => exact tot_for (fun i => J (i + 1)) q (fun i d env hi hv => hs (i + 1) d env hi hv) hd
    | ct => exact tot_for (fun i => J (i + 1)) q (fun i d env hi hv => hs (i + 1) d env hi hv) hd
    | bk => exact q
    | rt s => exact q
theorem tot_re {g : EV → EV} {r : Res Fl} {Q : Fl → EV → Prop} (h : tot r fun f env => Q f (g env)) : tot (r.re g) Q := by
  unfold tot at h ⊢
  rw [wp_re]; exact h
theorem tot_mFor {src : Src} {tg : Tg} {body : StS} {env env1 : EV} {items : List PyData} {ls : List Nat} {Q : Fl → EV → Prop} (hs : src env = some (.ok (items, ls) env1)) (h : tot (forGo tg body items (lendS ls env1)) fun f env2 => Q f (restS [] 0 env1 env2)) : tot (mFor src tg body env) Q := by
  unfold mFor
  rw [hs]
  exact tot_re h
theorem tot_forS {Φ : Nat → CallSem} {γ : Nat → PyData} {s : So} {t : Tg} {b : Ss} {env env1 : EV} {items : List PyData} {ls : List Nat} {Q : Fl → EV → Prop} (hs : s.den Φ γ env = some (.ok (items, ls) env1)) (h : tot (forGo t (b.den Φ γ) items (lendS ls env1)) fun f env2 => Q f (restS [] 0 env1 env2)) : tot ((S.for s t b).den Φ γ env) Q := by
  unfold S.den
  exact tot_mFor hs h
/-- a while loop whose measure falls -/
theorem tot_whGo {t : EV → Res Bool} {body : StS} {Q : Fl → EV → Prop} (J : Nat → EV → Prop) (hs : ∀ m env, J m env → tot (t env) fun c env1 => if c = true then tot (body env1) fun f env2 => match f with
      | .nx => ∃ m', m' < m ∧ J m' env2
      | .ct => ∃ m', m' < m ∧ J m' env2
      | .bk => Q .nx env2
      | .rt s => Q (.rt s) env2
    else Q .nx env1) : ∀ (m : Nat) (env : EV), J m env → ∀ n, m < n → tot (whGo t body n env) Q
  | m, env, h, n + 1, hn => by
    unfold whGo
    refine tot_bd (tot_imp (hs m env h) fun c env1 q => ?_)
    cases c with
    | false =>
      simp only [Bool.false_eq_true, if_false] at q ⊢
      exact q
    | true =>
      simp only [if_true] at q ⊢
      refine tot_bd (tot_imp q fun f env2 q => ?_)
      cases f with
      | nx => obtain ⟨m', l, h'⟩ := q; exact tot_whGo J hs m' env2 h' n (by omega)
      | ct => obtain ⟨m', l, h'⟩ := q; exact tot_whGo J hs m' env2 h' n (by omega)
      | bk => exact q
      | rt s => exact q
termination_by m => m
theorem tot_ne {α : Type} {r : Res α} {Q : α → EV → Prop} (h : tot r Q) : r ≠ none := by rintro rfl; exact h
theorem tot_while {t : EV → Res Bool} {body : StS} {Q : Fl → EV → Prop} (J : Nat → EV → Prop) {m : Nat} {env : EV} (h0 : J m env) (hs : ∀ m env, J m env → tot (t env) fun c env1 => if c = true then tot (body env1) fun f env2 => match f with
      | .nx => ∃ m', m' < m ∧ J m' env2
      | .ct => ∃ m', m' < m ∧ J m' env2
      | .bk => Q .nx env2
      | .rt s => Q (.rt s) env2
    else Q .nx env1) : tot (mWhile t body env) Q := by
  have h := tot_whGo J hs m env h0 (m + 1) (Nat.lt_succ_self m)
  rw [mWhile_eq (tot_ne h)]
  exact h
/-! ### comprehensions -/
theorem tstR_none {env : EV} : tstR none env = some (.ok true env) := rfl
theorem tstR_some {o : Sm} {env : EV} : tstR (some o) env = o.t env := rfl
theorem lcGo_map {vs : List Nat} {tg : Tg} {te : EV → Res SV} {f : PyData → PyData} {env : EV} : ∀ {items : List PyData} (acc : List PyData), (∀ d ∈ items, ∃ env1 env2 s, asgT tg d env = some env1 ∧ te env1 = some (.ok s env2) ∧ s.freeze = some (f d) ∧ wipeS vs env2 = env) →
    lcGo vs tg (tstR none) te items acc env = some (.ok (acc ++ items.map f) env)
  | [], acc, _ => by simp [lcGo]
  | d :: items, acc, h => by
    obtain ⟨env1, env2, s, h1, h2, h3, h4⟩ := h d List.mem_cons_self
    have ih := lcGo_map (vs := vs) (tg := tg) (te := te) (f := f) (env := env) (items := items) (acc ++ [f d]) fun x hx => h x (List.mem_cons_of_mem _ hx)
    unfold lcGo
    simp only [h1, sure_some, tstR_none, noEr_ok, bd_ok, if_true, h2, h3, h4]
    rw [ih]
    simp
theorem lcGo_filter {vs : List Nat} {tg : Tg} {o : Sm} {te : EV → Res SV} {p : PyData → Bool} {f : PyData → PyData} {env : EV} : ∀ {items : List PyData} (acc : List PyData), (∀ d ∈ items, ∃ env1 env2, asgT tg d env = some env1 ∧ o.t env1 = some (.ok (p d) env2) ∧
      if p d = true then ∃ env3 s, te env2 = some (.ok s env3) ∧ s.freeze = some (f d) ∧ wipeS vs env3 = env else wipeS vs env2 = env) →
    lcGo vs tg (tstR (some o)) te items acc env = some (.ok (acc ++ (items.filter p).map f) env)
  | [], acc, _ => by simp [lcGo]
  | d :: items, acc, h => by
    obtain ⟨env1, env2, h1, h2, h3⟩ := h d List.mem_cons_self
    have ih := fun acc => lcGo_filter (vs := vs) (tg := tg) (o := o) (te := te) (p := p) (f := f) (env := env) (items := items) acc fun x hx => h x (List.mem_cons_of_mem _ hx)
    unfold lcGo
    simp only [h1, sure_some, tstR_some, h2, noEr_ok, bd_ok]
    cases hp : p d with
    | true =>
      rw [hp, if_pos rfl] at h3
      obtain ⟨env3, s, g1, g2, g3⟩ := h3
      simp only [if_true, g1, noEr_ok, bd_ok, g2, sure_some, g3]
      rw [ih]
      simp [hp]
    | false =>
      rw [hp, if_neg Bool.false_ne_true] at h3
      simp only [Bool.false_eq_true, if_false, h3]
      rw [ih]
      simp [hp]
/-- a list whose elements are drawn: each good -/
theorem lcGo_tot {vs : List Nat} {tg : Tg} {te : EV → Res SV} (J : Nat → List PyData → EV → Prop) {Q : List PyData → EV → Prop} : ∀ {items : List PyData} (n : Nat) (acc : List PyData) {env : EV}, J n acc env →
    (∀ i d acc env, items[i]? = some d → J (n + i) acc env → ∃ env1, asgT tg d env = some env1 ∧ tot (te env1) fun s env2 => ∃ y, s.freeze = some y ∧ J (n + i + 1) (acc ++ [y]) (wipeS vs env2)) →
    (∀ acc env, J (n + items.length) acc env → Q acc env) → tot (lcGo vs tg (tstR none) te items acc env) Q
  | [], n, acc, env, h0, _, hd => hd acc env h0
  | d :: items, n, acc, env, h0, hs, hd => by
    obtain ⟨env1, h1, t⟩ := hs 0 d acc env rfl h0
    obtain ⟨s, env2, e2, y, e3, h2⟩ := tot_ex t
    unfold lcGo
    simp only [h1, sure_some, tstR_none, noEr_ok, bd_ok, if_true, e2, e3]
    refine lcGo_tot J (n + 1) (acc ++ [y]) h2 (fun i d acc env hi hv => ?_) fun acc env hv => ?_
    · have := hs (i + 1) d acc env hi (by rw [show n + (i + 1) = n + 1 + i by omega]; exact hv)
      rw [show n + (i + 1) = n + 1 + i by omega] at this
      exact this
    · exact hd acc env (by rw [List.length_cons, show n + (items.length + 1) = n + 1 + items.length by omega]; exact hv)
theorem vLc_eq {vs : List Nat} {src : Src} {tg : Tg} {o : Option Sm} {e : Sm} {env env1 env2 : EV} {items acc : List PyData} {ls : List Nat} (hs : src env = some (.ok (items, ls) env1)) (hl : items.length ≤ sizeLine) (hn : noLs vs env1 = true)
    (hg : lcGo vs tg (tstR o) e.v items [] (wipeS vs (lendS ls env1)) = some (.ok acc env2)) : vLc vs src tg o e env = some (.ok (.own acc) (restS vs 0 env1 env2)) := by
  unfold vLc
  rw [hs]
  simp only [bd_ok, hl, decide_true, hn, Bool.and_self, if_true, hg, mk_ok]
theorem vLc_tot {vs : List Nat} {src : Src} {tg : Tg} {o : Option Sm} {e : Sm} {env env1 : EV} {items : List PyData} {ls : List Nat} {Q : SV → EV → Prop} (hs : src env = some (.ok (items, ls) env1)) (hl : items.length ≤ sizeLine) (hn : noLs vs env1 = true)
    (hg : tot (lcGo vs tg (tstR o) e.v items [] (wipeS vs (lendS ls env1))) fun acc env2 => Q (.own acc) (restS vs 0 env1 env2)) : tot (vLc vs src tg o e env) Q := by
  unfold vLc
  rw [hs]
  simp only [bd_ok, hl, decide_true, hn, Bool.and_self, if_true]
  exact tot_bd hg
/-! ### the defs of a text -/
theorem sems_len (γ : Nat → PyData) : ∀ (rs : List DR) (acc : List CallSem), (sems γ rs acc).length = acc.length + rs.length
  | [], acc => rfl
  | r :: rs, acc => by unfold sems; rw [sems_len γ rs]; simp; omega
/-! ### arguments' slots behind a call; equality -/
section
variable {d : PyData} {ds es : List PyData} {r : List SV} {e : EV} {x : Option SV}
@[simp] theorem pB_nil : pBack [] e = some [] := by cases e <;> rfl
@[simp] theorem pB_frz : pBack (.frz d :: r) (x :: e) = (pBack r e).map (some (.frz d) :: ·) := rfl
@[simp] theorem pB_lent : pBack (.lent ds :: r) (x :: e) = (pBack r e).map (some (.lent ds) :: ·) := rfl
@[simp] theorem pB_scr : pBack (.scr ds :: r) (x :: e) = (pBack r e).map (some (.scr ds) :: ·) := rfl
@[simp] theorem pB_io : pBack (.io ds :: r) (some (.io es) :: e) = (pBack r e).map (some (.io es) :: ·) := rfl
@[simp] theorem eqD_int {i j : Int} : eqD (.int i) (.int j) = some (i == j) := by
  have h : eqOk (.int i) (.int j) = true := by simp [eqOk, PyData.canLay0, PyData.depth]
  unfold eqD
  rw [if_pos h]
  simp [PyData.eqv]
@[simp] theorem eqD_bool {i j : Bool} : eqD (.bool i) (.bool j) = some (i == j) := by
  have h : eqOk (.bool i) (.bool j) = true := by simp [eqOk, PyData.canLay0, PyData.depth]
  unfold eqD
  rw [if_pos h]
  simp [PyData.eqv]
@[simp] theorem eqD_pair {a b c d : Int} : eqD (.tuple [.int a, .int b]) (.tuple [.int c, .int d]) = some (a == c && b == d) := by
  have h : eqOk (.tuple [.int a, .int b]) (.tuple [.int c, .int d]) = true := by simp [eqOk, PyData.canLay0, PyData.canLayAll0, PyData.depth, PyData.depthAll]
  unfold eqD
  rw [if_pos h]
  simp [PyData.eqv, PyData.eqvAll]
@[simp] theorem eqD_tnil : eqD (.tuple ds) (.tuple []) = some ds.isEmpty := by
  unfold eqD
  split
  · cases ds <;> simp [PyData.eqv, PyData.eqvAll]
  · cases ds <;> rfl
theorem eqD_lnil (h : PyData.canLayAll0 ds = true) : eqD (.list ds) (.list []) = some ds.isEmpty := by
  have h : eqOk (.list ds) (.list []) = true := by
    unfold eqOk
    rw [Bool.and_eq_true, Bool.and_eq_true, decide_eq_true_eq]
    refine ⟨⟨by simpa [PyData.canLay0] using h, by simp [PyData.canLay0, PyData.canLayAll0]⟩, Nat.le_trans (Nat.min_le_right _ _) ?_⟩
    simp [PyData.depth, PyData.depthAll]
  unfold eqD
  rw [if_pos h]
  cases ds <;> simp [PyData.eqv, PyData.eqvAll]
@[simp] theorem boolsD_mapf {α : Type} {f : α → Bool} : ∀ {l : List α}, boolsD (l.map fun x => .bool (f x)) = some (l.map f)
  | [] => rfl
  | x :: l => by
    rw [List.map_cons, List.map_cons]
    unfold boolsD
    rw [boolsD_mapf (l := l)]
    rfl
end
@[simp] theorem boolsD_cons {b : Bool} {r : List PyData} : boolsD (.bool b :: r) = (boolsD r).bind fun bs => some (b :: bs) := rfl
theorem cast_beq1 {n : Nat} : (((n : Nat) : Int) == 1) = (n == 1) := by
  by_cases h : n = 1
  · subst h; rfl
  · rw [beq_eq_false_iff_ne.mpr h, beq_eq_false_iff_ne]; omega
/-! ### operators on data -/
section
variable {i j : Int} {xs ys : List PyData} {d e : PyData} {b : Bool}
@[simp] theorem dAdd_int : dAdd [.int i, .int j] = some (.frz (.int (i + j))) := rfl
@[simp] theorem dAdd_tup : dAdd [.tuple xs, .tuple ys] = if xs.length + ys.length ≤ sizeLine then some (.frz (.tuple (xs ++ ys))) else none := rfl
@[simp] theorem dAdd_lst : dAdd [.list xs, .list ys] = if xs.length + ys.length ≤ sizeLine then some (.own (xs ++ ys)) else none := rfl
@[simp] theorem dSub_int : dSub [.int i, .int j] = some (.frz (.int (i - j))) := rfl
@[simp] theorem dMul_int : dMul [.int i, .int j] = if mulOk i j = true then some (.frz (.int (i * j))) else none := rfl
@[simp] theorem dMul_lst : dMul [.list xs, .int j] = if -(2 ^ 63) ≤ j ∧ j < 2 ^ 63 ∧ xs.length * j.toNat ≤ sizeLine then some (.own (List.replicate j.toNat xs).flatten) else none := rfl
@[simp] theorem dMul_tup : dMul [.tuple xs, .int j] = if j ≤ 1000 ∧ -1000 ≤ j ∧ xs.length ≤ 1000 then some (.frz (.tuple (List.replicate j.toNat xs).flatten)) else none := rfl
@[simp] theorem dDiv_int : dDiv [.int i, .int j] = if divOk i j = true then some (.frz (.int (i.fdiv j))) else none := rfl
@[simp] theorem dMod_int : dMod [.int i, .int j] = if modOk i j = true then some (.frz (.int (i.fmod j))) else none := rfl
@[simp] theorem dPow_int : dPow [.int i, .int j] = if powOk i j = true then some (.frz (.int (i ^ j.toNat))) else none := rfl
@[simp] theorem dShl_int : dShl [.int i, .int j] = if powOk i j = true then some (.frz (.int (i * 2 ^ j.toNat))) else none := rfl
@[simp] theorem dNeg_int : dNeg [.int i] = some (.frz (.int (-i))) := rfl
@[simp] theorem dIdx_tup : dIdx [.tuple xs, .int i] = (atD xs i).bind fun d => some (.frz d) := rfl
@[simp] theorem dIdx_lst : dIdx [.list xs, .int i] = (atD xs i).bind fun d => some (.frz d) := rfl
@[simp] theorem dLen_tup : dLen [.tuple xs] = some (.frz (.int xs.length)) := rfl
@[simp] theorem dLen_lst : dLen [.list xs] = some (.frz (.int xs.length)) := rfl
@[simp] theorem dAbs_int : dAbs [.int i] = some (.frz (.int (if i < 0 then -i else i))) := rfl
@[simp] theorem dInt_int : dInt [.int i] = some (.frz (.int i)) := rfl
@[simp] theorem dInt_bool : dInt [.bool b] = some (.frz (.int (if b then 1 else 0))) := rfl
@[simp] theorem dAll_lst : dAll [.list xs] = (boolsD xs).bind fun bs => some (.frz (.bool (bs.all id))) := rfl
@[simp] theorem dAny_lst : dAny [.list xs] = (boolsD xs).bind fun bs => some (.frz (.bool (bs.any id))) := rfl
@[simp] theorem dDivmod_int : dDivmod [.int i, .int j] = if 0 < j ∧ j < 1073741824 then some (.frz (.tuple [.int (i / j), .int (i % j)])) else none := rfl
@[simp] theorem dList_lst : dList [.list xs] = some (.own xs) := rfl
@[simp] theorem dList_tup : dList [.tuple xs] = some (.own xs) := rfl
@[simp] theorem dTuple_lst : dTuple [.list xs] = some (.frz (.tuple xs)) := rfl
@[simp] theorem dTuple_tup : dTuple [.tuple xs] = some (.frz (.tuple xs)) := rfl
@[simp] theorem dGcd_int : dGcd [.int i, .int j] = some (.frz (.int ((Nat.gcd i.natAbs j.natAbs : Nat) : Int))) := rfl
@[simp] theorem dIsa_eq {T : String} : dIsa T [d] = some (.frz (.bool (isaD T d))) := rfl
@[simp] theorem dLt_int : dLt [.int i, .int j] = some (.frz (.bool (decide (i < j)))) := rfl
@[simp] theorem dGt_int : dGt [.int i, .int j] = some (.frz (.bool (decide (j < i)))) := rfl
@[simp] theorem dLe_int : dLe [.int i, .int j] = some (.frz (.bool (decide (i ≤ j)))) := rfl
@[simp] theorem dGe_int : dGe [.int i, .int j] = some (.frz (.bool (decide (j ≤ i)))) := rfl
@[simp] theorem dEq_eq : dEq [d, e] = (eqD d e).bind fun b => some (.frz (.bool b)) := rfl
@[simp] theorem dNe_eq : dNe [d, e] = (eqD d e).bind fun b => some (.frz (.bool !b)) := rfl
@[simp] theorem dIsN_eq : dIsNone [d, .none] = some (.frz (.bool (isNoneD d))) := rfl
@[simp] theorem dNotN_eq : dNotNone [d, .none] = some (.frz (.bool !isNoneD d)) := rfl
@[simp] theorem dMax_int : dMax [.int i, .int j] = some (.frz (.int (max i j))) := rfl
@[simp] theorem dMin_int : dMin [.int i, .int j] = some (.frz (.int (min i j))) := rfl
@[simp] theorem isa_int_int : isaD "int" (.int i) = true := rfl
@[simp] theorem isa_int_bool : isaD "int" (.bool b) = true := rfl
@[simp] theorem isa_bool_bool : isaD "bool" (.bool b) = true := rfl
@[simp] theorem isa_bool_int : isaD "bool" (.int i) = false := rfl
@[simp] theorem isa_tup_tup : isaD "tuple" (.tuple xs) = true := rfl
end
/-! ### [f(x) for x in xs] -/
theorem restS_self : ∀ {vs : List Nat} {k : Nat} {env : EV}, restS vs k env env = env
  | _, _, [] => rfl
  | vs, k, a :: r => by
    unfold restS
    rw [restS_self]
    split
    · rfl
    · cases a with
      | none => rfl
      | some s => cases s <;> rfl
theorem set_none {env : EV} {i : Nat} (h : env[i]? = some none) : env.set i none = env := by
  refine List.ext_getElem? fun j => ?_
  by_cases e : i = j
  · subst e
    rw [List.getElem?_set_self (List.getElem?_eq_some_iff.mp h).1, h]
  · rw [List.getElem?_set_ne e]
theorem set_back {env : EV} {i : Nat} {x : Option SV} (h : env[i]? = some none) : (env.set i x).set i none = env := by
  rw [List.set_set, set_none h]
theorem lc_gen {i : Nat} {src : Src} {e : Sm} {env : EV} {ds : List PyData} {f : PyData → PyData} (hs : src env = some (.ok (ds, []) env)) (hi : env[i]? = some none) (hl : ds.length ≤ sizeLine)
    (he : ∀ d ∈ ds, ∃ s, e.v (env.set i (some (.frz d))) = some (.ok s (env.set i (some (.frz d)))) ∧ s.freeze = some (f d)) : vLc [i] src (.name i) none e env = some (.ok (.own (ds.map f)) env) := by
  have w : wipeS [i] (lendS [] env) = env := by
    show (lendS [] env).set i none = env
    unfold lendS
    exact set_none hi
  have g := vLc_eq (vs := [i]) (tg := .name i) (o := none) (e := e) hs hl (by simp [noLs, hi]) (acc := ds.map f) (env2 := env) (by
    rw [w]
    have := lcGo_map (vs := [i]) (tg := .name i) (te := e.v) (f := f) (env := env) (items := ds) [] fun d hd => by
      obtain ⟨s, h1, h2⟩ := he d hd
      refine ⟨_, _, s, ?_, h1, h2, set_back hi⟩
      simp [asgT, putS, storable, hi]
    simpa using this)
  rw [g, restS_self]
/-- over data in a slot -/
theorem lc_seq {a i : Nat} {e : Sm} {env : EV} {d0 : PyData} {ds : List PyData} {f : PyData → PyData} (ha : env[a]? = some (some (.frz d0))) (hd : d0 = .tuple ds ∨ d0 = .list ds) (hi : env[i]? = some none) (hl : ds.length ≤ sizeLine)
    (he : ∀ d ∈ ds, ∃ s, e.v (env.set i (some (.frz d))) = some (.ok s (env.set i (some (.frz d)))) ∧ s.freeze = some (f d)) : vLc [i] (vSeq (sVar a)) (.name i) none e env = some (.ok (.own (ds.map f)) env) := by
  refine lc_gen ?_ hi hl he
  rcases hd with rfl | rfl <;> simp [vSeq, var_o, oVar, ha, srcO]
/-! targets, by their equations (the unfolded match does not pass the kernel) -/
theorem asgS_name {i : Nat} {d : PyData} {env : EV} : asgS (.name i) d env = putR env i (.frz d) := rfl
theorem asgS_sub {i : Nat} {s : Sm} {d : PyData} {env : EV} : asgS (.sub i s) d env = (itemsM env i).bind fun _ => match s.v env with
    | some (.ok (.frz (.int k)) env1) => (itemsM env1 i).bind fun ds => (ixN ds.length k).bind fun j => reown env1 i (ds.set j d)
    | _ => none := rfl
theorem asgS_tup {ts : TgSs} {ds : List PyData} {env : EV} : asgS (.tup ts) (.tuple ds) env = asgSs ts ds env := rfl
theorem asgSs_nil {env : EV} : asgSs .nil [] env = some env := rfl
theorem asgSs_cons {t : TgS} {ts : TgSs} {d : PyData} {ds : List PyData} {env : EV} : asgSs (.cons t ts) (d :: ds) env = (asgS t d env).bind fun env1 => asgSs ts ds env1 := rfl
/-! calls, the answer still to be named -/
def callB (r : Res SV) (as : List Arg) (env : EV) : Res SV := match r with
  | some (.ok r p) => sure (backA as p env) fun env1 => .mk r env1
  | some (.er x p) => sure (backA as p env) fun env1 => some (.er x env1)
  | none => none
theorem callA_def {C : CallSem} {as : List Arg} {env : EV} : callA C as env = if apart as = true then sure (passAs env as) fun svs => callB (C svs) as env else none := rfl
@[simp] theorem callB_ok {r : SV} {p : EV} {as : List Arg} {env : EV} : callB (some (.ok r p)) as env = sure (backA as p env) fun env1 => .mk r env1 := rfl
theorem tot_callB {β : Type} {r0 : Res SV} {as : List Arg} {env : EV} {R : SV → EV → Prop} {f : SV → EV → Res β} {Q : β → EV → Prop} (h : tot r0 R) (hk : ∀ r p, R r p → ∃ env1, backA as p env = some env1 ∧ tot (f r env1) Q) : tot ((callB r0 as env).bd f) Q := by
  obtain ⟨r, p, rfl, q⟩ := tot_ex h
  obtain ⟨env1, e2, q2⟩ := hk r p q
  simp only [callB_ok, e2, sure_some, mk_ok, bd_ok]
  exact q2
theorem rngL_at {n : Int} {i : Nat} {d : PyData} (h : (rngL 0 n)[i]? = some d) : (i : Int) < n ∧ d = .int i := by
  have hi : i < n.toNat := by
    obtain ⟨q, _⟩ := List.getElem?_eq_some_iff.mp h
    simpa [rngL] using q
  have e : d = .int i := by
    rw [List.getElem?_eq_getElem (by simpa [rngL] using hi)] at h
    obtain rfl := Option.some.inj h
    simp [rngL]
  exact ⟨by omega, e⟩
theorem rngL_len {n : Int} : (rngL 0 n).length = n.toNat := by simp [rngL]
/-- a loop over range(n) -/
theorem tot_forR {Φ : Nat → CallSem} {γ : Nat → PyData} {s : So} {t : Tg} {b : Ss} {env env1 : EV} {n : Int} {Q : Fl → EV → Prop} (hs : s.den Φ γ env = some (.ok (rngL 0 n, []) env1)) (J : Nat → EV → Prop) (h0 : J 0 env1)
    (hk : ∀ (i : Nat) env, (i : Int) < n → J i env → ∃ env2, asgT t (.int i) env = some env2 ∧ tot (b.den Φ γ env2) fun f env3 => match f with
      | .nx => J (i + 1) env3
      | .ct => J (i + 1) env3
      | .bk => Q .nx (restS [] 0 env1 env3)
      | .rt s => Q (.rt s) (restS [] 0 env1 env3)) (he : ∀ env, J n.toNat env → Q .nx (restS [] 0 env1 env)) : tot ((S.for s t b).den Φ γ env) Q := by
  refine tot_forS hs (tot_for J h0 (fun i d env hi hJ => ?_) fun env hJ => he env (by rwa [rngL_len] at hJ))
  obtain ⟨h1, rfl⟩ := rngL_at hi
  exact hk i env h1 hJ
/-- a loop whose source draws -/
theorem tot_forT {Φ : Nat → CallSem} {γ : Nat → PyData} {s : So} {t : Tg} {b : Ss} {env : EV} {Q : Fl → EV → Prop} (h : tot (s.den Φ γ env) fun p env1 => tot (forGo t (b.den Φ γ) p.1 (lendS p.2 env1)) fun f env2 => Q f (restS [] 0 env1 env2)) : tot ((S.for s t b).den Φ γ env) Q := by
  obtain ⟨⟨items, ls⟩, env1, e, q⟩ := tot_ex h
  exact tot_forS e q
end Tw
end STwX

section SChk
namespace K02
open PySem PySem.W PyProof.Rows Tw
def b__law_draw : Ss := .cons (.ite (.cmp .gt (.idx (.var 0) (.int 0)) (.int 0)) (.cons (.asg (.tup (.cons (.sub 0 (.int 0)) (.cons (.name 3) (.nil)))) (.blt .divmod (.cons (.idx (.var 0) (.int 0)) (.cons (.var 1) (.nil))))) (.cons (.retVar 3) (.nil))) (.nil)) (.cons (.asg (.sub 0 (.int 2)) (.bin .add (.idx (.var 0) (.int 2)) (.int 1))) (.cons (.set 2 (.bin .mod (.blt .int (.cons (.bin .add (.bin .mul (.idx (.var 0) (.int 1)) (.int 48271)) (.bin .mul (.int 15017) (.idx (.var 0) (.int 2)))) (.nil))) (.int 2147483489))) (.cons (.asg (.sub 0 (.int 1)) (.bin .mod (.blt .int (.cons (.bin .add (.bin .mul (.var 2) (.bin .add (.bin .mod (.blt .int (.cons (.var 2) (.nil))) (.int 5003)) (.int 20021))) (.idx (.var 0) (.int 2))) (.nil))) (.int 2147483489))) (.cons (.ret (.bin .mod (.blt .int (.cons (.bin .div (.idx (.var 0) (.int 1)) (.int 1009)) (.nil))) (.var 1))) (.nil)))))
def b__law_one : Ss := .cons (.ret (.idx (.var 1) (.call 0 (.give 0 (.val (.blt .len (.cons (.var 1) (.nil))) (.nil)))))) (.nil)
def b__law_lean : Ss := .cons (.par [2, 3] (.cons (.blt .abs (.cons (.var 0) (.nil))) (.cons (.blt .abs (.cons (.var 1) (.nil))) (.nil)))) (.cons (.whl (.cmp .gt (.var 3) (.int 0)) (.cons (.par [2, 3] (.cons (.var 3) (.cons (.bin .mod (.blt .int (.cons (.var 2) (.nil))) (.var 3)) (.nil)))) (.nil))) (.cons (.set 2 (.ite (.cmp .gt (.var 1) (.int 0)) (.var 2) (.bin .sub (.int 0) (.var 2)))) (.cons (.ret (.tup (.cons false (.bin .div (.var 0) (.var 2)) (.cons false (.bin .div (.var 1) (.var 2)) (.nil))))) (.nil))))
def b__law_number : Ss := .cons (.set 1 (.call 0 (.give 0 (.val (.int 16) (.nil))))) (.cons (.ite (.cmp .lt (.var 1) (.int 15)) (.cons (.ret (.call 1 (.give 0 (.val (.tup (.cons false (.tup (.cons false (.int 0) (.cons false (.int 1) (.nil)))) (.cons false (.tup (.cons false (.int 0) (.cons false (.int 1) (.nil)))) (.cons false (.tup (.cons false (.int 0) (.cons false (.int 1) (.nil)))) (.cons false (.tup (.cons false (.int 1) (.cons false (.int 1) (.nil)))) (.cons false (.tup (.cons false (.int 1) (.cons false (.int 1) (.nil)))) (.cons false (.tup (.cons false (.neg (.int 1)) (.cons false (.int 1) (.nil)))) (.cons false (.tup (.cons false (.int 2) (.cons false (.int 1) (.nil)))) (.cons false (.tup (.cons false (.neg (.int 2)) (.cons false (.int 1) (.nil)))) (.cons false (.tup (.cons false (.int 1) (.cons false (.int 2) (.nil)))) (.cons false (.tup (.cons false (.neg (.int 1)) (.cons false (.int 3) (.nil)))) (.nil)))))))))))) (.nil))))) (.nil)) (.nil)) (.cons (.ret (.call 2 (.val (.bin .sub (.call 0 (.give 0 (.val (.int 2000001) (.nil)))) (.int 1000000)) (.val (.bin .add (.int 1) (.call 0 (.give 0 (.val (.int 60) (.nil))))) (.nil))))) (.nil)))
def b__law_numbers : Ss := .cons (.set 2 (.lst (.nil))) (.cons (.for (.rng1 (.var 1)) (.name 3) (.cons (.expr (.app 2 (.call 3 (.give 0 (.nil))))) (.nil))) (.cons (.ret (.blt .tuple (.cons (.var 2) (.nil)))) (.nil)))
def b__law_minus : Ss := .cons (.ret (.call 2 (.val (.bin .sub (.bin .mul (.idx (.var 0) (.int 0)) (.idx (.var 1) (.int 1))) (.bin .mul (.idx (.var 1) (.int 0)) (.idx (.var 0) (.int 1)))) (.val (.bin .mul (.idx (.var 0) (.int 1)) (.idx (.var 1) (.int 1))) (.nil))))) (.nil)
def b__law_trial : Ss := .cons (.par [3, 4, 5, 6] (.cons (.bin .add (.int 1) (.call 0 (.give 0 (.val (.int 5) (.nil))))) (.cons (.lst (.nil)) (.cons (.lst (.nil)) (.cons (.lst (.nil)) (.nil)))))) (.cons (.par [7, 8] (.cons (.bin .add (.int 1) (.call 0 (.give 0 (.lend 1 (.nil))))) (.cons (.call 1 (.give 0 (.val (.tup (.cons false (.int 0) (.cons false (.int 0) (.cons false (.int 1) (.cons false (.int 2) (.cons false (.int 2) (.cons false (.int 3) (.cons false (.int 5) (.nil))))))))) (.nil)))) (.nil)))) (.cons (.for (.rng1 (.var 7)) (.name 2) (.cons (.set 9 (.call 4 (.give 0 (.lend 3 (.nil))))) (.cons (.ite (.and (.cons (.cmp .ne (.var 4) (.lst (.nil))) (.cons (.cmp .eq (.call 0 (.give 0 (.val (.int 4) (.nil)))) (.int 0)) (.nil)))) (.cons (.set 9 (.idx (.var 4) (.call 0 (.give 0 (.val (.blt .len (.cons (.var 4) (.nil))) (.nil)))))) (.nil)) (.nil)) (.cons (.ite (.and (.cons (.cmp .gt (.blt .len (.cons (.var 4) (.nil))) (.int 1)) (.cons (.cmp .eq (.call 0 (.give 0 (.val (.int 6) (.nil)))) (.int 0)) (.nil)))) (.cons (.par [10, 11] (.cons (.call 1 (.give 0 (.lend 4 (.nil)))) (.cons (.call 1 (.give 0 (.lend 4 (.nil)))) (.nil)))) (.cons (.set 9 (.blt .tuple (.cons (.lc [12, 13] (.zip (.var 10) (.var 11)) (.tup (.cons (.name 12) (.cons (.name 13) (.nil)))) (.no) (.call 5 (.lend 12 (.lend 13 (.nil))))) (.nil)))) (.nil))) (.nil)) (.cons (.expr (.app 4 (.var 9))) (.cons (.expr (.app 5 (.call 1 (.give 0 (.val (.tup (.cons false (.tup (.cons false (.int 1) (.cons false (.int 1) (.nil)))) (.cons false (.tup (.cons false (.int 1) (.cons false (.int 1) (.nil)))) (.cons false (.tup (.cons false (.int 1) (.cons false (.int 1) (.nil)))) (.cons false (.tup (.cons false (.int 2) (.cons false (.int 1) (.nil)))) (.cons false (.tup (.cons false (.int 1) (.cons false (.int 2) (.nil)))) (.cons false (.tup (.cons false (.int 1) (.cons false (.int 3) (.nil)))) (.cons false (.tup (.cons false (.int 5) (.cons false (.int 2) (.nil)))) (.nil))))))))) (.nil)))))) (.cons (.expr (.app 6 (.ite (.cmp .gt (.var 8) (.int 0)) (.call 0 (.give 0 (.lend 8 (.nil)))) (.int 0)))) (.nil)))))))) (.cons (.ret (.tup (.cons false (.blt .tuple (.cons (.var 4) (.nil))) (.cons false (.blt .tuple (.cons (.var 5) (.nil))) (.cons false (.ite (.cmp .gt (.var 8) (.int 0)) (.blt .tuple (.cons (.var 6) (.nil))) (.tup (.nil))) (.nil)))))) (.nil))))
def b__law_is_whole : Ss := .cons (.ret (.and (.cons (.isa (.var 0) "int") (.cons (.not (.isa (.var 0) "bool")) (.nil))))) (.nil)
def b__law_odd : Ss := .cons (.set 1 (.tup (.cons false (.none) (.cons false (.bool true) (.cons false (.bool false) (.cons false (.int 0) (.cons false (.int 1) (.cons false (.int 2) (.cons false (.neg (.int 1)) (.cons false (.int 7) (.cons false (.int 5) (.cons false (.str "") (.cons false (.str "a") (.cons false (.str "shifts") (.cons false (.tup (.nil)) (.cons false (.tup (.cons false (.int 0) (.nil))) (.cons false (.tup (.cons false (.int 1) (.nil))) (.cons false (.tup (.cons false (.int 0) (.cons false (.int 1) (.nil)))) (.cons false (.tup (.cons false (.int 1) (.cons false (.int 0) (.nil)))) (.cons false (.tup (.cons false (.int 0) (.cons false (.int 0) (.nil)))) (.cons false (.tup (.cons false (.int 1) (.cons false (.int 2) (.nil)))) (.nil)))))))))))))))))))))) (.cons (.set 2 (.tup (.cons false (.tup (.cons false (.int 1) (.cons false (.int 1) (.nil)))) (.cons false (.tup (.cons false (.int 3) (.cons false (.neg (.int 2)) (.nil)))) (.cons false (.tup (.cons false (.bool true) (.cons false (.int 1) (.nil)))) (.cons false (.tup (.cons false (.int 0) (.cons false (.bool true) (.nil)))) (.cons false (.tup (.cons false (.tup (.cons false (.int 0) (.cons false (.int 1) (.nil)))) (.nil))) (.cons false (.tup (.cons false (.tup (.cons false (.int 1) (.cons false (.int 1) (.nil)))) (.nil))) (.cons false (.tup (.cons false (.tup (.cons false (.int 0) (.cons false (.int 1) (.nil)))) (.cons false (.tup (.cons false (.int 1) (.cons false (.int 2) (.nil)))) (.nil)))) (.cons false (.tup (.cons false (.tup (.cons false (.tup (.cons false (.int 0) (.cons false (.int 1) (.nil)))) (.nil))) (.nil))) (.cons false (.tup (.cons false (.int 2) (.cons false (.int 4) (.nil)))) (.nil)))))))))))) (.cons (.set 2 (.bin .add (.var 2) (.tup (.cons false (.tup (.cons false (.tup (.cons false (.int 0) (.cons false (.int 1) (.nil)))) (.cons false (.tup (.cons false (.int 0) (.cons false (.int 1) (.nil)))) (.nil)))) (.cons false (.lst (.nil)) (.cons false (.lst (.cons false (.int 1) (.nil))) (.cons false (.lst (.cons false (.tup (.cons false (.int 0) (.cons false (.int 1) (.nil)))) (.nil))) (.cons false (.dict0) (.cons false (.tup (.cons false (.none) (.nil))) (.cons false (.tup (.cons false (.tup (.nil)) (.nil))) (.cons false (.bin .pow (.int 10) (.int 20)) (.cons false (.tup (.cons false (.int 0) (.cons false (.int 1) (.cons false (.int 2) (.nil))))) (.cons false (.tup (.cons false (.tup (.cons false (.tup (.cons false (.int 1) (.cons false (.int 1) (.nil)))) (.nil))) (.cons false (.tup (.nil)) (.nil)))) (.nil)))))))))))))) (.cons (.ret (.call 1 (.give 0 (.val (.bin .add (.var 1) (.var 2)) (.nil))))) (.nil))))
def b__law_bent : Ss := .cons (.par [4, 5] (.cons (.lst (.nil)) (.cons (.var 1) (.nil)))) (.cons (.for (.rng1 (.call 0 (.give 0 (.val (.int 5) (.nil))))) (.name 2) (.cons (.ite (.or (.cons (.not (.isa (.var 5) "tuple")) (.cons (.cmp .eq (.var 5) (.tup (.nil))) (.nil)))) (.cons (.brk) (.nil)) (.nil)) (.cons (.set 6 (.call 0 (.give 0 (.val (.blt .len (.cons (.var 5) (.nil))) (.nil))))) (.cons (.expr (.app 4 (.tup (.cons false (.var 5) (.cons false (.var 6) (.nil)))))) (.cons (.set 5 (.idx (.var 5) (.var 6))) (.nil)))))) (.cons (.set 3 (.call 0 (.give 0 (.val (.int 8) (.nil))))) (.cons (.ite (.and (.cons (.isa (.var 5) "tuple") (.cons (.cmp .lt (.var 3) (.int 5)) (.nil)))) (.cons (.set 5 (.idx (.tup (.cons false (.blt .list (.cons (.var 5) (.nil))) (.cons false (.sl (.var 5) (.no) (.so (.neg (.int 1)))) (.cons false (.bin .add (.var 5) (.sl (.var 5) (.no) (.so (.int 1)))) (.cons false (.sl (.var 5) (.so (.int 1)) (.no)) (.cons false (.rev (.var 5)) (.nil))))))) (.var 3))) (.nil)) (.cons (.ite (.and (.cons (.call 7 (.lend 5 (.nil))) (.cons (.cmp .lt (.var 3) (.int 5)) (.nil)))) (.cons (.set 5 (.idx (.tup (.cons false (.bin .add (.var 5) (.int 1)) (.cons false (.bin .sub (.var 5) (.int 1)) (.cons false (.bin .sub (.int 0) (.var 5)) (.cons false (.cmp .gt (.var 5) (.int 0)) (.cons false (.bin .sub (.int 1) (.var 5)) (.nil))))))) (.var 3))) (.nil)) (.cons (.set 5 (.call 8 (.give 0 (.nil)))) (.nil))) (.nil))) (.cons (.for (.seq (.rev (.var 4))) (.tup (.cons (.name 7) (.cons (.name 6) (.nil)))) (.cons (.set 5 (.bin .add (.bin .add (.sl (.var 7) (.no) (.so (.var 6))) (.tup (.cons false (.var 5) (.nil)))) (.sl (.var 7) (.so (.bin .add (.var 6) (.int 1))) (.no)))) (.nil))) (.cons (.retVar 5) (.nil))))))
def b__law_maybe : Ss := .cons (.set 2 (.call 0 (.give 0 (.val (.int 10) (.nil))))) (.cons (.ite (.cmp .lt (.var 2) (.int 5)) (.cons (.retVar 1) (.nil)) (.nil)) (.cons (.ret (.ite (.cmp .lt (.var 2) (.int 9)) (.call 9 (.give 0 (.val (.var 1) (.nil)))) (.call 8 (.give 0 (.nil))))) (.nil)))
def b__law_is_tuple : Ss := .cons (.ret (.and (.cons (.isa (.var 0) "tuple") (.cons (.cmp .eq (.blt .len (.cons (.var 0) (.nil))) (.var 1)) (.nil))))) (.nil)
def b__law_is_part : Ss := .cons (.ite (.or (.cons (.not (.call 11 (.lend 0 (.val (.int 2) (.nil))))) (.cons (.not (.call 7 (.val (.idx (.var 0) (.int 0)) (.nil)))) (.cons (.not (.call 7 (.val (.idx (.var 0) (.int 1)) (.nil)))) (.nil))))) (.cons (.ret (.bool false)) (.nil)) (.nil)) (.cons (.ret (.and (.cons (.cmp .gt (.idx (.var 0) (.int 1)) (.int 0)) (.cons (.cmp .eq (.call 2 (.val (.idx (.var 0) (.int 0)) (.val (.idx (.var 0) (.int 1)) (.nil)))) (.var 0)) (.nil))))) (.nil))
def b__law_is_row : Ss := .cons (.ret (.and (.cons (.call 11 (.lend 0 (.lend 1 (.nil)))) (.cons (.blt .all (.cons (.lc [2] (.seq (.var 0)) (.name 2) (.no) (.call 12 (.lend 2 (.nil)))) (.nil))) (.nil))))) (.nil)
def b__law_is_trial : Ss := .cons (.ite (.or (.cons (.not (.call 11 (.lend 0 (.val (.int 3) (.nil))))) (.cons (.not (.isa (.idx (.var 0) (.int 0)) "tuple")) (.cons (.not (.chain .le .le (.int 1) (.blt .len (.cons (.idx (.var 0) (.int 0)) (.nil))) (.int 10))) (.nil))))) (.cons (.ret (.bool false)) (.nil)) (.nil)) (.cons (.asg (.tup (.cons (.name 1) (.cons (.name 2) (.cons (.name 3) (.nil))))) (.var 0)) (.cons (.ite (.or (.cons (.not (.isa (.idx (.var 1) (.int 0)) "tuple")) (.cons (.not (.chain .le .le (.int 1) (.blt .len (.cons (.idx (.var 1) (.int 0)) (.nil))) (.int 5))) (.nil)))) (.cons (.ret (.bool false)) (.nil)) (.nil)) (.cons (.ite (.or (.cons (.not (.blt .all (.cons (.lc [6] (.seq (.var 1)) (.name 6) (.no) (.call 13 (.lend 6 (.val (.blt .len (.cons (.idx (.var 1) (.int 0)) (.nil))) (.nil))))) (.nil)))) (.cons (.not (.call 13 (.lend 2 (.val (.blt .len (.cons (.var 1) (.nil))) (.nil))))) (.nil)))) (.cons (.ret (.bool false)) (.nil)) (.nil)) (.cons (.ite (.or (.cons (.blt .any (.cons (.lc [5] (.seq (.var 2)) (.name 5) (.no) (.cmp .le (.idx (.var 5) (.int 0)) (.int 0))) (.nil))) (.cons (.not (.isa (.var 3) "tuple")) (.nil)))) (.cons (.ret (.bool false)) (.nil)) (.nil)) (.cons (.ite (.and (.cons (.cmp .ne (.var 3) (.tup (.nil))) (.cons (.cmp .ne (.blt .len (.cons (.var 3) (.nil))) (.blt .len (.cons (.var 1) (.nil)))) (.nil)))) (.cons (.ret (.bool false)) (.nil)) (.nil)) (.cons (.ret (.blt .all (.cons (.lc [4] (.seq (.var 3)) (.name 4) (.no) (.and (.cons (.call 7 (.lend 4 (.nil))) (.cons (.chain .le .le (.int 0) (.var 4) (.int 4)) (.nil))))) (.nil)))) (.nil)))))))
def b__law_levels : Ss := .cons (.ret (.ite (.cmp .eq (.idx (.var 0) (.int 2)) (.tup (.nil))) (.int 0) (.bin .add (.blt .max (.cons (.idx (.var 0) (.int 2)) (.nil))) (.int 1)))) (.nil)
def b__law_world : Ss := .cons (.ret (.tup (.cons false (.call 4 (.give 0 (.val (.blt .len (.cons (.idx (.idx (.var 1) (.int 0)) (.int 0)) (.nil))) (.nil)))) (.cons false (.call 4 (.give 0 (.val (.call 15 (.lend 1 (.nil))) (.nil)))) (.nil))))) (.nil)
def b__law_is_world : Ss := .cons (.ite (.or (.cons (.not (.call 11 (.lend 1 (.val (.int 2) (.nil))))) (.cons (.not (.call 13 (.val (.idx (.var 1) (.int 0)) (.val (.blt .len (.cons (.idx (.idx (.var 0) (.int 0)) (.int 0)) (.nil))) (.nil))))) (.nil)))) (.cons (.ret (.bool false)) (.nil)) (.nil)) (.cons (.ret (.call 13 (.val (.idx (.var 1) (.int 1)) (.val (.call 15 (.lend 0 (.nil))) (.nil))))) (.nil))
def b__law_planted : Ss := .cons (.asg (.tup (.cons (.name 2) (.cons (.name 3) (.cons (.name 4) (.nil))))) (.var 1)) (.cons (.par [5, 6] (.cons (.call 0 (.give 0 (.val (.int 5) (.nil)))) (.cons (.call 0 (.give 0 (.val (.int 2) (.nil)))) (.nil)))) (.cons (.ite (.cmp .eq (.var 5) (.int 0)) (.cons (.ret (.tup (.cons false (.bin .mul (.sl (.var 2) (.no) (.so (.int 1))) (.bin .add (.int 10) (.var 6))) (.cons false (.bin .mul (.tup (.cons false (.tup (.cons false (.int 1) (.cons false (.int 1) (.nil)))) (.nil))) (.bin .add (.int 10) (.var 6))) (.cons false (.tup (.nil)) (.nil)))))) (.nil)) (.nil)) (.cons (.ite (.cmp .eq (.var 5) (.int 1)) (.cons (.ret (.tup (.cons false (.tup (.cons false (.bin .mul (.tup (.cons false (.tup (.cons false (.int 1) (.cons false (.int 2) (.nil)))) (.nil))) (.bin .add (.int 5) (.var 6))) (.nil))) (.cons false (.tup (.cons false (.tup (.cons false (.int 2) (.cons false (.int 1) (.nil)))) (.nil))) (.cons false (.tup (.nil)) (.nil)))))) (.nil)) (.nil)) (.cons (.ite (.cmp .eq (.var 5) (.int 2)) (.cons (.ret (.tup (.cons false (.var 2) (.cons false (.var 3) (.cons false (.bin .add (.bin .mul (.tup (.cons false (.int 0) (.nil))) (.bin .sub (.blt .len (.cons (.var 2) (.nil))) (.int 1))) (.tup (.cons false (.bin .add (.int 4) (.var 6)) (.nil)))) (.nil)))))) (.nil)) (.nil)) (.cons (.ite (.cmp .eq (.var 5) (.int 3)) (.cons (.ret (.tup (.cons false (.var 2) (.cons false (.bin .add (.sl (.var 3) (.no) (.so (.neg (.int 1)))) (.tup (.cons false (.tup (.cons false (.var 6) (.cons false (.int 1) (.nil)))) (.nil)))) (.cons false (.var 4) (.nil)))))) (.nil)) (.nil)) (.cons (.ret (.tup (.cons false (.var 2) (.cons false (.var 3) (.cons false (.bin .mul (.tup (.cons false (.int 1) (.nil))) (.bin .add (.blt .len (.cons (.var 2) (.nil))) (.var 6))) (.nil)))))) (.nil)))))))
def b_is_whole : Ss := .cons (.ret (.and (.cons (.isa (.var 0) "int") (.cons (.not (.isa (.var 0) "bool")) (.nil))))) (.nil)
def b_is_between : Ss := .cons (.ret (.and (.cons (.call 19 (.lend 0 (.nil))) (.cons (.chain .le .le (.var 1) (.var 0) (.var 2)) (.nil))))) (.nil)
def b_are_blocks : Ss := .cons (.ite (.not (.isa (.var 0) "tuple")) (.cons (.ret (.bool false)) (.nil)) (.nil)) (.cons (.ret (.or (.cons (.cmp .eq (.var 0) (.tup (.nil))) (.cons (.and (.cons (.cmp .eq (.blt .len (.cons (.var 0) (.nil))) (.var 1)) (.cons (.blt .all (.cons (.lc [2] (.seq (.var 0)) (.name 2) (.no) (.call 20 (.lend 2 (.val (.int 0) (.val (.glb 0) (.nil)))))) (.nil))) (.nil)))) (.nil))))) (.nil))
def b_is_tuple_of : Ss := .cons (.ret (.and (.cons (.isa (.var 0) "tuple") (.cons (.cmp .eq (.blt .len (.cons (.var 0) (.nil))) (.var 1)) (.nil))))) (.nil)
def b_is_ratio : Ss := .cons (.ite (.or (.cons (.not (.call 22 (.lend 0 (.val (.int 2) (.nil))))) (.cons (.not (.call 19 (.val (.idx (.var 0) (.int 0)) (.nil)))) (.cons (.not (.call 19 (.val (.idx (.var 0) (.int 1)) (.nil)))) (.nil))))) (.cons (.ret (.bool false)) (.nil)) (.nil)) (.cons (.ret (.and (.cons (.cmp .gt (.idx (.var 0) (.int 1)) (.int 0)) (.cons (.cmp .eq (.blt .gcd (.cons (.idx (.var 0) (.int 0)) (.cons (.idx (.var 0) (.int 1)) (.nil)))) (.int 1)) (.nil))))) (.nil))
def b_is_row : Ss := .cons (.ret (.and (.cons (.call 22 (.lend 0 (.lend 1 (.nil)))) (.cons (.blt .all (.cons (.lc [2] (.seq (.var 0)) (.name 2) (.no) (.call 23 (.lend 2 (.nil)))) (.nil))) (.nil))))) (.nil)
def b_are_plots : Ss := .cons (.ite (.or (.cons (.not (.isa (.var 0) "tuple")) (.cons (.not (.chain .le .le (.int 1) (.blt .len (.cons (.var 0) (.nil))) (.glb 1))) (.cons (.not (.isa (.idx (.var 0) (.int 0)) "tuple")) (.nil))))) (.cons (.ret (.bool false)) (.nil)) (.nil)) (.cons (.ret (.and (.cons (.chain .le .le (.int 1) (.blt .len (.cons (.idx (.var 0) (.int 0)) (.nil))) (.glb 2)) (.cons (.blt .all (.cons (.lc [1] (.seq (.var 0)) (.name 1) (.no) (.call 24 (.lend 1 (.val (.blt .len (.cons (.idx (.var 0) (.int 0)) (.nil))) (.nil))))) (.nil))) (.nil))))) (.nil))
def b_is_trial_by : Ss := .cons (.ite (.or (.cons (.not (.call 22 (.lend 0 (.val (.int 3) (.nil))))) (.cons (.not (.call 25 (.val (.idx (.var 0) (.int 0)) (.nil)))) (.cons (.not (.call 24 (.val (.idx (.var 0) (.int 1)) (.val (.blt .len (.cons (.idx (.var 0) (.int 0)) (.nil))) (.nil))))) (.nil))))) (.cons (.ret (.bool false)) (.nil)) (.nil)) (.cons (.ret (.and (.cons (.blt .all (.cons (.lc [1] (.seq (.idx (.var 0) (.int 1))) (.name 1) (.no) (.cmp .gt (.idx (.var 1) (.int 0)) (.int 0))) (.nil))) (.cons (.call 21 (.val (.idx (.var 0) (.int 2)) (.val (.blt .len (.cons (.idx (.var 0) (.int 0)) (.nil))) (.nil)))) (.nil))))) (.nil))
def b_is_trial : Ss := .cons (.ret (.call 26 (.lend 0 (.nil)))) (.nil)
def b_check_trial : Ss := .cons (.ite (.not (.call 26 (.lend 0 (.nil)))) (.cons (.raise) (.nil)) (.nil)) (.nil)
def b_many_unknowns : Ss := .cons (.ret (.blt .len (.cons (.idx (.idx (.var 0) (.int 0)) (.int 0)) (.nil)))) (.nil)
def b_many_levels : Ss := .cons (.ret (.ite (.cmp .ne (.idx (.var 0) (.int 2)) (.tup (.nil))) (.bin .add (.blt .max (.cons (.idx (.var 0) (.int 2)) (.nil))) (.int 1)) (.int 0))) (.nil)
def b_is_world_by : Ss := .cons (.ite (.not (.call 22 (.lend 1 (.val (.int 2) (.nil))))) (.cons (.ret (.bool false)) (.nil)) (.nil)) (.cons (.ret (.and (.cons (.call 24 (.val (.idx (.var 1) (.int 0)) (.val (.call 29 (.lend 0 (.nil))) (.nil)))) (.cons (.call 24 (.val (.idx (.var 1) (.int 1)) (.val (.call 30 (.lend 0 (.nil))) (.nil)))) (.nil))))) (.nil))
def b_is_world : Ss := .cons (.expr (.call 28 (.lend 0 (.nil)))) (.cons (.ret (.call 31 (.lend 0 (.lend 1 (.nil))))) (.nil))
def b_is_question_by : Ss := .cons (.ret (.call 24 (.lend 1 (.val (.call 29 (.lend 0 (.nil))) (.nil))))) (.nil)
def b_is_question : Ss := .cons (.expr (.call 28 (.lend 0 (.nil)))) (.cons (.ret (.call 33 (.lend 0 (.lend 1 (.nil))))) (.nil))
def b_levels_of : Ss := .cons (.expr (.call 28 (.lend 0 (.nil)))) (.cons (.ret (.call 30 (.lend 0 (.nil)))) (.nil))
def b__law_right : Ss := .cons (.for (.rng1 (.int 4)) (.name 1) (.cons (.set 2 (.call 6 (.give 0 (.val (.int 10) (.nil))))) (.cons (.set 3 (.lst (.cons false (.var 2) (.cons false (.call 9 (.give 0 (.val (.var 2) (.nil)))) (.cons false (.call 10 (.give 0 (.val (.var 2) (.nil)))) (.cons false (.call 8 (.give 0 (.nil))) (.nil))))))) (.cons (.for (.seq (.bin .add (.var 3) (.lst (.cons false (.call 18 (.give 0 (.val (.var 2) (.nil)))) (.nil))))) (.name 4) (.cons (.set 5 (.call 14 (.val (.var 4) (.nil)))) (.cons (.ite (.cmp .ne (.blt .repr (.cons (.lst (.cons false (.call 27 (.lend 4 (.nil))) (.cons false (.kcall 27 (.nil) (.lend 4 (.nil)) ["value"] [0]) (.nil)))) (.nil))) (.blt .repr (.cons (.lst (.cons false (.var 5) (.cons false (.var 5) (.nil)))) (.nil)))) (.cons (.ret (.bool false)) (.nil)) (.nil)) (.cons (.ite (.and (.cons (.var 5) (.cons (.cmp .ne (.blt .repr (.cons (.lst (.cons false (.call 35 (.lend 4 (.nil))) (.cons false (.kcall 35 (.nil) (.lend 4 (.nil)) ["trial"] [0]) (.nil)))) (.nil))) (.blt .repr (.cons (.bin .mul (.lst (.cons false (.call 15 (.lend 4 (.nil))) (.nil))) (.int 2)) (.nil)))) (.nil)))) (.cons (.ret (.bool false)) (.nil)) (.nil)) (.nil))))) (.cons (.par [6, 7] (.cons (.call 16 (.give 0 (.lend 2 (.nil)))) (.cons (.call 4 (.give 0 (.val (.blt .len (.cons (.idx (.idx (.var 2) (.int 0)) (.int 0)) (.nil))) (.nil)))) (.nil)))) (.cons (.set 3 (.lst (.cons false (.var 6) (.cons false (.call 9 (.give 0 (.val (.var 6) (.nil)))) (.cons false (.call 10 (.give 0 (.val (.var 6) (.nil)))) (.cons false (.call 8 (.give 0 (.nil))) (.nil))))))) (.cons (.for (.seq (.bin .add (.var 3) (.lst (.cons false (.tup (.cons false (.idx (.var 6) (.int 0)) (.cons false (.bin .add (.idx (.var 6) (.int 1)) (.tup (.cons false (.tup (.cons false (.int 0) (.cons false (.int 1) (.nil)))) (.nil)))) (.nil)))) (.nil))))) (.name 4) (.cons (.set 5 (.call 17 (.lend 2 (.lend 4 (.nil))))) (.cons (.ite (.cmp .ne (.blt .repr (.cons (.lst (.cons false (.call 32 (.lend 2 (.lend 4 (.nil)))) (.cons false (.kcall 32 (.nil) (.lend 4 (.lend 2 (.nil))) ["value", "trial"] [1, 0]) (.nil)))) (.nil))) (.blt .repr (.cons (.lst (.cons false (.var 5) (.cons false (.var 5) (.nil)))) (.nil)))) (.cons (.ret (.bool false)) (.nil)) (.nil)) (.nil)))) (.cons (.for (.seq (.tup (.cons false (.var 7) (.cons false (.call 9 (.give 0 (.val (.var 7) (.nil)))) (.cons false (.call 10 (.give 0 (.val (.var 7) (.nil)))) (.cons false (.call 8 (.give 0 (.nil))) (.cons false (.bin .add (.var 7) (.tup (.cons false (.tup (.cons false (.int 1) (.cons false (.int 1) (.nil)))) (.nil)))) (.nil)))))))) (.name 4) (.cons (.set 5 (.call 13 (.lend 4 (.val (.blt .len (.cons (.var 7) (.nil))) (.nil))))) (.cons (.ite (.cmp .ne (.blt .repr (.cons (.lst (.cons false (.call 34 (.lend 2 (.lend 4 (.nil)))) (.cons false (.kcall 34 (.nil) (.lend 4 (.lend 2 (.nil))) ["value", "trial"] [1, 0]) (.nil)))) (.nil))) (.blt .repr (.cons (.lst (.cons false (.var 5) (.cons false (.var 5) (.nil)))) (.nil)))) (.cons (.ret (.bool false)) (.nil)) (.nil)) (.nil)))) (.nil))))))))) (.cons (.ret (.bool true)) (.nil))
def b__law_well : Ss := .cons (.set 2 (.bin .add (.int 40013) (.bin .mul (.int 7919) (.var 1)))) (.cons (.for (.seq (.sl (.var 0) (.no) (.so (.int 10)))) (.name 3) (.cons (.set 2 (.bin .mod (.blt .int (.cons (.bin .add (.bin .add (.bin .mul (.var 2) (.int 52361)) (.bin .mul (.bin .mod (.blt .int (.cons (.var 3) (.nil))) (.int 2147483489)) (.int 7))) (.int 19)) (.nil))) (.int 2147483489))) (.nil))) (.cons (.set 4 (.ite (.cmp .lt (.var 1) (.blt .len (.cons (.var 0) (.nil)))) (.blt .int (.cons (.idx (.var 0) (.var 1)) (.nil))) (.int 0))) (.cons (.set 2 (.bin .mod (.blt .int (.cons (.bin .add (.bin .add (.bin .mul (.var 2) (.int 47)) (.bin .mul (.bin .mod (.blt .int (.cons (.var 4) (.nil))) (.int 2147483489)) (.int 30109))) (.int 5)) (.nil))) (.int 2147483489))) (.cons (.ret (.lst (.cons false (.ite (.or (.cons (.cmp .lt (.var 4) (.int 0)) (.cons (.cmp .ge (.var 4) (.bin .pow (.int 10) (.int 14))) (.nil)))) (.blt .abs (.cons (.var 4) (.nil))) (.int 0)) (.cons false (.var 2) (.cons false (.int 0) (.nil)))))) (.nil)))))
def b_law : Ss := .cons (.ret (.blt .all (.cons (.lc [1] (.rng1 (.blt .max (.cons (.int 2) (.cons (.blt .min (.cons (.blt .len (.cons (.var 0) (.nil))) (.cons (.int 4) (.nil)))) (.nil))))) (.name 1) (.no) (.mcall 36 (.call 37 (.lend 0 (.lend 1 (.nil)))))) (.nil)))) (.nil)
def r__law_draw : DR := ⟨18, "_law_draw", ["well", "few"], ["well", "few", "mixed", "figure"], b__law_draw⟩
def r__law_one : DR := ⟨19, "_law_one", ["well", "some"], ["well", "some"], b__law_one⟩
def r__law_lean : DR := ⟨20, "_law_lean", ["top", "base"], ["top", "base", "far", "rest"], b__law_lean⟩
def r__law_number : DR := ⟨29, "_law_number", ["well"], ["well", "way"], b__law_number⟩
def r__law_numbers : DR := ⟨30, "_law_numbers", ["well", "few"], ["well", "few", "found", "turn"], b__law_numbers⟩
def r__law_minus : DR := ⟨21, "_law_minus", ["x", "y"], ["x", "y"], b__law_minus⟩
def r__law_trial : DR := ⟨31, "_law_trial", ["well", "most"], ["well", "most", "turn", "few", "rows", "spreads", "blocks", "many", "kinds", "row", "one", "two", "x", "y"], b__law_trial⟩
def r__law_is_whole : DR := ⟨22, "_law_is_whole", ["thing"], ["thing"], b__law_is_whole⟩
def r__law_odd : DR := ⟨26, "_law_odd", ["well"], ["well", "some", "more"], b__law_odd⟩
def r__law_bent : DR := ⟨27, "_law_bent", ["well", "thing"], ["well", "thing", "turn", "way", "path", "here", "at", "whole"], b__law_bent⟩
def r__law_maybe : DR := ⟨28, "_law_maybe", ["well", "thing"], ["well", "thing", "way"], b__law_maybe⟩
def r__law_is_tuple : DR := ⟨23, "_law_is_tuple", ["thing", "few"], ["thing", "few"], b__law_is_tuple⟩
def r__law_is_part : DR := ⟨24, "_law_is_part", ["thing"], ["thing"], b__law_is_part⟩
def r__law_is_row : DR := ⟨25, "_law_is_row", ["thing", "few"], ["thing", "few", "x"], b__law_is_row⟩
def r__law_is_trial : DR := ⟨34, "_law_is_trial", ["thing"], ["thing", "rows", "spreads", "blocks", "each", "part", "row"], b__law_is_trial⟩
def r__law_levels : DR := ⟨32, "_law_levels", ["trial"], ["trial"], b__law_levels⟩
def r__law_world : DR := ⟨33, "_law_world", ["well", "trial"], ["well", "trial"], b__law_world⟩
def r__law_is_world : DR := ⟨35, "_law_is_world", ["trial", "thing"], ["trial", "thing"], b__law_is_world⟩
def r__law_planted : DR := ⟨36, "_law_planted", ["well", "trial"], ["well", "trial", "rows", "spreads", "blocks", "way", "more"], b__law_planted⟩
def r_is_whole : DR := ⟨0, "is_whole", ["value"], ["value"], b_is_whole⟩
def r_is_between : DR := ⟨1, "is_between", ["value", "low", "high"], ["value", "low", "high"], b_is_between⟩
def r_are_blocks : DR := ⟨5, "are_blocks", ["value", "many"], ["value", "many", "each"], b_are_blocks⟩
def r_is_tuple_of : DR := ⟨2, "is_tuple_of", ["value", "many"], ["value", "many"], b_is_tuple_of⟩
def r_is_ratio : DR := ⟨3, "is_ratio", ["value"], ["value"], b_is_ratio⟩
def r_is_row : DR := ⟨4, "is_row", ["value", "many"], ["value", "many", "each"], b_is_row⟩
def r_are_plots : DR := ⟨6, "are_plots", ["value"], ["value", "row"], b_are_plots⟩
def r_is_trial_by : DR := ⟨7, "is_trial_by", ["value"], ["value", "each"], b_is_trial_by⟩
def r_is_trial : DR := ⟨13, "is_trial", ["value"], ["value"], b_is_trial⟩
def r_check_trial : DR := ⟨12, "check_trial", ["value"], ["value"], b_check_trial⟩
def r_many_unknowns : DR := ⟨8, "many_unknowns", ["trial"], ["trial"], b_many_unknowns⟩
def r_many_levels : DR := ⟨9, "many_levels", ["trial"], ["trial"], b_many_levels⟩
def r_is_world_by : DR := ⟨10, "is_world_by", ["trial", "value"], ["trial", "value"], b_is_world_by⟩
def r_is_world : DR := ⟨14, "is_world", ["trial", "value"], ["trial", "value"], b_is_world⟩
def r_is_question_by : DR := ⟨11, "is_question_by", ["trial", "value"], ["trial", "value"], b_is_question_by⟩
def r_is_question : DR := ⟨15, "is_question", ["trial", "value"], ["trial", "value"], b_is_question⟩
def r_levels_of : DR := ⟨16, "levels_of", ["trial"], ["trial"], b_levels_of⟩
def r__law_right : DR := ⟨37, "_law_right", ["well"], ["well", "turn", "trial", "some", "each", "due", "world", "asked"], b__law_right⟩
def r__law_well : DR := ⟨17, "_law_well", ["script", "lap"], ["script", "lap", "mixed", "cell", "own"], b__law_well⟩
def r_law : DR := ⟨38, "law", ["script"], ["script", "lap"], b_law⟩
def rs : List DR := [r__law_draw, r__law_one, r__law_lean, r__law_number, r__law_numbers, r__law_minus, r__law_trial, r__law_is_whole, r__law_odd, r__law_bent, r__law_maybe, r__law_is_tuple, r__law_is_part, r__law_is_row, r__law_is_trial, r__law_levels, r__law_world, r__law_is_world, r__law_planted, r_is_whole, r_is_between, r_are_blocks, r_is_tuple_of, r_is_ratio, r_is_row, r_are_plots, r_is_trial_by, r_is_trial, r_check_trial, r_many_unknowns, r_many_levels, r_is_world_by, r_is_world, r_is_question_by, r_is_question, r_levels_of, r__law_right, r__law_well, r_law]
def tb : Tb := ⟨rs.map fun r => (r.name, r.ps), [(27, ["value"], 0, [0]), (35, ["trial"], 0, [0]), (32, ["value", "trial"], 0, [1, 0]), (34, ["value", "trial"], 0, [1, 0])], ["MOST_BLOCK", "MOST_PLOTS", "MOST_UNKNOWNS"], ["divmod", "int", "len", "abs", "range", "tuple", "zip", "isinstance", "bool", "list", "all", "any", "max", "repr", "min"], true⟩
def cs : List PyData := [.int (4), .int (10), .int (5)]
def fns : List He.DefD := defsOf PySem.Challenge.pw_trialways_k02_whole_trials_worlds_questi
set_option maxHeartbeats 0 in
theorem ck : (rs.all fun r => r.chk tb fns) = true := by decide +kernel
theorem kwok : ∀ e ∈ tb.kws, ∀ r, rs[e.1]? = some r → KwOk r.ps e.2.1 e.2.2.1 e.2.2.2 := by
  refine List.forall_mem_cons.mpr ⟨?_, List.forall_mem_cons.mpr ⟨?_, List.forall_mem_cons.mpr ⟨?_, List.forall_mem_cons.mpr ⟨?_, fun _ h => (by cases h)⟩⟩⟩⟩
  · intro r h; obtain rfl := Option.some.inj h; exact fun _ _ _ _ _ _ _ _ _ _ us ws h1 h2 => match us, ws, h1, h2 with | [], [_], _, _ => rfl
  · intro r h; obtain rfl := Option.some.inj h; exact fun _ _ _ _ _ _ _ _ _ _ us ws h1 h2 => match us, ws, h1, h2 with | [], [_], _, _ => rfl
  · intro r h; obtain rfl := Option.some.inj h; exact fun _ _ _ _ _ _ _ _ _ _ us ws h1 h2 => match us, ws, h1, h2 with | [], [_, _], _, _ => rfl
  · intro r h; obtain rfl := Option.some.inj h; exact fun _ _ _ _ _ _ _ _ _ _ us ws h1 h2 => match us, ws, h1, h2 with | [], [_, _], _, _ => rfl
abbrev γ : Nat → PyData := gam cs
theorem gl_0 : γ 0 = .int (4) := rfl
theorem gl_1 : γ 1 = .int (10) := rfl
theorem gl_2 : γ 2 = .int (5) := rfl
theorem only {α : Type} (x : α) : ∃ c : α, c = x := ⟨x, rfl⟩
noncomputable def A_0 : List CallSem := []
noncomputable def c__law_draw : CallSem := Classical.choose (only (r__law_draw.sem γ A_0))
theorem q__law_draw : r__law_draw.sem γ A_0 = c__law_draw := (Classical.choose_spec (only (r__law_draw.sem γ A_0))).symm
theorem e__law_draw : c__law_draw = defC 4 (b__law_draw.den (look A_0) γ) := q__law_draw.symm
noncomputable def A_1 : List CallSem := A_0 ++ [c__law_draw]
noncomputable def c__law_one : CallSem := Classical.choose (only (r__law_one.sem γ A_1))
theorem q__law_one : r__law_one.sem γ A_1 = c__law_one := (Classical.choose_spec (only (r__law_one.sem γ A_1))).symm
theorem e__law_one : c__law_one = defC 2 (b__law_one.den (look A_1) γ) := q__law_one.symm
theorem k__law_one_0 : look A_1 0 = c__law_draw := rfl
noncomputable def A_2 : List CallSem := A_1 ++ [c__law_one]
noncomputable def c__law_lean : CallSem := Classical.choose (only (r__law_lean.sem γ A_2))
theorem q__law_lean : r__law_lean.sem γ A_2 = c__law_lean := (Classical.choose_spec (only (r__law_lean.sem γ A_2))).symm
theorem e__law_lean : c__law_lean = defC 4 (b__law_lean.den (look A_2) γ) := q__law_lean.symm
noncomputable def A_3 : List CallSem := A_2 ++ [c__law_lean]
noncomputable def c__law_number : CallSem := Classical.choose (only (r__law_number.sem γ A_3))
theorem q__law_number : r__law_number.sem γ A_3 = c__law_number := (Classical.choose_spec (only (r__law_number.sem γ A_3))).symm
theorem e__law_number : c__law_number = defC 2 (b__law_number.den (look A_3) γ) := q__law_number.symm
theorem k__law_number_0 : look A_3 0 = c__law_draw := rfl
theorem k__law_number_1 : look A_3 1 = c__law_one := rfl
theorem k__law_number_2 : look A_3 2 = c__law_lean := rfl
noncomputable def A_4 : List CallSem := A_3 ++ [c__law_number]
noncomputable def c__law_numbers : CallSem := Classical.choose (only (r__law_numbers.sem γ A_4))
theorem q__law_numbers : r__law_numbers.sem γ A_4 = c__law_numbers := (Classical.choose_spec (only (r__law_numbers.sem γ A_4))).symm
theorem e__law_numbers : c__law_numbers = defC 4 (b__law_numbers.den (look A_4) γ) := q__law_numbers.symm
theorem k__law_numbers_3 : look A_4 3 = c__law_number := rfl
noncomputable def A_5 : List CallSem := A_4 ++ [c__law_numbers]
noncomputable def c__law_minus : CallSem := Classical.choose (only (r__law_minus.sem γ A_5))
theorem q__law_minus : r__law_minus.sem γ A_5 = c__law_minus := (Classical.choose_spec (only (r__law_minus.sem γ A_5))).symm
theorem e__law_minus : c__law_minus = defC 2 (b__law_minus.den (look A_5) γ) := q__law_minus.symm
theorem k__law_minus_2 : look A_5 2 = c__law_lean := rfl
noncomputable def A_6 : List CallSem := A_5 ++ [c__law_minus]
noncomputable def c__law_trial : CallSem := Classical.choose (only (r__law_trial.sem γ A_6))
theorem q__law_trial : r__law_trial.sem γ A_6 = c__law_trial := (Classical.choose_spec (only (r__law_trial.sem γ A_6))).symm
theorem e__law_trial : c__law_trial = defC 14 (b__law_trial.den (look A_6) γ) := q__law_trial.symm
theorem k__law_trial_0 : look A_6 0 = c__law_draw := rfl
theorem k__law_trial_1 : look A_6 1 = c__law_one := rfl
theorem k__law_trial_4 : look A_6 4 = c__law_numbers := rfl
theorem k__law_trial_5 : look A_6 5 = c__law_minus := rfl
noncomputable def A_7 : List CallSem := A_6 ++ [c__law_trial]
noncomputable def c__law_is_whole : CallSem := Classical.choose (only (r__law_is_whole.sem γ A_7))
theorem q__law_is_whole : r__law_is_whole.sem γ A_7 = c__law_is_whole := (Classical.choose_spec (only (r__law_is_whole.sem γ A_7))).symm
theorem e__law_is_whole : c__law_is_whole = defC 1 (b__law_is_whole.den (look A_7) γ) := q__law_is_whole.symm
noncomputable def A_8 : List CallSem := A_7 ++ [c__law_is_whole]
noncomputable def c__law_odd : CallSem := Classical.choose (only (r__law_odd.sem γ A_8))
theorem q__law_odd : r__law_odd.sem γ A_8 = c__law_odd := (Classical.choose_spec (only (r__law_odd.sem γ A_8))).symm
theorem e__law_odd : c__law_odd = defC 3 (b__law_odd.den (look A_8) γ) := q__law_odd.symm
theorem k__law_odd_1 : look A_8 1 = c__law_one := rfl
noncomputable def A_9 : List CallSem := A_8 ++ [c__law_odd]
noncomputable def c__law_bent : CallSem := Classical.choose (only (r__law_bent.sem γ A_9))
theorem q__law_bent : r__law_bent.sem γ A_9 = c__law_bent := (Classical.choose_spec (only (r__law_bent.sem γ A_9))).symm
theorem e__law_bent : c__law_bent = defC 8 (b__law_bent.den (look A_9) γ) := q__law_bent.symm
theorem k__law_bent_0 : look A_9 0 = c__law_draw := rfl
theorem k__law_bent_7 : look A_9 7 = c__law_is_whole := rfl
theorem k__law_bent_8 : look A_9 8 = c__law_odd := rfl
noncomputable def A_10 : List CallSem := A_9 ++ [c__law_bent]
noncomputable def c__law_maybe : CallSem := Classical.choose (only (r__law_maybe.sem γ A_10))
theorem q__law_maybe : r__law_maybe.sem γ A_10 = c__law_maybe := (Classical.choose_spec (only (r__law_maybe.sem γ A_10))).symm
theorem e__law_maybe : c__law_maybe = defC 3 (b__law_maybe.den (look A_10) γ) := q__law_maybe.symm
theorem k__law_maybe_0 : look A_10 0 = c__law_draw := rfl
theorem k__law_maybe_8 : look A_10 8 = c__law_odd := rfl
theorem k__law_maybe_9 : look A_10 9 = c__law_bent := rfl
noncomputable def A_11 : List CallSem := A_10 ++ [c__law_maybe]
noncomputable def c__law_is_tuple : CallSem := Classical.choose (only (r__law_is_tuple.sem γ A_11))
theorem q__law_is_tuple : r__law_is_tuple.sem γ A_11 = c__law_is_tuple := (Classical.choose_spec (only (r__law_is_tuple.sem γ A_11))).symm
theorem e__law_is_tuple : c__law_is_tuple = defC 2 (b__law_is_tuple.den (look A_11) γ) := q__law_is_tuple.symm
noncomputable def A_12 : List CallSem := A_11 ++ [c__law_is_tuple]
noncomputable def c__law_is_part : CallSem := Classical.choose (only (r__law_is_part.sem γ A_12))
theorem q__law_is_part : r__law_is_part.sem γ A_12 = c__law_is_part := (Classical.choose_spec (only (r__law_is_part.sem γ A_12))).symm
theorem e__law_is_part : c__law_is_part = defC 1 (b__law_is_part.den (look A_12) γ) := q__law_is_part.symm
theorem k__law_is_part_2 : look A_12 2 = c__law_lean := rfl
theorem k__law_is_part_7 : look A_12 7 = c__law_is_whole := rfl
theorem k__law_is_part_11 : look A_12 11 = c__law_is_tuple := rfl
noncomputable def A_13 : List CallSem := A_12 ++ [c__law_is_part]
noncomputable def c__law_is_row : CallSem := Classical.choose (only (r__law_is_row.sem γ A_13))
theorem q__law_is_row : r__law_is_row.sem γ A_13 = c__law_is_row := (Classical.choose_spec (only (r__law_is_row.sem γ A_13))).symm
theorem e__law_is_row : c__law_is_row = defC 3 (b__law_is_row.den (look A_13) γ) := q__law_is_row.symm
theorem k__law_is_row_11 : look A_13 11 = c__law_is_tuple := rfl
theorem k__law_is_row_12 : look A_13 12 = c__law_is_part := rfl
noncomputable def A_14 : List CallSem := A_13 ++ [c__law_is_row]
noncomputable def c__law_is_trial : CallSem := Classical.choose (only (r__law_is_trial.sem γ A_14))
theorem q__law_is_trial : r__law_is_trial.sem γ A_14 = c__law_is_trial := (Classical.choose_spec (only (r__law_is_trial.sem γ A_14))).symm
theorem e__law_is_trial : c__law_is_trial = defC 7 (b__law_is_trial.den (look A_14) γ) := q__law_is_trial.symm
theorem k__law_is_trial_7 : look A_14 7 = c__law_is_whole := rfl
theorem k__law_is_trial_11 : look A_14 11 = c__law_is_tuple := rfl
theorem k__law_is_trial_13 : look A_14 13 = c__law_is_row := rfl
noncomputable def A_15 : List CallSem := A_14 ++ [c__law_is_trial]
noncomputable def c__law_levels : CallSem := Classical.choose (only (r__law_levels.sem γ A_15))
theorem q__law_levels : r__law_levels.sem γ A_15 = c__law_levels := (Classical.choose_spec (only (r__law_levels.sem γ A_15))).symm
theorem e__law_levels : c__law_levels = defC 1 (b__law_levels.den (look A_15) γ) := q__law_levels.symm
noncomputable def A_16 : List CallSem := A_15 ++ [c__law_levels]
noncomputable def c__law_world : CallSem := Classical.choose (only (r__law_world.sem γ A_16))
theorem q__law_world : r__law_world.sem γ A_16 = c__law_world := (Classical.choose_spec (only (r__law_world.sem γ A_16))).symm
theorem e__law_world : c__law_world = defC 2 (b__law_world.den (look A_16) γ) := q__law_world.symm
theorem k__law_world_4 : look A_16 4 = c__law_numbers := rfl
theorem k__law_world_15 : look A_16 15 = c__law_levels := rfl
noncomputable def A_17 : List CallSem := A_16 ++ [c__law_world]
noncomputable def c__law_is_world : CallSem := Classical.choose (only (r__law_is_world.sem γ A_17))
theorem q__law_is_world : r__law_is_world.sem γ A_17 = c__law_is_world := (Classical.choose_spec (only (r__law_is_world.sem γ A_17))).symm
theorem e__law_is_world : c__law_is_world = defC 2 (b__law_is_world.den (look A_17) γ) := q__law_is_world.symm
theorem k__law_is_world_11 : look A_17 11 = c__law_is_tuple := rfl
theorem k__law_is_world_13 : look A_17 13 = c__law_is_row := rfl
theorem k__law_is_world_15 : look A_17 15 = c__law_levels := rfl
noncomputable def A_18 : List CallSem := A_17 ++ [c__law_is_world]
noncomputable def c__law_planted : CallSem := Classical.choose (only (r__law_planted.sem γ A_18))
theorem q__law_planted : r__law_planted.sem γ A_18 = c__law_planted := (Classical.choose_spec (only (r__law_planted.sem γ A_18))).symm
theorem e__law_planted : c__law_planted = defC 7 (b__law_planted.den (look A_18) γ) := q__law_planted.symm
theorem k__law_planted_0 : look A_18 0 = c__law_draw := rfl
noncomputable def A_19 : List CallSem := A_18 ++ [c__law_planted]
noncomputable def c_is_whole : CallSem := Classical.choose (only (r_is_whole.sem γ A_19))
theorem q_is_whole : r_is_whole.sem γ A_19 = c_is_whole := (Classical.choose_spec (only (r_is_whole.sem γ A_19))).symm
theorem e_is_whole : c_is_whole = defC 1 (b_is_whole.den (look A_19) γ) := q_is_whole.symm
noncomputable def A_20 : List CallSem := A_19 ++ [c_is_whole]
noncomputable def c_is_between : CallSem := Classical.choose (only (r_is_between.sem γ A_20))
theorem q_is_between : r_is_between.sem γ A_20 = c_is_between := (Classical.choose_spec (only (r_is_between.sem γ A_20))).symm
theorem e_is_between : c_is_between = defC 3 (b_is_between.den (look A_20) γ) := q_is_between.symm
theorem k_is_between_19 : look A_20 19 = c_is_whole := rfl
noncomputable def A_21 : List CallSem := A_20 ++ [c_is_between]
noncomputable def c_are_blocks : CallSem := Classical.choose (only (r_are_blocks.sem γ A_21))
theorem q_are_blocks : r_are_blocks.sem γ A_21 = c_are_blocks := (Classical.choose_spec (only (r_are_blocks.sem γ A_21))).symm
theorem e_are_blocks : c_are_blocks = defC 3 (b_are_blocks.den (look A_21) γ) := q_are_blocks.symm
theorem k_are_blocks_20 : look A_21 20 = c_is_between := rfl
noncomputable def A_22 : List CallSem := A_21 ++ [c_are_blocks]
noncomputable def c_is_tuple_of : CallSem := Classical.choose (only (r_is_tuple_of.sem γ A_22))
theorem q_is_tuple_of : r_is_tuple_of.sem γ A_22 = c_is_tuple_of := (Classical.choose_spec (only (r_is_tuple_of.sem γ A_22))).symm
theorem e_is_tuple_of : c_is_tuple_of = defC 2 (b_is_tuple_of.den (look A_22) γ) := q_is_tuple_of.symm
noncomputable def A_23 : List CallSem := A_22 ++ [c_is_tuple_of]
noncomputable def c_is_ratio : CallSem := Classical.choose (only (r_is_ratio.sem γ A_23))
theorem q_is_ratio : r_is_ratio.sem γ A_23 = c_is_ratio := (Classical.choose_spec (only (r_is_ratio.sem γ A_23))).symm
theorem e_is_ratio : c_is_ratio = defC 1 (b_is_ratio.den (look A_23) γ) := q_is_ratio.symm
theorem k_is_ratio_19 : look A_23 19 = c_is_whole := rfl
theorem k_is_ratio_22 : look A_23 22 = c_is_tuple_of := rfl
noncomputable def A_24 : List CallSem := A_23 ++ [c_is_ratio]
noncomputable def c_is_row : CallSem := Classical.choose (only (r_is_row.sem γ A_24))
theorem q_is_row : r_is_row.sem γ A_24 = c_is_row := (Classical.choose_spec (only (r_is_row.sem γ A_24))).symm
theorem e_is_row : c_is_row = defC 3 (b_is_row.den (look A_24) γ) := q_is_row.symm
theorem k_is_row_22 : look A_24 22 = c_is_tuple_of := rfl
theorem k_is_row_23 : look A_24 23 = c_is_ratio := rfl
noncomputable def A_25 : List CallSem := A_24 ++ [c_is_row]
noncomputable def c_are_plots : CallSem := Classical.choose (only (r_are_plots.sem γ A_25))
theorem q_are_plots : r_are_plots.sem γ A_25 = c_are_plots := (Classical.choose_spec (only (r_are_plots.sem γ A_25))).symm
theorem e_are_plots : c_are_plots = defC 2 (b_are_plots.den (look A_25) γ) := q_are_plots.symm
theorem k_are_plots_24 : look A_25 24 = c_is_row := rfl
noncomputable def A_26 : List CallSem := A_25 ++ [c_are_plots]
noncomputable def c_is_trial_by : CallSem := Classical.choose (only (r_is_trial_by.sem γ A_26))
theorem q_is_trial_by : r_is_trial_by.sem γ A_26 = c_is_trial_by := (Classical.choose_spec (only (r_is_trial_by.sem γ A_26))).symm
theorem e_is_trial_by : c_is_trial_by = defC 2 (b_is_trial_by.den (look A_26) γ) := q_is_trial_by.symm
theorem k_is_trial_by_21 : look A_26 21 = c_are_blocks := rfl
theorem k_is_trial_by_22 : look A_26 22 = c_is_tuple_of := rfl
theorem k_is_trial_by_24 : look A_26 24 = c_is_row := rfl
theorem k_is_trial_by_25 : look A_26 25 = c_are_plots := rfl
noncomputable def A_27 : List CallSem := A_26 ++ [c_is_trial_by]
noncomputable def c_is_trial : CallSem := Classical.choose (only (r_is_trial.sem γ A_27))
theorem q_is_trial : r_is_trial.sem γ A_27 = c_is_trial := (Classical.choose_spec (only (r_is_trial.sem γ A_27))).symm
theorem e_is_trial : c_is_trial = defC 1 (b_is_trial.den (look A_27) γ) := q_is_trial.symm
theorem k_is_trial_26 : look A_27 26 = c_is_trial_by := rfl
noncomputable def A_28 : List CallSem := A_27 ++ [c_is_trial]
noncomputable def c_check_trial : CallSem := Classical.choose (only (r_check_trial.sem γ A_28))
theorem q_check_trial : r_check_trial.sem γ A_28 = c_check_trial := (Classical.choose_spec (only (r_check_trial.sem γ A_28))).symm
theorem e_check_trial : c_check_trial = defC 1 (b_check_trial.den (look A_28) γ) := q_check_trial.symm
theorem k_check_trial_26 : look A_28 26 = c_is_trial_by := rfl
noncomputable def A_29 : List CallSem := A_28 ++ [c_check_trial]
noncomputable def c_many_unknowns : CallSem := Classical.choose (only (r_many_unknowns.sem γ A_29))
theorem q_many_unknowns : r_many_unknowns.sem γ A_29 = c_many_unknowns := (Classical.choose_spec (only (r_many_unknowns.sem γ A_29))).symm
theorem e_many_unknowns : c_many_unknowns = defC 1 (b_many_unknowns.den (look A_29) γ) := q_many_unknowns.symm
noncomputable def A_30 : List CallSem := A_29 ++ [c_many_unknowns]
noncomputable def c_many_levels : CallSem := Classical.choose (only (r_many_levels.sem γ A_30))
theorem q_many_levels : r_many_levels.sem γ A_30 = c_many_levels := (Classical.choose_spec (only (r_many_levels.sem γ A_30))).symm
theorem e_many_levels : c_many_levels = defC 1 (b_many_levels.den (look A_30) γ) := q_many_levels.symm
noncomputable def A_31 : List CallSem := A_30 ++ [c_many_levels]
noncomputable def c_is_world_by : CallSem := Classical.choose (only (r_is_world_by.sem γ A_31))
theorem q_is_world_by : r_is_world_by.sem γ A_31 = c_is_world_by := (Classical.choose_spec (only (r_is_world_by.sem γ A_31))).symm
theorem e_is_world_by : c_is_world_by = defC 2 (b_is_world_by.den (look A_31) γ) := q_is_world_by.symm
theorem k_is_world_by_22 : look A_31 22 = c_is_tuple_of := rfl
theorem k_is_world_by_24 : look A_31 24 = c_is_row := rfl
theorem k_is_world_by_29 : look A_31 29 = c_many_unknowns := rfl
theorem k_is_world_by_30 : look A_31 30 = c_many_levels := rfl
noncomputable def A_32 : List CallSem := A_31 ++ [c_is_world_by]
noncomputable def c_is_world : CallSem := Classical.choose (only (r_is_world.sem γ A_32))
theorem q_is_world : r_is_world.sem γ A_32 = c_is_world := (Classical.choose_spec (only (r_is_world.sem γ A_32))).symm
theorem e_is_world : c_is_world = defC 2 (b_is_world.den (look A_32) γ) := q_is_world.symm
theorem k_is_world_28 : look A_32 28 = c_check_trial := rfl
theorem k_is_world_31 : look A_32 31 = c_is_world_by := rfl
noncomputable def A_33 : List CallSem := A_32 ++ [c_is_world]
noncomputable def c_is_question_by : CallSem := Classical.choose (only (r_is_question_by.sem γ A_33))
theorem q_is_question_by : r_is_question_by.sem γ A_33 = c_is_question_by := (Classical.choose_spec (only (r_is_question_by.sem γ A_33))).symm
theorem e_is_question_by : c_is_question_by = defC 2 (b_is_question_by.den (look A_33) γ) := q_is_question_by.symm
theorem k_is_question_by_24 : look A_33 24 = c_is_row := rfl
theorem k_is_question_by_29 : look A_33 29 = c_many_unknowns := rfl
noncomputable def A_34 : List CallSem := A_33 ++ [c_is_question_by]
noncomputable def c_is_question : CallSem := Classical.choose (only (r_is_question.sem γ A_34))
theorem q_is_question : r_is_question.sem γ A_34 = c_is_question := (Classical.choose_spec (only (r_is_question.sem γ A_34))).symm
theorem e_is_question : c_is_question = defC 2 (b_is_question.den (look A_34) γ) := q_is_question.symm
theorem k_is_question_28 : look A_34 28 = c_check_trial := rfl
theorem k_is_question_33 : look A_34 33 = c_is_question_by := rfl
noncomputable def A_35 : List CallSem := A_34 ++ [c_is_question]
noncomputable def c_levels_of : CallSem := Classical.choose (only (r_levels_of.sem γ A_35))
theorem q_levels_of : r_levels_of.sem γ A_35 = c_levels_of := (Classical.choose_spec (only (r_levels_of.sem γ A_35))).symm
theorem e_levels_of : c_levels_of = defC 1 (b_levels_of.den (look A_35) γ) := q_levels_of.symm
theorem k_levels_of_28 : look A_35 28 = c_check_trial := rfl
theorem k_levels_of_30 : look A_35 30 = c_many_levels := rfl
noncomputable def A_36 : List CallSem := A_35 ++ [c_levels_of]
noncomputable def c__law_right : CallSem := Classical.choose (only (r__law_right.sem γ A_36))
theorem q__law_right : r__law_right.sem γ A_36 = c__law_right := (Classical.choose_spec (only (r__law_right.sem γ A_36))).symm
theorem e__law_right : c__law_right = defC 8 (b__law_right.den (look A_36) γ) := q__law_right.symm
theorem k__law_right_4 : look A_36 4 = c__law_numbers := rfl
theorem k__law_right_6 : look A_36 6 = c__law_trial := rfl
theorem k__law_right_8 : look A_36 8 = c__law_odd := rfl
theorem k__law_right_9 : look A_36 9 = c__law_bent := rfl
theorem k__law_right_10 : look A_36 10 = c__law_maybe := rfl
theorem k__law_right_13 : look A_36 13 = c__law_is_row := rfl
theorem k__law_right_14 : look A_36 14 = c__law_is_trial := rfl
theorem k__law_right_15 : look A_36 15 = c__law_levels := rfl
theorem k__law_right_16 : look A_36 16 = c__law_world := rfl
theorem k__law_right_17 : look A_36 17 = c__law_is_world := rfl
theorem k__law_right_18 : look A_36 18 = c__law_planted := rfl
theorem k__law_right_27 : look A_36 27 = c_is_trial := rfl
theorem k__law_right_32 : look A_36 32 = c_is_world := rfl
theorem k__law_right_34 : look A_36 34 = c_is_question := rfl
theorem k__law_right_35 : look A_36 35 = c_levels_of := rfl
noncomputable def A_37 : List CallSem := A_36 ++ [c__law_right]
noncomputable def c__law_well : CallSem := Classical.choose (only (r__law_well.sem γ A_37))
theorem q__law_well : r__law_well.sem γ A_37 = c__law_well := (Classical.choose_spec (only (r__law_well.sem γ A_37))).symm
theorem e__law_well : c__law_well = defC 5 (b__law_well.den (look A_37) γ) := q__law_well.symm
noncomputable def A_38 : List CallSem := A_37 ++ [c__law_well]
noncomputable def c_law : CallSem := Classical.choose (only (r_law.sem γ A_38))
theorem q_law : r_law.sem γ A_38 = c_law := (Classical.choose_spec (only (r_law.sem γ A_38))).symm
theorem e_law : c_law = defC 2 (b_law.den (look A_38) γ) := q_law.symm
theorem k_law_36 : look A_38 36 = c__law_right := rfl
theorem k_law_37 : look A_38 37 = c__law_well := rfl
noncomputable def A_39 : List CallSem := A_38 ++ [c_law]
theorem z_39 : sems γ [] A_39 = A_39 := rfl
theorem z_38 : sems γ [r_law] A_38 = A_39 := by
  show sems γ [] (A_38 ++ [r_law.sem γ A_38]) = _
  rw [q_law]; exact z_39
theorem z_37 : sems γ [r__law_well, r_law] A_37 = A_39 := by
  show sems γ [r_law] (A_37 ++ [r__law_well.sem γ A_37]) = _
  rw [q__law_well]; exact z_38
theorem z_36 : sems γ [r__law_right, r__law_well, r_law] A_36 = A_39 := by
  show sems γ [r__law_well, r_law] (A_36 ++ [r__law_right.sem γ A_36]) = _
  rw [q__law_right]; exact z_37
theorem z_35 : sems γ [r_levels_of, r__law_right, r__law_well, r_law] A_35 = A_39 := by
  show sems γ [r__law_right, r__law_well, r_law] (A_35 ++ [r_levels_of.sem γ A_35]) = _
  rw [q_levels_of]; exact z_36
theorem z_34 : sems γ [r_is_question, r_levels_of, r__law_right, r__law_well, r_law] A_34 = A_39 := by
  show sems γ [r_levels_of, r__law_right, r__law_well, r_law] (A_34 ++ [r_is_question.sem γ A_34]) = _
  rw [q_is_question]; exact z_35
theorem z_33 : sems γ [r_is_question_by, r_is_question, r_levels_of, r__law_right, r__law_well, r_law] A_33 = A_39 := by
  show sems γ [r_is_question, r_levels_of, r__law_right, r__law_well, r_law] (A_33 ++ [r_is_question_by.sem γ A_33]) = _
  rw [q_is_question_by]; exact z_34
theorem z_32 : sems γ [r_is_world, r_is_question_by, r_is_question, r_levels_of, r__law_right, r__law_well, r_law] A_32 = A_39 := by
  show sems γ [r_is_question_by, r_is_question, r_levels_of, r__law_right, r__law_well, r_law] (A_32 ++ [r_is_world.sem γ A_32]) = _
  rw [q_is_world]; exact z_33
theorem z_31 : sems γ [r_is_world_by, r_is_world, r_is_question_by, r_is_question, r_levels_of, r__law_right, r__law_well, r_law] A_31 = A_39 := by
  show sems γ [r_is_world, r_is_question_by, r_is_question, r_levels_of, r__law_right, r__law_well, r_law] (A_31 ++ [r_is_world_by.sem γ A_31]) = _
  rw [q_is_world_by]; exact z_32
theorem z_30 : sems γ [r_many_levels, r_is_world_by, r_is_world, r_is_question_by, r_is_question, r_levels_of, r__law_right, r__law_well, r_law] A_30 = A_39 := by
  show sems γ [r_is_world_by, r_is_world, r_is_question_by, r_is_question, r_levels_of, r__law_right, r__law_well, r_law] (A_30 ++ [r_many_levels.sem γ A_30]) = _
  rw [q_many_levels]; exact z_31
theorem z_29 : sems γ [r_many_unknowns, r_many_levels, r_is_world_by, r_is_world, r_is_question_by, r_is_question, r_levels_of, r__law_right, r__law_well, r_law] A_29 = A_39 := by
  show sems γ [r_many_levels, r_is_world_by, r_is_world, r_is_question_by, r_is_question, r_levels_of, r__law_right, r__law_well, r_law] (A_29 ++ [r_many_unknowns.sem γ A_29]) = _
  rw [q_many_unknowns]; exact z_30
theorem z_28 : sems γ [r_check_trial, r_many_unknowns, r_many_levels, r_is_world_by, r_is_world, r_is_question_by, r_is_question, r_levels_of, r__law_right, r__law_well, r_law] A_28 = A_39 := by
  show sems γ [r_many_unknowns, r_many_levels, r_is_world_by, r_is_world, r_is_question_by, r_is_question, r_levels_of, r__law_right, r__law_well, r_law] (A_28 ++ [r_check_trial.sem γ A_28]) = _
  rw [q_check_trial]; exact z_29
theorem z_27 : sems γ [r_is_trial, r_check_trial, r_many_unknowns, r_many_levels, r_is_world_by, r_is_world, r_is_question_by, r_is_question, r_levels_of, r__law_right, r__law_well, r_law] A_27 = A_39 := by
  show sems γ [r_check_trial, r_many_unknowns, r_many_levels, r_is_world_by, r_is_world, r_is_question_by, r_is_question, r_levels_of, r__law_right, r__law_well, r_law] (A_27 ++ [r_is_trial.sem γ A_27]) = _
  rw [q_is_trial]; exact z_28
theorem z_26 : sems γ [r_is_trial_by, r_is_trial, r_check_trial, r_many_unknowns, r_many_levels, r_is_world_by, r_is_world, r_is_question_by, r_is_question, r_levels_of, r__law_right, r__law_well, r_law] A_26 = A_39 := by
  show sems γ [r_is_trial, r_check_trial, r_many_unknowns, r_many_levels, r_is_world_by, r_is_world, r_is_question_by, r_is_question, r_levels_of, r__law_right, r__law_well, r_law] (A_26 ++ [r_is_trial_by.sem γ A_26]) = _
  rw [q_is_trial_by]; exact z_27
theorem z_25 : sems γ [r_are_plots, r_is_trial_by, r_is_trial, r_check_trial, r_many_unknowns, r_many_levels, r_is_world_by, r_is_world, r_is_question_by, r_is_question, r_levels_of, r__law_right, r__law_well, r_law] A_25 = A_39 := by
  show sems γ [r_is_trial_by, r_is_trial, r_check_trial, r_many_unknowns, r_many_levels, r_is_world_by, r_is_world, r_is_question_by, r_is_question, r_levels_of, r__law_right, r__law_well, r_law] (A_25 ++ [r_are_plots.sem γ A_25]) = _
  rw [q_are_plots]; exact z_26
theorem z_24 : sems γ [r_is_row, r_are_plots, r_is_trial_by, r_is_trial, r_check_trial, r_many_unknowns, r_many_levels, r_is_world_by, r_is_world, r_is_question_by, r_is_question, r_levels_of, r__law_right, r__law_well, r_law] A_24 = A_39 := by
  show sems γ [r_are_plots, r_is_trial_by, r_is_trial, r_check_trial, r_many_unknowns, r_many_levels, r_is_world_by, r_is_world, r_is_question_by, r_is_question, r_levels_of, r__law_right, r__law_well, r_law] (A_24 ++ [r_is_row.sem γ A_24]) = _
  rw [q_is_row]; exact z_25
theorem z_23 : sems γ [r_is_ratio, r_is_row, r_are_plots, r_is_trial_by, r_is_trial, r_check_trial, r_many_unknowns, r_many_levels, r_is_world_by, r_is_world, r_is_question_by, r_is_question, r_levels_of, r__law_right, r__law_well, r_law] A_23 = A_39 := by
  show sems γ [r_is_row, r_are_plots, r_is_trial_by, r_is_trial, r_check_trial, r_many_unknowns, r_many_levels, r_is_world_by, r_is_world, r_is_question_by, r_is_question, r_levels_of, r__law_right, r__law_well, r_law] (A_23 ++ [r_is_ratio.sem γ A_23]) = _
  rw [q_is_ratio]; exact z_24
theorem z_22 : sems γ [r_is_tuple_of, r_is_ratio, r_is_row, r_are_plots, r_is_trial_by, r_is_trial, r_check_trial, r_many_unknowns, r_many_levels, r_is_world_by, r_is_world, r_is_question_by, r_is_question, r_levels_of, r__law_right, r__law_well, r_law] A_22 = A_39 := by
  show sems γ [r_is_ratio, r_is_row, r_are_plots, r_is_trial_by, r_is_trial, r_check_trial, r_many_unknowns, r_many_levels, r_is_world_by, r_is_world, r_is_question_by, r_is_question, r_levels_of, r__law_right, r__law_well, r_law] (A_22 ++ [r_is_tuple_of.sem γ A_22]) = _
  rw [q_is_tuple_of]; exact z_23
theorem z_21 : sems γ [r_are_blocks, r_is_tuple_of, r_is_ratio, r_is_row, r_are_plots, r_is_trial_by, r_is_trial, r_check_trial, r_many_unknowns, r_many_levels, r_is_world_by, r_is_world, r_is_question_by, r_is_question, r_levels_of, r__law_right, r__law_well, r_law] A_21 = A_39 := by
  show sems γ [r_is_tuple_of, r_is_ratio, r_is_row, r_are_plots, r_is_trial_by, r_is_trial, r_check_trial, r_many_unknowns, r_many_levels, r_is_world_by, r_is_world, r_is_question_by, r_is_question, r_levels_of, r__law_right, r__law_well, r_law] (A_21 ++ [r_are_blocks.sem γ A_21]) = _
  rw [q_are_blocks]; exact z_22
theorem z_20 : sems γ [r_is_between, r_are_blocks, r_is_tuple_of, r_is_ratio, r_is_row, r_are_plots, r_is_trial_by, r_is_trial, r_check_trial, r_many_unknowns, r_many_levels, r_is_world_by, r_is_world, r_is_question_by, r_is_question, r_levels_of, r__law_right, r__law_well, r_law] A_20 = A_39 := by
  show sems γ [r_are_blocks, r_is_tuple_of, r_is_ratio, r_is_row, r_are_plots, r_is_trial_by, r_is_trial, r_check_trial, r_many_unknowns, r_many_levels, r_is_world_by, r_is_world, r_is_question_by, r_is_question, r_levels_of, r__law_right, r__law_well, r_law] (A_20 ++ [r_is_between.sem γ A_20]) = _
  rw [q_is_between]; exact z_21
theorem z_19 : sems γ [r_is_whole, r_is_between, r_are_blocks, r_is_tuple_of, r_is_ratio, r_is_row, r_are_plots, r_is_trial_by, r_is_trial, r_check_trial, r_many_unknowns, r_many_levels, r_is_world_by, r_is_world, r_is_question_by, r_is_question, r_levels_of, r__law_right, r__law_well, r_law] A_19 = A_39 := by
  show sems γ [r_is_between, r_are_blocks, r_is_tuple_of, r_is_ratio, r_is_row, r_are_plots, r_is_trial_by, r_is_trial, r_check_trial, r_many_unknowns, r_many_levels, r_is_world_by, r_is_world, r_is_question_by, r_is_question, r_levels_of, r__law_right, r__law_well, r_law] (A_19 ++ [r_is_whole.sem γ A_19]) = _
  rw [q_is_whole]; exact z_20
theorem z_18 : sems γ [r__law_planted, r_is_whole, r_is_between, r_are_blocks, r_is_tuple_of, r_is_ratio, r_is_row, r_are_plots, r_is_trial_by, r_is_trial, r_check_trial, r_many_unknowns, r_many_levels, r_is_world_by, r_is_world, r_is_question_by, r_is_question, r_levels_of, r__law_right, r__law_well, r_law] A_18 = A_39 := by
  show sems γ [r_is_whole, r_is_between, r_are_blocks, r_is_tuple_of, r_is_ratio, r_is_row, r_are_plots, r_is_trial_by, r_is_trial, r_check_trial, r_many_unknowns, r_many_levels, r_is_world_by, r_is_world, r_is_question_by, r_is_question, r_levels_of, r__law_right, r__law_well, r_law] (A_18 ++ [r__law_planted.sem γ A_18]) = _
  rw [q__law_planted]; exact z_19
theorem z_17 : sems γ [r__law_is_world, r__law_planted, r_is_whole, r_is_between, r_are_blocks, r_is_tuple_of, r_is_ratio, r_is_row, r_are_plots, r_is_trial_by, r_is_trial, r_check_trial, r_many_unknowns, r_many_levels, r_is_world_by, r_is_world, r_is_question_by, r_is_question, r_levels_of, r__law_right, r__law_well, r_law] A_17 = A_39 := by
  show sems γ [r__law_planted, r_is_whole, r_is_between, r_are_blocks, r_is_tuple_of, r_is_ratio, r_is_row, r_are_plots, r_is_trial_by, r_is_trial, r_check_trial, r_many_unknowns, r_many_levels, r_is_world_by, r_is_world, r_is_question_by, r_is_question, r_levels_of, r__law_right, r__law_well, r_law] (A_17 ++ [r__law_is_world.sem γ A_17]) = _
  rw [q__law_is_world]; exact z_18
theorem z_16 : sems γ [r__law_world, r__law_is_world, r__law_planted, r_is_whole, r_is_between, r_are_blocks, r_is_tuple_of, r_is_ratio, r_is_row, r_are_plots, r_is_trial_by, r_is_trial, r_check_trial, r_many_unknowns, r_many_levels, r_is_world_by, r_is_world, r_is_question_by, r_is_question, r_levels_of, r__law_right, r__law_well, r_law] A_16 = A_39 := by
  show sems γ [r__law_is_world, r__law_planted, r_is_whole, r_is_between, r_are_blocks, r_is_tuple_of, r_is_ratio, r_is_row, r_are_plots, r_is_trial_by, r_is_trial, r_check_trial, r_many_unknowns, r_many_levels, r_is_world_by, r_is_world, r_is_question_by, r_is_question, r_levels_of, r__law_right, r__law_well, r_law] (A_16 ++ [r__law_world.sem γ A_16]) = _
  rw [q__law_world]; exact z_17
theorem z_15 : sems γ [r__law_levels, r__law_world, r__law_is_world, r__law_planted, r_is_whole, r_is_between, r_are_blocks, r_is_tuple_of, r_is_ratio, r_is_row, r_are_plots, r_is_trial_by, r_is_trial, r_check_trial, r_many_unknowns, r_many_levels, r_is_world_by, r_is_world, r_is_question_by, r_is_question, r_levels_of, r__law_right, r__law_well, r_law] A_15 = A_39 := by
  show sems γ [r__law_world, r__law_is_world, r__law_planted, r_is_whole, r_is_between, r_are_blocks, r_is_tuple_of, r_is_ratio, r_is_row, r_are_plots, r_is_trial_by, r_is_trial, r_check_trial, r_many_unknowns, r_many_levels, r_is_world_by, r_is_world, r_is_question_by, r_is_question, r_levels_of, r__law_right, r__law_well, r_law] (A_15 ++ [r__law_levels.sem γ A_15]) = _
  rw [q__law_levels]; exact z_16
theorem z_14 : sems γ [r__law_is_trial, r__law_levels, r__law_world, r__law_is_world, r__law_planted, r_is_whole, r_is_between, r_are_blocks, r_is_tuple_of, r_is_ratio, r_is_row, r_are_plots, r_is_trial_by, r_is_trial, r_check_trial, r_many_unknowns, r_many_levels, r_is_world_by, r_is_world, r_is_question_by, r_is_question, r_levels_of, r__law_right, r__law_well, r_law] A_14 = A_39 := by
  show sems γ [r__law_levels, r__law_world, r__law_is_world, r__law_planted, r_is_whole, r_is_between, r_are_blocks, r_is_tuple_of, r_is_ratio, r_is_row, r_are_plots, r_is_trial_by, r_is_trial, r_check_trial, r_many_unknowns, r_many_levels, r_is_world_by, r_is_world, r_is_question_by, r_is_question, r_levels_of, r__law_right, r__law_well, r_law] (A_14 ++ [r__law_is_trial.sem γ A_14]) = _
  rw [q__law_is_trial]; exact z_15
theorem z_13 : sems γ [r__law_is_row, r__law_is_trial, r__law_levels, r__law_world, r__law_is_world, r__law_planted, r_is_whole, r_is_between, r_are_blocks, r_is_tuple_of, r_is_ratio, r_is_row, r_are_plots, r_is_trial_by, r_is_trial, r_check_trial, r_many_unknowns, r_many_levels, r_is_world_by, r_is_world, r_is_question_by, r_is_question, r_levels_of, r__law_right, r__law_well, r_law] A_13 = A_39 := by
  show sems γ [r__law_is_trial, r__law_levels, r__law_world, r__law_is_world, r__law_planted, r_is_whole, r_is_between, r_are_blocks, r_is_tuple_of, r_is_ratio, r_is_row, r_are_plots, r_is_trial_by, r_is_trial, r_check_trial, r_many_unknowns, r_many_levels, r_is_world_by, r_is_world, r_is_question_by, r_is_question, r_levels_of, r__law_right, r__law_well, r_law] (A_13 ++ [r__law_is_row.sem γ A_13]) = _
  rw [q__law_is_row]; exact z_14
theorem z_12 : sems γ [r__law_is_part, r__law_is_row, r__law_is_trial, r__law_levels, r__law_world, r__law_is_world, r__law_planted, r_is_whole, r_is_between, r_are_blocks, r_is_tuple_of, r_is_ratio, r_is_row, r_are_plots, r_is_trial_by, r_is_trial, r_check_trial, r_many_unknowns, r_many_levels, r_is_world_by, r_is_world, r_is_question_by, r_is_question, r_levels_of, r__law_right, r__law_well, r_law] A_12 = A_39 := by
  show sems γ [r__law_is_row, r__law_is_trial, r__law_levels, r__law_world, r__law_is_world, r__law_planted, r_is_whole, r_is_between, r_are_blocks, r_is_tuple_of, r_is_ratio, r_is_row, r_are_plots, r_is_trial_by, r_is_trial, r_check_trial, r_many_unknowns, r_many_levels, r_is_world_by, r_is_world, r_is_question_by, r_is_question, r_levels_of, r__law_right, r__law_well, r_law] (A_12 ++ [r__law_is_part.sem γ A_12]) = _
  rw [q__law_is_part]; exact z_13
theorem z_11 : sems γ [r__law_is_tuple, r__law_is_part, r__law_is_row, r__law_is_trial, r__law_levels, r__law_world, r__law_is_world, r__law_planted, r_is_whole, r_is_between, r_are_blocks, r_is_tuple_of, r_is_ratio, r_is_row, r_are_plots, r_is_trial_by, r_is_trial, r_check_trial, r_many_unknowns, r_many_levels, r_is_world_by, r_is_world, r_is_question_by, r_is_question, r_levels_of, r__law_right, r__law_well, r_law] A_11 = A_39 := by
  show sems γ [r__law_is_part, r__law_is_row, r__law_is_trial, r__law_levels, r__law_world, r__law_is_world, r__law_planted, r_is_whole, r_is_between, r_are_blocks, r_is_tuple_of, r_is_ratio, r_is_row, r_are_plots, r_is_trial_by, r_is_trial, r_check_trial, r_many_unknowns, r_many_levels, r_is_world_by, r_is_world, r_is_question_by, r_is_question, r_levels_of, r__law_right, r__law_well, r_law] (A_11 ++ [r__law_is_tuple.sem γ A_11]) = _
  rw [q__law_is_tuple]; exact z_12
theorem z_10 : sems γ [r__law_maybe, r__law_is_tuple, r__law_is_part, r__law_is_row, r__law_is_trial, r__law_levels, r__law_world, r__law_is_world, r__law_planted, r_is_whole, r_is_between, r_are_blocks, r_is_tuple_of, r_is_ratio, r_is_row, r_are_plots, r_is_trial_by, r_is_trial, r_check_trial, r_many_unknowns, r_many_levels, r_is_world_by, r_is_world, r_is_question_by, r_is_question, r_levels_of, r__law_right, r__law_well, r_law] A_10 = A_39 := by
  show sems γ [r__law_is_tuple, r__law_is_part, r__law_is_row, r__law_is_trial, r__law_levels, r__law_world, r__law_is_world, r__law_planted, r_is_whole, r_is_between, r_are_blocks, r_is_tuple_of, r_is_ratio, r_is_row, r_are_plots, r_is_trial_by, r_is_trial, r_check_trial, r_many_unknowns, r_many_levels, r_is_world_by, r_is_world, r_is_question_by, r_is_question, r_levels_of, r__law_right, r__law_well, r_law] (A_10 ++ [r__law_maybe.sem γ A_10]) = _
  rw [q__law_maybe]; exact z_11
theorem z_9 : sems γ [r__law_bent, r__law_maybe, r__law_is_tuple, r__law_is_part, r__law_is_row, r__law_is_trial, r__law_levels, r__law_world, r__law_is_world, r__law_planted, r_is_whole, r_is_between, r_are_blocks, r_is_tuple_of, r_is_ratio, r_is_row, r_are_plots, r_is_trial_by, r_is_trial, r_check_trial, r_many_unknowns, r_many_levels, r_is_world_by, r_is_world, r_is_question_by, r_is_question, r_levels_of, r__law_right, r__law_well, r_law] A_9 = A_39 := by
  show sems γ [r__law_maybe, r__law_is_tuple, r__law_is_part, r__law_is_row, r__law_is_trial, r__law_levels, r__law_world, r__law_is_world, r__law_planted, r_is_whole, r_is_between, r_are_blocks, r_is_tuple_of, r_is_ratio, r_is_row, r_are_plots, r_is_trial_by, r_is_trial, r_check_trial, r_many_unknowns, r_many_levels, r_is_world_by, r_is_world, r_is_question_by, r_is_question, r_levels_of, r__law_right, r__law_well, r_law] (A_9 ++ [r__law_bent.sem γ A_9]) = _
  rw [q__law_bent]; exact z_10
theorem z_8 : sems γ [r__law_odd, r__law_bent, r__law_maybe, r__law_is_tuple, r__law_is_part, r__law_is_row, r__law_is_trial, r__law_levels, r__law_world, r__law_is_world, r__law_planted, r_is_whole, r_is_between, r_are_blocks, r_is_tuple_of, r_is_ratio, r_is_row, r_are_plots, r_is_trial_by, r_is_trial, r_check_trial, r_many_unknowns, r_many_levels, r_is_world_by, r_is_world, r_is_question_by, r_is_question, r_levels_of, r__law_right, r__law_well, r_law] A_8 = A_39 := by
  show sems γ [r__law_bent, r__law_maybe, r__law_is_tuple, r__law_is_part, r__law_is_row, r__law_is_trial, r__law_levels, r__law_world, r__law_is_world, r__law_planted, r_is_whole, r_is_between, r_are_blocks, r_is_tuple_of, r_is_ratio, r_is_row, r_are_plots, r_is_trial_by, r_is_trial, r_check_trial, r_many_unknowns, r_many_levels, r_is_world_by, r_is_world, r_is_question_by, r_is_question, r_levels_of, r__law_right, r__law_well, r_law] (A_8 ++ [r__law_odd.sem γ A_8]) = _
  rw [q__law_odd]; exact z_9
theorem z_7 : sems γ [r__law_is_whole, r__law_odd, r__law_bent, r__law_maybe, r__law_is_tuple, r__law_is_part, r__law_is_row, r__law_is_trial, r__law_levels, r__law_world, r__law_is_world, r__law_planted, r_is_whole, r_is_between, r_are_blocks, r_is_tuple_of, r_is_ratio, r_is_row, r_are_plots, r_is_trial_by, r_is_trial, r_check_trial, r_many_unknowns, r_many_levels, r_is_world_by, r_is_world, r_is_question_by, r_is_question, r_levels_of, r__law_right, r__law_well, r_law] A_7 = A_39 := by
  show sems γ [r__law_odd, r__law_bent, r__law_maybe, r__law_is_tuple, r__law_is_part, r__law_is_row, r__law_is_trial, r__law_levels, r__law_world, r__law_is_world, r__law_planted, r_is_whole, r_is_between, r_are_blocks, r_is_tuple_of, r_is_ratio, r_is_row, r_are_plots, r_is_trial_by, r_is_trial, r_check_trial, r_many_unknowns, r_many_levels, r_is_world_by, r_is_world, r_is_question_by, r_is_question, r_levels_of, r__law_right, r__law_well, r_law] (A_7 ++ [r__law_is_whole.sem γ A_7]) = _
  rw [q__law_is_whole]; exact z_8
theorem z_6 : sems γ [r__law_trial, r__law_is_whole, r__law_odd, r__law_bent, r__law_maybe, r__law_is_tuple, r__law_is_part, r__law_is_row, r__law_is_trial, r__law_levels, r__law_world, r__law_is_world, r__law_planted, r_is_whole, r_is_between, r_are_blocks, r_is_tuple_of, r_is_ratio, r_is_row, r_are_plots, r_is_trial_by, r_is_trial, r_check_trial, r_many_unknowns, r_many_levels, r_is_world_by, r_is_world, r_is_question_by, r_is_question, r_levels_of, r__law_right, r__law_well, r_law] A_6 = A_39 := by
  show sems γ [r__law_is_whole, r__law_odd, r__law_bent, r__law_maybe, r__law_is_tuple, r__law_is_part, r__law_is_row, r__law_is_trial, r__law_levels, r__law_world, r__law_is_world, r__law_planted, r_is_whole, r_is_between, r_are_blocks, r_is_tuple_of, r_is_ratio, r_is_row, r_are_plots, r_is_trial_by, r_is_trial, r_check_trial, r_many_unknowns, r_many_levels, r_is_world_by, r_is_world, r_is_question_by, r_is_question, r_levels_of, r__law_right, r__law_well, r_law] (A_6 ++ [r__law_trial.sem γ A_6]) = _
  rw [q__law_trial]; exact z_7
theorem z_5 : sems γ [r__law_minus, r__law_trial, r__law_is_whole, r__law_odd, r__law_bent, r__law_maybe, r__law_is_tuple, r__law_is_part, r__law_is_row, r__law_is_trial, r__law_levels, r__law_world, r__law_is_world, r__law_planted, r_is_whole, r_is_between, r_are_blocks, r_is_tuple_of, r_is_ratio, r_is_row, r_are_plots, r_is_trial_by, r_is_trial, r_check_trial, r_many_unknowns, r_many_levels, r_is_world_by, r_is_world, r_is_question_by, r_is_question, r_levels_of, r__law_right, r__law_well, r_law] A_5 = A_39 := by
  show sems γ [r__law_trial, r__law_is_whole, r__law_odd, r__law_bent, r__law_maybe, r__law_is_tuple, r__law_is_part, r__law_is_row, r__law_is_trial, r__law_levels, r__law_world, r__law_is_world, r__law_planted, r_is_whole, r_is_between, r_are_blocks, r_is_tuple_of, r_is_ratio, r_is_row, r_are_plots, r_is_trial_by, r_is_trial, r_check_trial, r_many_unknowns, r_many_levels, r_is_world_by, r_is_world, r_is_question_by, r_is_question, r_levels_of, r__law_right, r__law_well, r_law] (A_5 ++ [r__law_minus.sem γ A_5]) = _
  rw [q__law_minus]; exact z_6
theorem z_4 : sems γ [r__law_numbers, r__law_minus, r__law_trial, r__law_is_whole, r__law_odd, r__law_bent, r__law_maybe, r__law_is_tuple, r__law_is_part, r__law_is_row, r__law_is_trial, r__law_levels, r__law_world, r__law_is_world, r__law_planted, r_is_whole, r_is_between, r_are_blocks, r_is_tuple_of, r_is_ratio, r_is_row, r_are_plots, r_is_trial_by, r_is_trial, r_check_trial, r_many_unknowns, r_many_levels, r_is_world_by, r_is_world, r_is_question_by, r_is_question, r_levels_of, r__law_right, r__law_well, r_law] A_4 = A_39 := by
  show sems γ [r__law_minus, r__law_trial, r__law_is_whole, r__law_odd, r__law_bent, r__law_maybe, r__law_is_tuple, r__law_is_part, r__law_is_row, r__law_is_trial, r__law_levels, r__law_world, r__law_is_world, r__law_planted, r_is_whole, r_is_between, r_are_blocks, r_is_tuple_of, r_is_ratio, r_is_row, r_are_plots, r_is_trial_by, r_is_trial, r_check_trial, r_many_unknowns, r_many_levels, r_is_world_by, r_is_world, r_is_question_by, r_is_question, r_levels_of, r__law_right, r__law_well, r_law] (A_4 ++ [r__law_numbers.sem γ A_4]) = _
  rw [q__law_numbers]; exact z_5
theorem z_3 : sems γ [r__law_number, r__law_numbers, r__law_minus, r__law_trial, r__law_is_whole, r__law_odd, r__law_bent, r__law_maybe, r__law_is_tuple, r__law_is_part, r__law_is_row, r__law_is_trial, r__law_levels, r__law_world, r__law_is_world, r__law_planted, r_is_whole, r_is_between, r_are_blocks, r_is_tuple_of, r_is_ratio, r_is_row, r_are_plots, r_is_trial_by, r_is_trial, r_check_trial, r_many_unknowns, r_many_levels, r_is_world_by, r_is_world, r_is_question_by, r_is_question, r_levels_of, r__law_right, r__law_well, r_law] A_3 = A_39 := by
  show sems γ [r__law_numbers, r__law_minus, r__law_trial, r__law_is_whole, r__law_odd, r__law_bent, r__law_maybe, r__law_is_tuple, r__law_is_part, r__law_is_row, r__law_is_trial, r__law_levels, r__law_world, r__law_is_world, r__law_planted, r_is_whole, r_is_between, r_are_blocks, r_is_tuple_of, r_is_ratio, r_is_row, r_are_plots, r_is_trial_by, r_is_trial, r_check_trial, r_many_unknowns, r_many_levels, r_is_world_by, r_is_world, r_is_question_by, r_is_question, r_levels_of, r__law_right, r__law_well, r_law] (A_3 ++ [r__law_number.sem γ A_3]) = _
  rw [q__law_number]; exact z_4
theorem z_2 : sems γ [r__law_lean, r__law_number, r__law_numbers, r__law_minus, r__law_trial, r__law_is_whole, r__law_odd, r__law_bent, r__law_maybe, r__law_is_tuple, r__law_is_part, r__law_is_row, r__law_is_trial, r__law_levels, r__law_world, r__law_is_world, r__law_planted, r_is_whole, r_is_between, r_are_blocks, r_is_tuple_of, r_is_ratio, r_is_row, r_are_plots, r_is_trial_by, r_is_trial, r_check_trial, r_many_unknowns, r_many_levels, r_is_world_by, r_is_world, r_is_question_by, r_is_question, r_levels_of, r__law_right, r__law_well, r_law] A_2 = A_39 := by
  show sems γ [r__law_number, r__law_numbers, r__law_minus, r__law_trial, r__law_is_whole, r__law_odd, r__law_bent, r__law_maybe, r__law_is_tuple, r__law_is_part, r__law_is_row, r__law_is_trial, r__law_levels, r__law_world, r__law_is_world, r__law_planted, r_is_whole, r_is_between, r_are_blocks, r_is_tuple_of, r_is_ratio, r_is_row, r_are_plots, r_is_trial_by, r_is_trial, r_check_trial, r_many_unknowns, r_many_levels, r_is_world_by, r_is_world, r_is_question_by, r_is_question, r_levels_of, r__law_right, r__law_well, r_law] (A_2 ++ [r__law_lean.sem γ A_2]) = _
  rw [q__law_lean]; exact z_3
theorem z_1 : sems γ [r__law_one, r__law_lean, r__law_number, r__law_numbers, r__law_minus, r__law_trial, r__law_is_whole, r__law_odd, r__law_bent, r__law_maybe, r__law_is_tuple, r__law_is_part, r__law_is_row, r__law_is_trial, r__law_levels, r__law_world, r__law_is_world, r__law_planted, r_is_whole, r_is_between, r_are_blocks, r_is_tuple_of, r_is_ratio, r_is_row, r_are_plots, r_is_trial_by, r_is_trial, r_check_trial, r_many_unknowns, r_many_levels, r_is_world_by, r_is_world, r_is_question_by, r_is_question, r_levels_of, r__law_right, r__law_well, r_law] A_1 = A_39 := by
  show sems γ [r__law_lean, r__law_number, r__law_numbers, r__law_minus, r__law_trial, r__law_is_whole, r__law_odd, r__law_bent, r__law_maybe, r__law_is_tuple, r__law_is_part, r__law_is_row, r__law_is_trial, r__law_levels, r__law_world, r__law_is_world, r__law_planted, r_is_whole, r_is_between, r_are_blocks, r_is_tuple_of, r_is_ratio, r_is_row, r_are_plots, r_is_trial_by, r_is_trial, r_check_trial, r_many_unknowns, r_many_levels, r_is_world_by, r_is_world, r_is_question_by, r_is_question, r_levels_of, r__law_right, r__law_well, r_law] (A_1 ++ [r__law_one.sem γ A_1]) = _
  rw [q__law_one]; exact z_2
theorem z_0 : sems γ [r__law_draw, r__law_one, r__law_lean, r__law_number, r__law_numbers, r__law_minus, r__law_trial, r__law_is_whole, r__law_odd, r__law_bent, r__law_maybe, r__law_is_tuple, r__law_is_part, r__law_is_row, r__law_is_trial, r__law_levels, r__law_world, r__law_is_world, r__law_planted, r_is_whole, r_is_between, r_are_blocks, r_is_tuple_of, r_is_ratio, r_is_row, r_are_plots, r_is_trial_by, r_is_trial, r_check_trial, r_many_unknowns, r_many_levels, r_is_world_by, r_is_world, r_is_question_by, r_is_question, r_levels_of, r__law_right, r__law_well, r_law] A_0 = A_39 := by
  show sems γ [r__law_one, r__law_lean, r__law_number, r__law_numbers, r__law_minus, r__law_trial, r__law_is_whole, r__law_odd, r__law_bent, r__law_maybe, r__law_is_tuple, r__law_is_part, r__law_is_row, r__law_is_trial, r__law_levels, r__law_world, r__law_is_world, r__law_planted, r_is_whole, r_is_between, r_are_blocks, r_is_tuple_of, r_is_ratio, r_is_row, r_are_plots, r_is_trial_by, r_is_trial, r_check_trial, r_many_unknowns, r_many_levels, r_is_world_by, r_is_world, r_is_question_by, r_is_question, r_levels_of, r__law_right, r__law_well, r_law] (A_0 ++ [r__law_draw.sem γ A_0]) = _
  rw [q__law_draw]; exact z_1
theorem sems_all : sems γ rs [] = A_39 := z_0
theorem law_at : (sems γ rs [])[38]? = some c_law := by rw [sems_all]; rfl
end K02
end SChk

section SP1
namespace K02
open PySem Tw
/-! ### predicates on data of any kind -/
def isW : PyData → Bool
  | .int _ => true
  | _ => false
theorem s_is_whole (d : PyData) : c_is_whole [.frz d] = some (.ok (.frz (.bool (isW d))) [some (.frz d)]) := by
  rw [e_is_whole]
  refine tot_eq (tot_defC ?_)
  cases d <;> simp [b_is_whole, isW, Ss.den, S.den, E.den, Es.den, Ds.den, OE.den, Gs.den, So.den, TI'.den, TIs.den, mSeq, mRet, mRetVar, mSet, mPar, mAsg, mExpr, mIf, mNx, mFl, mStuck, andL, orL, var_v, var_o, var_t, sop_v, sop_o, sop_t, cmp_v, cmp_o, cmp_t, chain_v, chain_o, chain_t, and_v, and_o, and_t, or_v, or_o, or_t, not_v, not_o, not_t, ite_v, ite_o, ite_t, tup_v, tup_o, lst_v, lst_o, oOf_eq, tOf_eq, tstV_eq, vOp, evOs, evRs, evDs, vChain, rds, rd, SV.data, SV.isScr, oVar, vVar, sSl, vSl, evP, vRev, revD, List.filterMap_cons, vCallP, vCall, evAs, callA_def, apart, Arg.ix, passAs, passA, backA, reown, permL, BOp.f, BOp.st, COp.f, BF.f, isaD, typeD, isNoneD, putR, putAll, storable, asgS_name, asgS_sub, asgS_tup, asgSs_nil, asgSs_cons, itemsM, asgT, asgTs, putS, vApp, seqD, atD, L2.atI, L2.ixN]
theorem s__law_is_whole (d : PyData) : c__law_is_whole [.frz d] = some (.ok (.frz (.bool (isW d))) [some (.frz d)]) := by
  rw [e__law_is_whole]
  refine tot_eq (tot_defC ?_)
  cases d <;> simp [b__law_is_whole, isW, Ss.den, S.den, E.den, Es.den, Ds.den, OE.den, Gs.den, So.den, TI'.den, TIs.den, mSeq, mRet, mRetVar, mSet, mPar, mAsg, mExpr, mIf, mNx, mFl, mStuck, andL, orL, var_v, var_o, var_t, sop_v, sop_o, sop_t, cmp_v, cmp_o, cmp_t, chain_v, chain_o, chain_t, and_v, and_o, and_t, or_v, or_o, or_t, not_v, not_o, not_t, ite_v, ite_o, ite_t, tup_v, tup_o, lst_v, lst_o, oOf_eq, tOf_eq, tstV_eq, vOp, evOs, evRs, evDs, vChain, rds, rd, SV.data, SV.isScr, oVar, vVar, sSl, vSl, evP, vRev, revD, List.filterMap_cons, vCallP, vCall, evAs, callA_def, apart, Arg.ix, passAs, passA, backA, reown, permL, BOp.f, BOp.st, COp.f, BF.f, isaD, typeD, isNoneD, putR, putAll, storable, asgS_name, asgS_sub, asgS_tup, asgSs_nil, asgSs_cons, itemsM, asgT, asgTs, putS, vApp, seqD, atD, L2.atI, L2.ixN]
def isBt (d : PyData) (lo hi : Int) : Bool := match d with
  | .int i => decide (lo ≤ i) && decide (i ≤ hi)
  | _ => false
theorem s_is_between (d : PyData) (lo hi : Int) : c_is_between [.frz d, .frz (.int lo), .frz (.int hi)] = some (.ok (.frz (.bool (isBt d lo hi))) [some (.frz d), some (.frz (.int lo)), some (.frz (.int hi))]) := by
  rw [e_is_between]
  refine tot_eq (tot_defC ?_)
  cases d <;> simp [b_is_between, k_is_between_19, s_is_whole, isW, isBt, Ss.den, S.den, E.den, Es.den, Ds.den, OE.den, Gs.den, So.den, TI'.den, TIs.den, mSeq, mRet, mRetVar, mSet, mPar, mAsg, mExpr, mIf, mNx, mFl, mStuck, andL, orL, var_v, var_o, var_t, sop_v, sop_o, sop_t, cmp_v, cmp_o, cmp_t, chain_v, chain_o, chain_t, and_v, and_o, and_t, or_v, or_o, or_t, not_v, not_o, not_t, ite_v, ite_o, ite_t, tup_v, tup_o, lst_v, lst_o, oOf_eq, tOf_eq, tstV_eq, vOp, evOs, evRs, evDs, vChain, rds, rd, SV.data, SV.isScr, oVar, vVar, sSl, vSl, evP, vRev, revD, List.filterMap_cons, vCallP, vCall, evAs, callA_def, apart, Arg.ix, passAs, passA, backA, reown, permL, BOp.f, BOp.st, COp.f, BF.f, isaD, typeD, isNoneD, putR, putAll, storable, asgS_name, asgS_sub, asgS_tup, asgSs_nil, asgSs_cons, itemsM, asgT, asgTs, putS, vApp, seqD, atD, L2.atI, L2.ixN]
  rename_i i
  by_cases h : lo ≤ i <;> simp [h]
def isTup (d : PyData) (n : Int) : Bool := match d with
  | .tuple ds => (ds.length : Int) == n
  | _ => false
theorem s_is_tuple_of (d : PyData) (n : Int) : c_is_tuple_of [.frz d, .frz (.int n)] = some (.ok (.frz (.bool (isTup d n))) [some (.frz d), some (.frz (.int n))]) := by
  rw [e_is_tuple_of]
  refine tot_eq (tot_defC ?_)
  cases d <;> simp [b_is_tuple_of, isTup, Ss.den, S.den, E.den, Es.den, Ds.den, OE.den, Gs.den, So.den, TI'.den, TIs.den, mSeq, mRet, mRetVar, mSet, mPar, mAsg, mExpr, mIf, mNx, mFl, mStuck, andL, orL, var_v, var_o, var_t, sop_v, sop_o, sop_t, cmp_v, cmp_o, cmp_t, chain_v, chain_o, chain_t, and_v, and_o, and_t, or_v, or_o, or_t, not_v, not_o, not_t, ite_v, ite_o, ite_t, tup_v, tup_o, lst_v, lst_o, oOf_eq, tOf_eq, tstV_eq, vOp, evOs, evRs, evDs, vChain, rds, rd, SV.data, SV.isScr, oVar, vVar, sSl, vSl, evP, vRev, revD, List.filterMap_cons, vCallP, vCall, evAs, callA_def, apart, Arg.ix, passAs, passA, backA, reown, permL, BOp.f, BOp.st, COp.f, BF.f, isaD, typeD, isNoneD, putR, putAll, storable, asgS_name, asgS_sub, asgS_tup, asgSs_nil, asgSs_cons, itemsM, asgT, asgTs, putS, vApp, seqD, atD, L2.atI, L2.ixN]
/-- a fraction in lowest terms -/
def isR (d : PyData) : Bool := match d with
  | .tuple [.int a, .int b] => decide (0 < b) && (Nat.gcd a.natAbs b.natAbs == 1)
  | _ => false
theorem isR_1 {x y : PyData} (h : isW x = false) : isR (.tuple [x, y]) = false := by cases x <;> simp [isW, isR] at h ⊢
theorem isR_2 {x y : PyData} (h : isW y = false) : isR (.tuple [x, y]) = false := by cases x <;> cases y <;> simp [isW, isR] at h ⊢
theorem isW_int {x : PyData} (h : isW x = true) : ∃ i, x = .int i := by cases x <;> simp [isW] at h ⊢
theorem isR_tup {d : PyData} (h : isTup d 2 = false) : isR d = false := by
  unfold isR
  split
  · simp [isTup] at h
  · rfl
theorem isTup_2 {d : PyData} (h : isTup d 2 = true) : ∃ x y, d = .tuple [x, y] := by
  unfold isTup at h
  split at h
  · rename_i ds
    match ds with
    | [x, y] => exact ⟨x, y, rfl⟩
    | [] => simp at h
    | [x] => simp at h
    | x :: y :: z :: r => simp at h; omega
  · cases h
set_option maxHeartbeats 1000000 in
theorem s_is_ratio (d : PyData) : c_is_ratio [.frz d] = some (.ok (.frz (.bool (isR d))) [some (.frz d)]) := by
  rw [e_is_ratio]
  refine tot_eq (tot_defC ?_)
  cases h : isTup d 2 with
  | false =>
    simp [b_is_ratio, k_is_ratio_19, k_is_ratio_22, s_is_whole, s_is_tuple_of, h, isR_tup h, Ss.den, S.den, E.den, Es.den, Ds.den, OE.den, Gs.den, So.den, TI'.den, TIs.den, mSeq, mRet, mRetVar, mSet, mPar, mAsg, mExpr, mIf, mNx, mFl, mStuck, andL, orL, var_v, var_o, var_t, sop_v, sop_o, sop_t, cmp_v, cmp_o, cmp_t, chain_v, chain_o, chain_t, and_v, and_o, and_t, or_v, or_o, or_t, not_v, not_o, not_t, ite_v, ite_o, ite_t, tup_v, tup_o, lst_v, lst_o, oOf_eq, tOf_eq, tstV_eq, vOp, evOs, evRs, evDs, vChain, rds, rd, SV.data, SV.isScr, oVar, vVar, sSl, vSl, evP, vRev, revD, List.filterMap_cons, vCallP, vCall, evAs, callA_def, apart, Arg.ix, passAs, passA, backA, reown, permL, BOp.f, BOp.st, COp.f, BF.f, isaD, typeD, isNoneD, putR, putAll, storable, asgS_name, asgS_sub, asgS_tup, asgSs_nil, asgSs_cons, itemsM, asgT, asgTs, putS, vApp, seqD, atD, L2.atI, L2.ixN]
  | true =>
    obtain ⟨x, y, rfl⟩ := isTup_2 h
    cases hx : isW x with
    | false => simp [b_is_ratio, k_is_ratio_19, k_is_ratio_22, s_is_whole, s_is_tuple_of, h, hx, isR_1 hx, atD, L2.atI, L2.ixN, Ss.den, S.den, E.den, Es.den, Ds.den, OE.den, Gs.den, So.den, TI'.den, TIs.den, mSeq, mRet, mRetVar, mSet, mPar, mAsg, mExpr, mIf, mNx, mFl, mStuck, andL, orL, var_v, var_o, var_t, sop_v, sop_o, sop_t, cmp_v, cmp_o, cmp_t, chain_v, chain_o, chain_t, and_v, and_o, and_t, or_v, or_o, or_t, not_v, not_o, not_t, ite_v, ite_o, ite_t, tup_v, tup_o, lst_v, lst_o, oOf_eq, tOf_eq, tstV_eq, vOp, evOs, evRs, evDs, vChain, rds, rd, SV.data, SV.isScr, oVar, vVar, sSl, vSl, evP, vRev, revD, List.filterMap_cons, vCallP, vCall, evAs, callA_def, apart, Arg.ix, passAs, passA, backA, reown, permL, BOp.f, BOp.st, COp.f, BF.f, isaD, typeD, isNoneD, putR, putAll, storable, asgS_name, asgS_sub, asgS_tup, asgSs_nil, asgSs_cons, itemsM, asgT, asgTs, putS, vApp, seqD, atD, L2.atI, L2.ixN]
    | true =>
      cases hy : isW y with
      | false => simp [b_is_ratio, k_is_ratio_19, k_is_ratio_22, s_is_whole, s_is_tuple_of, h, hx, hy, isR_2 hy, atD, L2.atI, L2.ixN, Ss.den, S.den, E.den, Es.den, Ds.den, OE.den, Gs.den, So.den, TI'.den, TIs.den, mSeq, mRet, mRetVar, mSet, mPar, mAsg, mExpr, mIf, mNx, mFl, mStuck, andL, orL, var_v, var_o, var_t, sop_v, sop_o, sop_t, cmp_v, cmp_o, cmp_t, chain_v, chain_o, chain_t, and_v, and_o, and_t, or_v, or_o, or_t, not_v, not_o, not_t, ite_v, ite_o, ite_t, tup_v, tup_o, lst_v, lst_o, oOf_eq, tOf_eq, tstV_eq, vOp, evOs, evRs, evDs, vChain, rds, rd, SV.data, SV.isScr, oVar, vVar, sSl, vSl, evP, vRev, revD, List.filterMap_cons, vCallP, vCall, evAs, callA_def, apart, Arg.ix, passAs, passA, backA, reown, permL, BOp.f, BOp.st, COp.f, BF.f, isaD, typeD, isNoneD, putR, putAll, storable, asgS_name, asgS_sub, asgS_tup, asgSs_nil, asgSs_cons, itemsM, asgT, asgTs, putS, vApp, seqD, atD, L2.atI, L2.ixN]
      | true =>
        obtain ⟨a, rfl⟩ := isW_int hx
        obtain ⟨b, rfl⟩ := isW_int hy
        simp [b_is_ratio, k_is_ratio_19, k_is_ratio_22, s_is_whole, s_is_tuple_of, h, hx, hy, isR, atD, L2.atI, L2.ixN, Ss.den, S.den, E.den, Es.den, Ds.den, OE.den, Gs.den, So.den, TI'.den, TIs.den, mSeq, mRet, mRetVar, mSet, mPar, mAsg, mExpr, mIf, mNx, mFl, mStuck, andL, orL, var_v, var_o, var_t, sop_v, sop_o, sop_t, cmp_v, cmp_o, cmp_t, chain_v, chain_o, chain_t, and_v, and_o, and_t, or_v, or_o, or_t, not_v, not_o, not_t, ite_v, ite_o, ite_t, tup_v, tup_o, lst_v, lst_o, oOf_eq, tOf_eq, tstV_eq, vOp, evOs, evRs, evDs, vChain, rds, rd, SV.data, SV.isScr, oVar, vVar, sSl, vSl, evP, vRev, revD, List.filterMap_cons, vCallP, vCall, evAs, callA_def, apart, Arg.ix, passAs, passA, backA, reown, permL, BOp.f, BOp.st, COp.f, BF.f, isaD, typeD, isNoneD, putR, putAll, storable, asgS_name, asgS_sub, asgS_tup, asgSs_nil, asgSs_cons, itemsM, asgT, asgTs, putS, vApp, seqD, atD, L2.atI, L2.ixN]
        by_cases hb : 0 < b <;> simp [hb, cast_beq1]
end K02
end SP1

section SP2
namespace K02
open PySem Tw
def isRow (d : PyData) (n : Int) : Bool := match d with
  | .tuple ds => ((ds.length : Int) == n) && ds.all isR
  | _ => false
theorem lc_ratio {ds : List PyData} {n : Int} (h : ds.length ≤ sizeLine) : vLc [2] (vSeq (sVar 0)) (.name 2) none (.of (vCallP c_is_ratio [.lend 2])) [some (.frz (.tuple ds)), some (.frz (.int n)), none] = some (.ok (.own (ds.map fun d => .bool (isR d))) [some (.frz (.tuple ds)), some (.frz (.int n)), none]) := by
  refine lc_seq (d0 := .tuple ds) rfl (.inl rfl) rfl h fun d hd => ⟨.frz (.bool (isR d)), ?_, rfl⟩
  simp [s_is_ratio, Ss.den, S.den, E.den, Es.den, Ds.den, OE.den, Gs.den, So.den, TI'.den, TIs.den, mSeq, mRet, mRetVar, mSet, mPar, mAsg, mExpr, mIf, mNx, mFl, mStuck, andL, orL, var_v, var_o, var_t, sop_v, sop_o, sop_t, cmp_v, cmp_o, cmp_t, chain_v, chain_o, chain_t, and_v, and_o, and_t, or_v, or_o, or_t, not_v, not_o, not_t, ite_v, ite_o, ite_t, tup_v, tup_o, lst_v, lst_o, oOf_eq, tOf_eq, tstV_eq, vOp, evOs, evRs, evDs, vChain, rds, rd, SV.data, SV.isScr, oVar, vVar, sSl, vSl, evP, vRev, revD, List.filterMap_cons, vCallP, vCall, evAs, callA_def, apart, Arg.ix, passAs, passA, backA, reown, permL, BOp.f, BOp.st, COp.f, BF.f, isaD, typeD, isNoneD, putR, putAll, storable, asgS_name, asgS_sub, asgS_tup, asgSs_nil, asgSs_cons, itemsM, asgT, asgTs, putS, vApp, seqD, atD, L2.atI, L2.ixN]
theorem small_len {n : Nat} (h : n ≤ 1000) : n ≤ sizeLine := Nat.le_trans h (by decide)
theorem s_is_row (d : PyData) (n : Int) (hn : n ≤ 1000) : c_is_row [.frz d, .frz (.int n)] = some (.ok (.frz (.bool (isRow d n))) [some (.frz d), some (.frz (.int n))]) := by
  rw [e_is_row]
  refine tot_eq (tot_defC ?_)
  cases d with
  | tuple ds =>
    by_cases h : (ds.length : Int) = n
    · simp [s_is_tuple_of, isTup, isRow, h, lc_ratio (ds := ds) (small_len (show ds.length ≤ 1000 by omega)), Function.comp_def, b_is_row, k_is_row_22, k_is_row_23, gl_0, gl_1, gl_2, Ss.den, S.den, E.den, Es.den, Ds.den, OE.den, Gs.den, So.den, TI'.den, TIs.den, mSeq, mRet, mRetVar, mSet, mPar, mAsg, mExpr, mIf, mNx, mFl, mStuck, andL, orL, var_v, var_o, var_t, sop_v, sop_o, sop_t, cmp_v, cmp_o, cmp_t, chain_v, chain_o, chain_t, and_v, and_o, and_t, or_v, or_o, or_t, not_v, not_o, not_t, ite_v, ite_o, ite_t, tup_v, tup_o, lst_v, lst_o, oOf_eq, tOf_eq, tstV_eq, vOp, evOs, evRs, evDs, vChain, rds, rd, SV.data, SV.isScr, oVar, vVar, sSl, vSl, evP, vRev, revD, List.filterMap_cons, vCallP, vCall, evAs, callA_def, apart, Arg.ix, passAs, passA, backA, reown, permL, BOp.f, BOp.st, COp.f, BF.f, isaD, typeD, isNoneD, putR, putAll, storable, asgS_name, asgS_sub, asgS_tup, asgSs_nil, asgSs_cons, itemsM, asgT, asgTs, putS, vApp, seqD, atD, L2.atI, L2.ixN]
    · simp [s_is_tuple_of, isTup, isRow, h, b_is_row, k_is_row_22, k_is_row_23, gl_0, gl_1, gl_2, Ss.den, S.den, E.den, Es.den, Ds.den, OE.den, Gs.den, So.den, TI'.den, TIs.den, mSeq, mRet, mRetVar, mSet, mPar, mAsg, mExpr, mIf, mNx, mFl, mStuck, andL, orL, var_v, var_o, var_t, sop_v, sop_o, sop_t, cmp_v, cmp_o, cmp_t, chain_v, chain_o, chain_t, and_v, and_o, and_t, or_v, or_o, or_t, not_v, not_o, not_t, ite_v, ite_o, ite_t, tup_v, tup_o, lst_v, lst_o, oOf_eq, tOf_eq, tstV_eq, vOp, evOs, evRs, evDs, vChain, rds, rd, SV.data, SV.isScr, oVar, vVar, sSl, vSl, evP, vRev, revD, List.filterMap_cons, vCallP, vCall, evAs, callA_def, apart, Arg.ix, passAs, passA, backA, reown, permL, BOp.f, BOp.st, COp.f, BF.f, isaD, typeD, isNoneD, putR, putAll, storable, asgS_name, asgS_sub, asgS_tup, asgSs_nil, asgSs_cons, itemsM, asgT, asgTs, putS, vApp, seqD, atD, L2.atI, L2.ixN]
  | _ => simp [s_is_tuple_of, isTup, isRow, b_is_row, k_is_row_22, k_is_row_23, gl_0, gl_1, gl_2, Ss.den, S.den, E.den, Es.den, Ds.den, OE.den, Gs.den, So.den, TI'.den, TIs.den, mSeq, mRet, mRetVar, mSet, mPar, mAsg, mExpr, mIf, mNx, mFl, mStuck, andL, orL, var_v, var_o, var_t, sop_v, sop_o, sop_t, cmp_v, cmp_o, cmp_t, chain_v, chain_o, chain_t, and_v, and_o, and_t, or_v, or_o, or_t, not_v, not_o, not_t, ite_v, ite_o, ite_t, tup_v, tup_o, lst_v, lst_o, oOf_eq, tOf_eq, tstV_eq, vOp, evOs, evRs, evDs, vChain, rds, rd, SV.data, SV.isScr, oVar, vVar, sSl, vSl, evP, vRev, revD, List.filterMap_cons, vCallP, vCall, evAs, callA_def, apart, Arg.ix, passAs, passA, backA, reown, permL, BOp.f, BOp.st, COp.f, BF.f, isaD, typeD, isNoneD, putR, putAll, storable, asgS_name, asgS_sub, asgS_tup, asgSs_nil, asgSs_cons, itemsM, asgT, asgTs, putS, vApp, seqD, atD, L2.atI, L2.ixN]
def areBl (d : PyData) (n : Int) : Bool := match d with
  | .tuple [] => true
  | .tuple ds => ((ds.length : Int) == n) && ds.all (isBt · 0 4)
  | _ => false
theorem lc_bt {ds : List PyData} {n : Int} (h : ds.length ≤ sizeLine) : vLc [2] (vSeq (sVar 0)) (.name 2) none (.of (vCallP c_is_between [.lend 2, .val (sCst (.int 0)), .val (sCst (.int 4))])) [some (.frz (.tuple ds)), some (.frz (.int n)), none] = some (.ok (.own (ds.map fun d => .bool (isBt d 0 4))) [some (.frz (.tuple ds)), some (.frz (.int n)), none]) := by
  refine lc_seq (d0 := .tuple ds) rfl (.inl rfl) rfl h fun d hd => ⟨.frz (.bool (isBt d 0 4)), ?_, rfl⟩
  simp [s_is_between, Ss.den, S.den, E.den, Es.den, Ds.den, OE.den, Gs.den, So.den, TI'.den, TIs.den, mSeq, mRet, mRetVar, mSet, mPar, mAsg, mExpr, mIf, mNx, mFl, mStuck, andL, orL, var_v, var_o, var_t, sop_v, sop_o, sop_t, cmp_v, cmp_o, cmp_t, chain_v, chain_o, chain_t, and_v, and_o, and_t, or_v, or_o, or_t, not_v, not_o, not_t, ite_v, ite_o, ite_t, tup_v, tup_o, lst_v, lst_o, oOf_eq, tOf_eq, tstV_eq, vOp, evOs, evRs, evDs, vChain, rds, rd, SV.data, SV.isScr, oVar, vVar, sSl, vSl, evP, vRev, revD, List.filterMap_cons, vCallP, vCall, evAs, callA_def, apart, Arg.ix, passAs, passA, backA, reown, permL, BOp.f, BOp.st, COp.f, BF.f, isaD, typeD, isNoneD, putR, putAll, storable, asgS_name, asgS_sub, asgS_tup, asgSs_nil, asgSs_cons, itemsM, asgT, asgTs, putS, vApp, seqD, atD, L2.atI, L2.ixN]
theorem s_are_blocks (d : PyData) (n : Int) (hn : n ≤ 1000) : c_are_blocks [.frz d, .frz (.int n)] = some (.ok (.frz (.bool (areBl d n))) [some (.frz d), some (.frz (.int n))]) := by
  rw [e_are_blocks]
  refine tot_eq (tot_defC ?_)
  cases d with
  | tuple ds =>
    cases ds with
    | nil => simp [areBl, b_are_blocks, k_are_blocks_20, gl_0, gl_1, gl_2, Ss.den, S.den, E.den, Es.den, Ds.den, OE.den, Gs.den, So.den, TI'.den, TIs.den, mSeq, mRet, mRetVar, mSet, mPar, mAsg, mExpr, mIf, mNx, mFl, mStuck, andL, orL, var_v, var_o, var_t, sop_v, sop_o, sop_t, cmp_v, cmp_o, cmp_t, chain_v, chain_o, chain_t, and_v, and_o, and_t, or_v, or_o, or_t, not_v, not_o, not_t, ite_v, ite_o, ite_t, tup_v, tup_o, lst_v, lst_o, oOf_eq, tOf_eq, tstV_eq, vOp, evOs, evRs, evDs, vChain, rds, rd, SV.data, SV.isScr, oVar, vVar, sSl, vSl, evP, vRev, revD, List.filterMap_cons, vCallP, vCall, evAs, callA_def, apart, Arg.ix, passAs, passA, backA, reown, permL, BOp.f, BOp.st, COp.f, BF.f, isaD, typeD, isNoneD, putR, putAll, storable, asgS_name, asgS_sub, asgS_tup, asgSs_nil, asgSs_cons, itemsM, asgT, asgTs, putS, vApp, seqD, atD, L2.atI, L2.ixN]
    | cons x r =>
      by_cases h : ((r.length : Int) + 1) = n
      · simp [areBl, h, lc_bt (ds := x :: r) (n := n) (small_len (show (x :: r).length ≤ 1000 by simp; omega)), Function.comp_def, b_are_blocks, k_are_blocks_20, gl_0, gl_1, gl_2, Ss.den, S.den, E.den, Es.den, Ds.den, OE.den, Gs.den, So.den, TI'.den, TIs.den, mSeq, mRet, mRetVar, mSet, mPar, mAsg, mExpr, mIf, mNx, mFl, mStuck, andL, orL, var_v, var_o, var_t, sop_v, sop_o, sop_t, cmp_v, cmp_o, cmp_t, chain_v, chain_o, chain_t, and_v, and_o, and_t, or_v, or_o, or_t, not_v, not_o, not_t, ite_v, ite_o, ite_t, tup_v, tup_o, lst_v, lst_o, oOf_eq, tOf_eq, tstV_eq, vOp, evOs, evRs, evDs, vChain, rds, rd, SV.data, SV.isScr, oVar, vVar, sSl, vSl, evP, vRev, revD, List.filterMap_cons, vCallP, vCall, evAs, callA_def, apart, Arg.ix, passAs, passA, backA, reown, permL, BOp.f, BOp.st, COp.f, BF.f, isaD, typeD, isNoneD, putR, putAll, storable, asgS_name, asgS_sub, asgS_tup, asgSs_nil, asgSs_cons, itemsM, asgT, asgTs, putS, vApp, seqD, atD, L2.atI, L2.ixN]
      · simp [areBl, h, b_are_blocks, k_are_blocks_20, gl_0, gl_1, gl_2, Ss.den, S.den, E.den, Es.den, Ds.den, OE.den, Gs.den, So.den, TI'.den, TIs.den, mSeq, mRet, mRetVar, mSet, mPar, mAsg, mExpr, mIf, mNx, mFl, mStuck, andL, orL, var_v, var_o, var_t, sop_v, sop_o, sop_t, cmp_v, cmp_o, cmp_t, chain_v, chain_o, chain_t, and_v, and_o, and_t, or_v, or_o, or_t, not_v, not_o, not_t, ite_v, ite_o, ite_t, tup_v, tup_o, lst_v, lst_o, oOf_eq, tOf_eq, tstV_eq, vOp, evOs, evRs, evDs, vChain, rds, rd, SV.data, SV.isScr, oVar, vVar, sSl, vSl, evP, vRev, revD, List.filterMap_cons, vCallP, vCall, evAs, callA_def, apart, Arg.ix, passAs, passA, backA, reown, permL, BOp.f, BOp.st, COp.f, BF.f, isaD, typeD, isNoneD, putR, putAll, storable, asgS_name, asgS_sub, asgS_tup, asgSs_nil, asgSs_cons, itemsM, asgT, asgTs, putS, vApp, seqD, atD, L2.atI, L2.ixN]
  | _ => simp [areBl, b_are_blocks, k_are_blocks_20, gl_0, gl_1, gl_2, Ss.den, S.den, E.den, Es.den, Ds.den, OE.den, Gs.den, So.den, TI'.den, TIs.den, mSeq, mRet, mRetVar, mSet, mPar, mAsg, mExpr, mIf, mNx, mFl, mStuck, andL, orL, var_v, var_o, var_t, sop_v, sop_o, sop_t, cmp_v, cmp_o, cmp_t, chain_v, chain_o, chain_t, and_v, and_o, and_t, or_v, or_o, or_t, not_v, not_o, not_t, ite_v, ite_o, ite_t, tup_v, tup_o, lst_v, lst_o, oOf_eq, tOf_eq, tstV_eq, vOp, evOs, evRs, evDs, vChain, rds, rd, SV.data, SV.isScr, oVar, vVar, sSl, vSl, evP, vRev, revD, List.filterMap_cons, vCallP, vCall, evAs, callA_def, apart, Arg.ix, passAs, passA, backA, reown, permL, BOp.f, BOp.st, COp.f, BF.f, isaD, typeD, isNoneD, putR, putAll, storable, asgS_name, asgS_sub, asgS_tup, asgSs_nil, asgSs_cons, itemsM, asgT, asgTs, putS, vApp, seqD, atD, L2.atI, L2.ixN]
end K02
end SP2

section SP3
namespace K02
open PySem Tw
def arePl (d : PyData) : Bool := match d with
  | .tuple (.tuple r0 :: rows) => decide (rows.length + 1 ≤ 10) && (decide (1 ≤ r0.length) && decide (r0.length ≤ 5)) && (PyData.tuple r0 :: rows).all (isRow · r0.length)
  | _ => false
theorem lc_rows {ds r0 : List PyData} {n : Int} (h : ds.length ≤ 1000) (e : ds[0]? = some (.tuple r0)) (hr : r0.length ≤ 1000) : vLc [1] (vSeq (sVar 0)) (.name 1) none (.of (vCallP c_is_row [.lend 1, .val (sOp false dLen [sOp false dIdx [sVar 0, sCst (.int 0)]])])) [some (.frz (.tuple ds)), none] = some (.ok (.own (ds.map fun d => .bool (isRow d r0.length))) [some (.frz (.tuple ds)), none]) := by
  refine lc_seq (d0 := .tuple ds) rfl (.inl rfl) rfl (small_len h) fun d hd => ⟨.frz (.bool (isRow d r0.length)), ?_, rfl⟩
  cases ds with
  | nil => cases e
  | cons x r =>
    simp at e
    subst e
    simp [s_is_row, show (r0.length : Int) ≤ 1000 by omega, show (0 : Int) < (r.length : Int) + 1 by omega, Ss.den, S.den, E.den, Es.den, Ds.den, OE.den, Gs.den, So.den, TI'.den, TIs.den, mSeq, mRet, mRetVar, mSet, mPar, mAsg, mExpr, mIf, mNx, mFl, mStuck, andL, orL, var_v, var_o, var_t, sop_v, sop_o, sop_t, cmp_v, cmp_o, cmp_t, chain_v, chain_o, chain_t, and_v, and_o, and_t, or_v, or_o, or_t, not_v, not_o, not_t, ite_v, ite_o, ite_t, tup_v, tup_o, lst_v, lst_o, oOf_eq, tOf_eq, tstV_eq, vOp, evOs, evRs, evDs, vChain, rds, rd, SV.data, SV.isScr, oVar, vVar, sSl, vSl, evP, vRev, revD, List.filterMap_cons, vCallP, vCall, evAs, callA_def, apart, Arg.ix, passAs, passA, backA, reown, permL, BOp.f, BOp.st, COp.f, BF.f, isaD, typeD, isNoneD, putR, putAll, storable, asgS_name, asgS_sub, asgS_tup, asgSs_nil, asgSs_cons, itemsM, asgT, asgTs, putS, vApp, seqD, atD, L2.atI, L2.ixN]
set_option maxHeartbeats 2000000 in
theorem s_are_plots (d : PyData) : c_are_plots [.frz d] = some (.ok (.frz (.bool (arePl d))) [some (.frz d)]) := by
  rw [e_are_plots]
  refine tot_eq (tot_defC ?_)
  cases d with
  | tuple ds =>
    cases ds with
    | nil => simp [arePl, b_are_plots, k_are_plots_24, gl_0, gl_1, gl_2, Ss.den, S.den, E.den, Es.den, Ds.den, OE.den, Gs.den, So.den, TI'.den, TIs.den, mSeq, mRet, mRetVar, mSet, mPar, mAsg, mExpr, mIf, mNx, mFl, mStuck, andL, orL, var_v, var_o, var_t, sop_v, sop_o, sop_t, cmp_v, cmp_o, cmp_t, chain_v, chain_o, chain_t, and_v, and_o, and_t, or_v, or_o, or_t, not_v, not_o, not_t, ite_v, ite_o, ite_t, tup_v, tup_o, lst_v, lst_o, oOf_eq, tOf_eq, tstV_eq, vOp, evOs, evRs, evDs, vChain, rds, rd, SV.data, SV.isScr, oVar, vVar, sSl, vSl, evP, vRev, revD, List.filterMap_cons, vCallP, vCall, evAs, callA_def, apart, Arg.ix, passAs, passA, backA, reown, permL, BOp.f, BOp.st, COp.f, BF.f, isaD, typeD, isNoneD, putR, putAll, storable, asgS_name, asgS_sub, asgS_tup, asgSs_nil, asgSs_cons, itemsM, asgT, asgTs, putS, vApp, seqD, atD, L2.atI, L2.ixN]
    | cons x r =>
      have p1 : (0 : Int) < (r.length : Int) + 1 := by omega
      have p2 : (1 : Int) ≤ (r.length : Int) + 1 := by omega
      by_cases h : ((r.length : Int) + 1) ≤ 10
      · cases x with
        | tuple r0 =>
          by_cases h1 : (1 : Int) ≤ (r0.length : Int)
          · by_cases h2 : (r0.length : Int) ≤ 5
            · have q := lc_rows (ds := .tuple r0 :: r) (r0 := r0) (n := 0) (by simp; omega) rfl (by omega)
              have e1 : r.length + 1 ≤ 10 := by omega
              have e2 : 1 ≤ r0.length := by omega
              have e3 : r0.length ≤ 5 := by omega
              simp [arePl, p1, p2, h, h1, h2, q, e1, e2, e3, Function.comp_def, b_are_plots, k_are_plots_24, gl_0, gl_1, gl_2, Ss.den, S.den, E.den, Es.den, Ds.den, OE.den, Gs.den, So.den, TI'.den, TIs.den, mSeq, mRet, mRetVar, mSet, mPar, mAsg, mExpr, mIf, mNx, mFl, mStuck, andL, orL, var_v, var_o, var_t, sop_v, sop_o, sop_t, cmp_v, cmp_o, cmp_t, chain_v, chain_o, chain_t, and_v, and_o, and_t, or_v, or_o, or_t, not_v, not_o, not_t, ite_v, ite_o, ite_t, tup_v, tup_o, lst_v, lst_o, oOf_eq, tOf_eq, tstV_eq, vOp, evOs, evRs, evDs, vChain, rds, rd, SV.data, SV.isScr, oVar, vVar, sSl, vSl, evP, vRev, revD, List.filterMap_cons, vCallP, vCall, evAs, callA_def, apart, Arg.ix, passAs, passA, backA, reown, permL, BOp.f, BOp.st, COp.f, BF.f, isaD, typeD, isNoneD, putR, putAll, storable, asgS_name, asgS_sub, asgS_tup, asgSs_nil, asgSs_cons, itemsM, asgT, asgTs, putS, vApp, seqD, atD, L2.atI, L2.ixN]
            · have e3 : ¬ r0.length ≤ 5 := by omega
              simp [arePl, p1, p2, h, h1, h2, e3, b_are_plots, k_are_plots_24, gl_0, gl_1, gl_2, Ss.den, S.den, E.den, Es.den, Ds.den, OE.den, Gs.den, So.den, TI'.den, TIs.den, mSeq, mRet, mRetVar, mSet, mPar, mAsg, mExpr, mIf, mNx, mFl, mStuck, andL, orL, var_v, var_o, var_t, sop_v, sop_o, sop_t, cmp_v, cmp_o, cmp_t, chain_v, chain_o, chain_t, and_v, and_o, and_t, or_v, or_o, or_t, not_v, not_o, not_t, ite_v, ite_o, ite_t, tup_v, tup_o, lst_v, lst_o, oOf_eq, tOf_eq, tstV_eq, vOp, evOs, evRs, evDs, vChain, rds, rd, SV.data, SV.isScr, oVar, vVar, sSl, vSl, evP, vRev, revD, List.filterMap_cons, vCallP, vCall, evAs, callA_def, apart, Arg.ix, passAs, passA, backA, reown, permL, BOp.f, BOp.st, COp.f, BF.f, isaD, typeD, isNoneD, putR, putAll, storable, asgS_name, asgS_sub, asgS_tup, asgSs_nil, asgSs_cons, itemsM, asgT, asgTs, putS, vApp, seqD, atD, L2.atI, L2.ixN]
          · have e2 : ¬ 1 ≤ r0.length := by omega
            have e2' : r0.length = 0 := by omega
            simp [arePl, p1, p2, h, h1, e2, e2', b_are_plots, k_are_plots_24, gl_0, gl_1, gl_2, Ss.den, S.den, E.den, Es.den, Ds.den, OE.den, Gs.den, So.den, TI'.den, TIs.den, mSeq, mRet, mRetVar, mSet, mPar, mAsg, mExpr, mIf, mNx, mFl, mStuck, andL, orL, var_v, var_o, var_t, sop_v, sop_o, sop_t, cmp_v, cmp_o, cmp_t, chain_v, chain_o, chain_t, and_v, and_o, and_t, or_v, or_o, or_t, not_v, not_o, not_t, ite_v, ite_o, ite_t, tup_v, tup_o, lst_v, lst_o, oOf_eq, tOf_eq, tstV_eq, vOp, evOs, evRs, evDs, vChain, rds, rd, SV.data, SV.isScr, oVar, vVar, sSl, vSl, evP, vRev, revD, List.filterMap_cons, vCallP, vCall, evAs, callA_def, apart, Arg.ix, passAs, passA, backA, reown, permL, BOp.f, BOp.st, COp.f, BF.f, isaD, typeD, isNoneD, putR, putAll, storable, asgS_name, asgS_sub, asgS_tup, asgSs_nil, asgSs_cons, itemsM, asgT, asgTs, putS, vApp, seqD, atD, L2.atI, L2.ixN]
        | _ => simp [arePl, p1, p2, h, b_are_plots, k_are_plots_24, gl_0, gl_1, gl_2, Ss.den, S.den, E.den, Es.den, Ds.den, OE.den, Gs.den, So.den, TI'.den, TIs.den, mSeq, mRet, mRetVar, mSet, mPar, mAsg, mExpr, mIf, mNx, mFl, mStuck, andL, orL, var_v, var_o, var_t, sop_v, sop_o, sop_t, cmp_v, cmp_o, cmp_t, chain_v, chain_o, chain_t, and_v, and_o, and_t, or_v, or_o, or_t, not_v, not_o, not_t, ite_v, ite_o, ite_t, tup_v, tup_o, lst_v, lst_o, oOf_eq, tOf_eq, tstV_eq, vOp, evOs, evRs, evDs, vChain, rds, rd, SV.data, SV.isScr, oVar, vVar, sSl, vSl, evP, vRev, revD, List.filterMap_cons, vCallP, vCall, evAs, callA_def, apart, Arg.ix, passAs, passA, backA, reown, permL, BOp.f, BOp.st, COp.f, BF.f, isaD, typeD, isNoneD, putR, putAll, storable, asgS_name, asgS_sub, asgS_tup, asgSs_nil, asgSs_cons, itemsM, asgT, asgTs, putS, vApp, seqD, atD, L2.atI, L2.ixN]
      · have e1 : ¬ r.length + 1 ≤ 10 := by omega
        cases x <;> simp [arePl, p1, p2, h, e1, b_are_plots, k_are_plots_24, gl_0, gl_1, gl_2, Ss.den, S.den, E.den, Es.den, Ds.den, OE.den, Gs.den, So.den, TI'.den, TIs.den, mSeq, mRet, mRetVar, mSet, mPar, mAsg, mExpr, mIf, mNx, mFl, mStuck, andL, orL, var_v, var_o, var_t, sop_v, sop_o, sop_t, cmp_v, cmp_o, cmp_t, chain_v, chain_o, chain_t, and_v, and_o, and_t, or_v, or_o, or_t, not_v, not_o, not_t, ite_v, ite_o, ite_t, tup_v, tup_o, lst_v, lst_o, oOf_eq, tOf_eq, tstV_eq, vOp, evOs, evRs, evDs, vChain, rds, rd, SV.data, SV.isScr, oVar, vVar, sSl, vSl, evP, vRev, revD, List.filterMap_cons, vCallP, vCall, evAs, callA_def, apart, Arg.ix, passAs, passA, backA, reown, permL, BOp.f, BOp.st, COp.f, BF.f, isaD, typeD, isNoneD, putR, putAll, storable, asgS_name, asgS_sub, asgS_tup, asgSs_nil, asgSs_cons, itemsM, asgT, asgTs, putS, vApp, seqD, atD, L2.atI, L2.ixN]
  | _ => simp [arePl, b_are_plots, k_are_plots_24, gl_0, gl_1, gl_2, Ss.den, S.den, E.den, Es.den, Ds.den, OE.den, Gs.den, So.den, TI'.den, TIs.den, mSeq, mRet, mRetVar, mSet, mPar, mAsg, mExpr, mIf, mNx, mFl, mStuck, andL, orL, var_v, var_o, var_t, sop_v, sop_o, sop_t, cmp_v, cmp_o, cmp_t, chain_v, chain_o, chain_t, and_v, and_o, and_t, or_v, or_o, or_t, not_v, not_o, not_t, ite_v, ite_o, ite_t, tup_v, tup_o, lst_v, lst_o, oOf_eq, tOf_eq, tstV_eq, vOp, evOs, evRs, evDs, vChain, rds, rd, SV.data, SV.isScr, oVar, vVar, sSl, vSl, evP, vRev, revD, List.filterMap_cons, vCallP, vCall, evAs, callA_def, apart, Arg.ix, passAs, passA, backA, reown, permL, BOp.f, BOp.st, COp.f, BF.f, isaD, typeD, isNoneD, putR, putAll, storable, asgS_name, asgS_sub, asgS_tup, asgSs_nil, asgSs_cons, itemsM, asgT, asgTs, putS, vApp, seqD, atD, L2.atI, L2.ixN]
end K02
end SP3

section SP4
namespace K02
open PySem Tw
def lenT : PyData → Nat
  | .tuple ds => ds.length
  | _ => 0
def posT : PyData → Bool
  | .tuple (.int a :: _) => decide (0 < a)
  | _ => false
def allPos : PyData → Bool
  | .tuple ds => ds.all posT
  | _ => false
def isTri (d : PyData) : Bool := match d with
  | .tuple [p, s, b] => arePl p && isRow s (lenT p) && allPos s && areBl b (lenT p)
  | _ => false
theorem arePl_tup {d : PyData} (h : arePl d = true) : ∃ r0 rows, d = .tuple (.tuple r0 :: rows) ∧ rows.length + 1 ≤ 10 ∧ 1 ≤ r0.length ∧ r0.length ≤ 5 ∧ ∀ r ∈ (PyData.tuple r0 :: rows), isRow r r0.length = true := by
  unfold arePl at h
  split at h
  · rename_i r0 rows
    simp only [Bool.and_eq_true, decide_eq_true_eq, List.all_eq_true] at h
    exact ⟨r0, rows, rfl, h.1.1, h.1.2.1, h.1.2.2, h.2⟩
  · cases h
theorem isRow_tup {d : PyData} {n : Int} (h : isRow d n = true) : ∃ ds, d = .tuple ds ∧ (ds.length : Int) = n ∧ ∀ x ∈ ds, isR x = true := by
  unfold isRow at h
  split at h
  · rename_i ds
    simp only [Bool.and_eq_true, beq_iff_eq, List.all_eq_true] at h
    exact ⟨ds, rfl, h.1, h.2⟩
  · cases h
theorem isR_pair {d : PyData} (h : isR d = true) : ∃ a b, d = .tuple [.int a, .int b] ∧ 0 < b ∧ Nat.gcd a.natAbs b.natAbs = 1 := by
  unfold isR at h
  split at h
  · rename_i a b
    simp only [Bool.and_eq_true, decide_eq_true_eq, beq_iff_eq] at h
    exact ⟨a, b, rfl, h.1, h.2⟩
  · cases h
theorem lc_pos {p s b : PyData} {ds : List PyData} (e : s = .tuple ds) (h : ds.length ≤ 1000) (hr : ∀ x ∈ ds, isR x = true) : vLc [1] (vSeq (sOp false dIdx [sVar 0, sCst (.int 1)])) (.name 1) none (sCmp dGt [sOp false dIdx [sVar 1, sCst (.int 0)], sCst (.int 0)]) [some (.frz (.tuple [p, s, b])), none] =
    some (.ok (.own (ds.map fun d => .bool (posT d))) [some (.frz (.tuple [p, s, b])), none]) := by
  subst e
  refine lc_gen ?_ rfl (small_len h) fun d hd => ⟨.frz (.bool (posT d)), ?_, rfl⟩
  · simp [vSeq, srcO, Ss.den, S.den, E.den, Es.den, Ds.den, OE.den, Gs.den, So.den, TI'.den, TIs.den, mSeq, mRet, mRetVar, mSet, mPar, mAsg, mExpr, mIf, mNx, mFl, mStuck, andL, orL, var_v, var_o, var_t, sop_v, sop_o, sop_t, cmp_v, cmp_o, cmp_t, chain_v, chain_o, chain_t, and_v, and_o, and_t, or_v, or_o, or_t, not_v, not_o, not_t, ite_v, ite_o, ite_t, tup_v, tup_o, lst_v, lst_o, oOf_eq, tOf_eq, tstV_eq, vOp, evOs, evRs, evDs, vChain, rds, rd, SV.data, SV.isScr, oVar, vVar, sSl, vSl, evP, vRev, revD, List.filterMap_cons, vCallP, vCall, evAs, callA_def, apart, Arg.ix, passAs, passA, backA, reown, permL, BOp.f, BOp.st, COp.f, BF.f, isaD, typeD, isNoneD, putR, putAll, storable, asgS_name, asgS_sub, asgS_tup, asgSs_nil, asgSs_cons, itemsM, asgT, asgTs, putS, vApp, seqD, atD, L2.atI, L2.ixN]
  · obtain ⟨x, y, rfl, _⟩ := isR_pair (hr d hd)
    simp [posT, Ss.den, S.den, E.den, Es.den, Ds.den, OE.den, Gs.den, So.den, TI'.den, TIs.den, mSeq, mRet, mRetVar, mSet, mPar, mAsg, mExpr, mIf, mNx, mFl, mStuck, andL, orL, var_v, var_o, var_t, sop_v, sop_o, sop_t, cmp_v, cmp_o, cmp_t, chain_v, chain_o, chain_t, and_v, and_o, and_t, or_v, or_o, or_t, not_v, not_o, not_t, ite_v, ite_o, ite_t, tup_v, tup_o, lst_v, lst_o, oOf_eq, tOf_eq, tstV_eq, vOp, evOs, evRs, evDs, vChain, rds, rd, SV.data, SV.isScr, oVar, vVar, sSl, vSl, evP, vRev, revD, List.filterMap_cons, vCallP, vCall, evAs, callA_def, apart, Arg.ix, passAs, passA, backA, reown, permL, BOp.f, BOp.st, COp.f, BF.f, isaD, typeD, isNoneD, putR, putAll, storable, asgS_name, asgS_sub, asgS_tup, asgSs_nil, asgSs_cons, itemsM, asgT, asgTs, putS, vApp, seqD, atD, L2.atI, L2.ixN]
theorem isTup3 {d : PyData} (h : isTup d 3 = true) : ∃ x y z, d = .tuple [x, y, z] := by
  unfold isTup at h
  split at h
  · rename_i ds
    match ds with
    | [x, y, z] => exact ⟨x, y, z, rfl⟩
    | [] => simp at h
    | [x] => simp at h
    | [x, y] => simp at h
    | x :: y :: z :: u :: r => simp at h; omega
  · cases h
theorem isTri_tup {d : PyData} (h : isTup d 3 = false) : isTri d = false := by
  unfold isTri
  split
  · simp [isTup] at h
  · rfl
set_option maxHeartbeats 2000000 in
theorem s_is_trial_by (d : PyData) : c_is_trial_by [.frz d] = some (.ok (.frz (.bool (isTri d))) [some (.frz d)]) := by
  rw [e_is_trial_by]
  refine tot_eq (tot_defC ?_)
  cases h : isTup d 3 with
  | false => simp [s_is_tuple_of, h, isTri_tup h, b_is_trial_by, k_is_trial_by_21, k_is_trial_by_22, k_is_trial_by_24, k_is_trial_by_25, gl_0, gl_1, gl_2, Ss.den, S.den, E.den, Es.den, Ds.den, OE.den, Gs.den, So.den, TI'.den, TIs.den, mSeq, mRet, mRetVar, mSet, mPar, mAsg, mExpr, mIf, mNx, mFl, mStuck, andL, orL, var_v, var_o, var_t, sop_v, sop_o, sop_t, cmp_v, cmp_o, cmp_t, chain_v, chain_o, chain_t, and_v, and_o, and_t, or_v, or_o, or_t, not_v, not_o, not_t, ite_v, ite_o, ite_t, tup_v, tup_o, lst_v, lst_o, oOf_eq, tOf_eq, tstV_eq, vOp, evOs, evRs, evDs, vChain, rds, rd, SV.data, SV.isScr, oVar, vVar, sSl, vSl, evP, vRev, revD, List.filterMap_cons, vCallP, vCall, evAs, callA_def, apart, Arg.ix, passAs, passA, backA, reown, permL, BOp.f, BOp.st, COp.f, BF.f, isaD, typeD, isNoneD, putR, putAll, storable, asgS_name, asgS_sub, asgS_tup, asgSs_nil, asgSs_cons, itemsM, asgT, asgTs, putS, vApp, seqD, atD, L2.atI, L2.ixN]
  | true =>
    obtain ⟨p, s, b, rfl⟩ := isTup3 h
    cases hp : arePl p with
    | false => simp [s_is_tuple_of, h, s_are_plots, hp, isTri, b_is_trial_by, k_is_trial_by_21, k_is_trial_by_22, k_is_trial_by_24, k_is_trial_by_25, gl_0, gl_1, gl_2, Ss.den, S.den, E.den, Es.den, Ds.den, OE.den, Gs.den, So.den, TI'.den, TIs.den, mSeq, mRet, mRetVar, mSet, mPar, mAsg, mExpr, mIf, mNx, mFl, mStuck, andL, orL, var_v, var_o, var_t, sop_v, sop_o, sop_t, cmp_v, cmp_o, cmp_t, chain_v, chain_o, chain_t, and_v, and_o, and_t, or_v, or_o, or_t, not_v, not_o, not_t, ite_v, ite_o, ite_t, tup_v, tup_o, lst_v, lst_o, oOf_eq, tOf_eq, tstV_eq, vOp, evOs, evRs, evDs, vChain, rds, rd, SV.data, SV.isScr, oVar, vVar, sSl, vSl, evP, vRev, revD, List.filterMap_cons, vCallP, vCall, evAs, callA_def, apart, Arg.ix, passAs, passA, backA, reown, permL, BOp.f, BOp.st, COp.f, BF.f, isaD, typeD, isNoneD, putR, putAll, storable, asgS_name, asgS_sub, asgS_tup, asgSs_nil, asgSs_cons, itemsM, asgT, asgTs, putS, vApp, seqD, atD, L2.atI, L2.ixN]
    | true =>
      obtain ⟨r0, rows, rfl, a1, a2, a3, a4⟩ := arePl_tup hp
      have n1 : ((rows.length : Int) + 1) ≤ 1000 := by omega
      cases hs : isRow s ((rows.length : Int) + 1) with
      | false => simp [s_is_tuple_of, h, s_are_plots, hp, s_is_row, n1, hs, isTri, lenT, b_is_trial_by, k_is_trial_by_21, k_is_trial_by_22, k_is_trial_by_24, k_is_trial_by_25, gl_0, gl_1, gl_2, Ss.den, S.den, E.den, Es.den, Ds.den, OE.den, Gs.den, So.den, TI'.den, TIs.den, mSeq, mRet, mRetVar, mSet, mPar, mAsg, mExpr, mIf, mNx, mFl, mStuck, andL, orL, var_v, var_o, var_t, sop_v, sop_o, sop_t, cmp_v, cmp_o, cmp_t, chain_v, chain_o, chain_t, and_v, and_o, and_t, or_v, or_o, or_t, not_v, not_o, not_t, ite_v, ite_o, ite_t, tup_v, tup_o, lst_v, lst_o, oOf_eq, tOf_eq, tstV_eq, vOp, evOs, evRs, evDs, vChain, rds, rd, SV.data, SV.isScr, oVar, vVar, sSl, vSl, evP, vRev, revD, List.filterMap_cons, vCallP, vCall, evAs, callA_def, apart, Arg.ix, passAs, passA, backA, reown, permL, BOp.f, BOp.st, COp.f, BF.f, isaD, typeD, isNoneD, putR, putAll, storable, asgS_name, asgS_sub, asgS_tup, asgSs_nil, asgSs_cons, itemsM, asgT, asgTs, putS, vApp, seqD, atD, L2.atI, L2.ixN]
      | true =>
        obtain ⟨ds, rfl, e1, e2⟩ := isRow_tup hs
        have q := lc_pos (p := .tuple (.tuple r0 :: rows)) (b := b) (rfl : PyData.tuple ds = .tuple ds) (by omega) e2
        cases hd : ds.all posT with
        | false => simp [s_is_tuple_of, h, s_are_plots, hp, s_is_row, n1, hs, isTri, lenT, q, allPos, hd, Function.comp_def, b_is_trial_by, k_is_trial_by_21, k_is_trial_by_22, k_is_trial_by_24, k_is_trial_by_25, gl_0, gl_1, gl_2, Ss.den, S.den, E.den, Es.den, Ds.den, OE.den, Gs.den, So.den, TI'.den, TIs.den, mSeq, mRet, mRetVar, mSet, mPar, mAsg, mExpr, mIf, mNx, mFl, mStuck, andL, orL, var_v, var_o, var_t, sop_v, sop_o, sop_t, cmp_v, cmp_o, cmp_t, chain_v, chain_o, chain_t, and_v, and_o, and_t, or_v, or_o, or_t, not_v, not_o, not_t, ite_v, ite_o, ite_t, tup_v, tup_o, lst_v, lst_o, oOf_eq, tOf_eq, tstV_eq, vOp, evOs, evRs, evDs, vChain, rds, rd, SV.data, SV.isScr, oVar, vVar, sSl, vSl, evP, vRev, revD, List.filterMap_cons, vCallP, vCall, evAs, callA_def, apart, Arg.ix, passAs, passA, backA, reown, permL, BOp.f, BOp.st, COp.f, BF.f, isaD, typeD, isNoneD, putR, putAll, storable, asgS_name, asgS_sub, asgS_tup, asgSs_nil, asgSs_cons, itemsM, asgT, asgTs, putS, vApp, seqD, atD, L2.atI, L2.ixN]
        | true => simp [s_is_tuple_of, h, s_are_plots, hp, s_is_row, n1, hs, isTri, lenT, q, allPos, hd, s_are_blocks, Function.comp_def, b_is_trial_by, k_is_trial_by_21, k_is_trial_by_22, k_is_trial_by_24, k_is_trial_by_25, gl_0, gl_1, gl_2, Ss.den, S.den, E.den, Es.den, Ds.den, OE.den, Gs.den, So.den, TI'.den, TIs.den, mSeq, mRet, mRetVar, mSet, mPar, mAsg, mExpr, mIf, mNx, mFl, mStuck, andL, orL, var_v, var_o, var_t, sop_v, sop_o, sop_t, cmp_v, cmp_o, cmp_t, chain_v, chain_o, chain_t, and_v, and_o, and_t, or_v, or_o, or_t, not_v, not_o, not_t, ite_v, ite_o, ite_t, tup_v, tup_o, lst_v, lst_o, oOf_eq, tOf_eq, tstV_eq, vOp, evOs, evRs, evDs, vChain, rds, rd, SV.data, SV.isScr, oVar, vVar, sSl, vSl, evP, vRev, revD, List.filterMap_cons, vCallP, vCall, evAs, callA_def, apart, Arg.ix, passAs, passA, backA, reown, permL, BOp.f, BOp.st, COp.f, BF.f, isaD, typeD, isNoneD, putR, putAll, storable, asgS_name, asgS_sub, asgS_tup, asgSs_nil, asgSs_cons, itemsM, asgT, asgTs, putS, vApp, seqD, atD, L2.atI, L2.ixN]
theorem s_is_trial (d : PyData) : c_is_trial [.frz d] = some (.ok (.frz (.bool (isTri d))) [some (.frz d)]) := by
  rw [e_is_trial]
  refine tot_eq (tot_defC ?_)
  simp [s_is_trial_by, b_is_trial, k_is_trial_26, gl_0, gl_1, gl_2, Ss.den, S.den, E.den, Es.den, Ds.den, OE.den, Gs.den, So.den, TI'.den, TIs.den, mSeq, mRet, mRetVar, mSet, mPar, mAsg, mExpr, mIf, mNx, mFl, mStuck, andL, orL, var_v, var_o, var_t, sop_v, sop_o, sop_t, cmp_v, cmp_o, cmp_t, chain_v, chain_o, chain_t, and_v, and_o, and_t, or_v, or_o, or_t, not_v, not_o, not_t, ite_v, ite_o, ite_t, tup_v, tup_o, lst_v, lst_o, oOf_eq, tOf_eq, tstV_eq, vOp, evOs, evRs, evDs, vChain, rds, rd, SV.data, SV.isScr, oVar, vVar, sSl, vSl, evP, vRev, revD, List.filterMap_cons, vCallP, vCall, evAs, callA_def, apart, Arg.ix, passAs, passA, backA, reown, permL, BOp.f, BOp.st, COp.f, BF.f, isaD, typeD, isNoneD, putR, putAll, storable, asgS_name, asgS_sub, asgS_tup, asgSs_nil, asgSs_cons, itemsM, asgT, asgTs, putS, vApp, seqD, atD, L2.atI, L2.ixN]
theorem s_check_trial (d : PyData) (h : isTri d = true) : c_check_trial [.frz d] = some (.ok (.frz .none) [some (.frz d)]) := by
  rw [e_check_trial]
  refine tot_eq (tot_defC ?_)
  simp [s_is_trial_by, h, b_check_trial, k_check_trial_26, gl_0, gl_1, gl_2, Ss.den, S.den, E.den, Es.den, Ds.den, OE.den, Gs.den, So.den, TI'.den, TIs.den, mSeq, mRet, mRetVar, mSet, mPar, mAsg, mExpr, mIf, mNx, mFl, mStuck, andL, orL, var_v, var_o, var_t, sop_v, sop_o, sop_t, cmp_v, cmp_o, cmp_t, chain_v, chain_o, chain_t, and_v, and_o, and_t, or_v, or_o, or_t, not_v, not_o, not_t, ite_v, ite_o, ite_t, tup_v, tup_o, lst_v, lst_o, oOf_eq, tOf_eq, tstV_eq, vOp, evOs, evRs, evDs, vChain, rds, rd, SV.data, SV.isScr, oVar, vVar, sSl, vSl, evP, vRev, revD, List.filterMap_cons, vCallP, vCall, evAs, callA_def, apart, Arg.ix, passAs, passA, backA, reown, permL, BOp.f, BOp.st, COp.f, BF.f, isaD, typeD, isNoneD, putR, putAll, storable, asgS_name, asgS_sub, asgS_tup, asgSs_nil, asgSs_cons, itemsM, asgT, asgTs, putS, vApp, seqD, atD, L2.atI, L2.ixN]
end K02
end SP4

section SP5
namespace K02
open PySem Tw
def unk : PyData → Int
  | .tuple (.tuple (.tuple r0 :: _) :: _) => r0.length
  | _ => 0
def maxI : List Int → Int
  | [] => 0
  | i :: r => r.foldl max i + 1
def lev : PyData → Int
  | .tuple [_, _, .tuple bl] => match intsD bl with
    | some is => maxI is
    | none => 0
  | _ => 0
theorem bt_ints : ∀ {ds : List PyData}, (∀ d ∈ ds, isBt d 0 4 = true) → ∃ is : List Int, ds = is.map .int ∧ ∀ i ∈ is, 0 ≤ i ∧ i ≤ 4
  | [], _ => ⟨[], rfl, fun _ h => by cases h⟩
  | d :: ds, h => by
    obtain ⟨is, e, q⟩ := bt_ints (ds := ds) fun x hx => h x (List.mem_cons_of_mem _ hx)
    have h1 := h d List.mem_cons_self
    cases d with
    | int i =>
      simp [isBt] at h1
      exact ⟨i :: is, by rw [e]; rfl, fun j hj => by
        rcases List.mem_cons.mp hj with rfl | hj
        · exact h1
        · exact q j hj⟩
    | _ => simp [isBt] at h1
/-- a trial's form -/
theorem tri_shape {d : PyData} (h : isTri d = true) : ∃ (r0 rows sp : List PyData) (is : List Int), d = .tuple [.tuple (.tuple r0 :: rows), .tuple sp, .tuple (is.map .int)] ∧ rows.length + 1 ≤ 10 ∧ 1 ≤ r0.length ∧ r0.length ≤ 5 ∧
    (∀ r ∈ (PyData.tuple r0 :: rows), isRow r r0.length = true) ∧ sp.length = rows.length + 1 ∧ (∀ x ∈ sp, isR x = true ∧ posT x = true) ∧ (∀ i ∈ is, 0 ≤ i ∧ i ≤ 4) ∧ (is = [] ∨ is.length = rows.length + 1) := by
  unfold isTri at h
  split at h
  · rename_i p s b
    simp only [Bool.and_eq_true] at h
    obtain ⟨⟨⟨h1, h2⟩, h3⟩, h4⟩ := h
    obtain ⟨r0, rows, rfl, a1, a2, a3, a4⟩ := arePl_tup h1
    obtain ⟨sp, rfl, b1, b2⟩ := isRow_tup h2
    have h3 : sp.all posT = true := h3
    rw [List.all_eq_true] at h3
    have b1 : sp.length = rows.length + 1 := by
      have : ((sp.length : Nat) : Int) = ((rows.length + 1 : Nat) : Int) := b1
      omega
    unfold areBl at h4
    split at h4
    · exact ⟨r0, rows, sp, [], rfl, a1, a2, a3, a4, b1, fun x hx => ⟨b2 x hx, h3 x hx⟩, fun _ h => (by cases h), .inl rfl⟩
    · rename_i ds _
      simp only [Bool.and_eq_true, beq_iff_eq, List.all_eq_true] at h4
      obtain ⟨is, e, q⟩ := bt_ints h4.2
      refine ⟨r0, rows, sp, is, by rw [e], a1, a2, a3, a4, b1, fun x hx => ⟨b2 x hx, h3 x hx⟩, q, .inr ?_⟩
      have : ds.length = is.length := by rw [e, List.length_map]
      have h5 : ((ds.length : Nat) : Int) = ((rows.length + 1 : Nat) : Int) := h4.1
      omega
    · cases h4
  · cases h
@[simp] theorem intsD_map : ∀ is : List Int, intsD (is.map PyData.int) = some is
  | [] => rfl
  | i :: is => by
    rw [List.map_cons]
    show (intsD (is.map PyData.int)).bind _ = _
    rw [intsD_map is]; rfl
theorem dMax_tup {i : Int} {r : List Int} : dMax [.tuple (.int i :: r.map .int)] = some (.frz (.int (r.foldl max i))) := by
  show (intsD ((i :: r).map .int)).bind _ = _
  rw [intsD_map]; rfl
theorem maxI_le {is : List Int} (h : ∀ i ∈ is, 0 ≤ i ∧ i ≤ 4) : 0 ≤ maxI is ∧ maxI is ≤ 5 := by
  have f : ∀ (r : List Int) (i : Int), 0 ≤ i ∧ i ≤ 4 → (∀ j ∈ r, 0 ≤ j ∧ j ≤ 4) → 0 ≤ r.foldl max i ∧ r.foldl max i ≤ 4 := by
    intro r
    induction r with
    | nil => intro i h _; exact h
    | cons j r ih =>
      intro i h1 h2
      have hj := h2 j List.mem_cons_self
      exact ih (max i j) ⟨by omega, by omega⟩ fun k hk => h2 k (List.mem_cons_of_mem _ hk)
  cases is with
  | nil => exact ⟨Int.le_refl _, by decide⟩
  | cons i r =>
    have := f r i (h i List.mem_cons_self) fun j hj => h j (List.mem_cons_of_mem _ hj)
    show 0 ≤ r.foldl max i + 1 ∧ r.foldl max i + 1 ≤ 5
    omega
theorem s_many_unknowns (d : PyData) (h : isTri d = true) : c_many_unknowns [.frz d] = some (.ok (.frz (.int (unk d))) [some (.frz d)]) := by
  obtain ⟨r0, rows, sp, is, rfl, _⟩ := tri_shape h
  rw [e_many_unknowns]
  refine tot_eq (tot_defC ?_)
  have p1 : (0 : Int) < (rows.length : Int) + 1 := by omega
  simp [unk, p1, b_many_unknowns, gl_0, gl_1, gl_2, Ss.den, S.den, E.den, Es.den, Ds.den, OE.den, Gs.den, So.den, TI'.den, TIs.den, mSeq, mRet, mRetVar, mSet, mPar, mAsg, mExpr, mIf, mNx, mFl, mStuck, andL, orL, var_v, var_o, var_t, sop_v, sop_o, sop_t, cmp_v, cmp_o, cmp_t, chain_v, chain_o, chain_t, and_v, and_o, and_t, or_v, or_o, or_t, not_v, not_o, not_t, ite_v, ite_o, ite_t, tup_v, tup_o, lst_v, lst_o, oOf_eq, tOf_eq, tstV_eq, vOp, evOs, evRs, evDs, vChain, rds, rd, SV.data, SV.isScr, oVar, vVar, sSl, vSl, evP, vRev, revD, List.filterMap_cons, vCallP, vCall, evAs, callA_def, apart, Arg.ix, passAs, passA, backA, reown, permL, BOp.f, BOp.st, COp.f, BF.f, isaD, typeD, isNoneD, putR, putAll, storable, asgS_name, asgS_sub, asgS_tup, asgSs_nil, asgSs_cons, itemsM, asgT, asgTs, putS, vApp, seqD, atD, L2.atI, L2.ixN]
theorem s_many_levels (d : PyData) (h : isTri d = true) : c_many_levels [.frz d] = some (.ok (.frz (.int (lev d))) [some (.frz d)]) := by
  obtain ⟨r0, rows, sp, is, rfl, _⟩ := tri_shape h
  rw [e_many_levels]
  refine tot_eq (tot_defC ?_)
  cases is with
  | nil => simp [lev, maxI, intsD, b_many_levels, gl_0, gl_1, gl_2, Ss.den, S.den, E.den, Es.den, Ds.den, OE.den, Gs.den, So.den, TI'.den, TIs.den, mSeq, mRet, mRetVar, mSet, mPar, mAsg, mExpr, mIf, mNx, mFl, mStuck, andL, orL, var_v, var_o, var_t, sop_v, sop_o, sop_t, cmp_v, cmp_o, cmp_t, chain_v, chain_o, chain_t, and_v, and_o, and_t, or_v, or_o, or_t, not_v, not_o, not_t, ite_v, ite_o, ite_t, tup_v, tup_o, lst_v, lst_o, oOf_eq, tOf_eq, tstV_eq, vOp, evOs, evRs, evDs, vChain, rds, rd, SV.data, SV.isScr, oVar, vVar, sSl, vSl, evP, vRev, revD, List.filterMap_cons, vCallP, vCall, evAs, callA_def, apart, Arg.ix, passAs, passA, backA, reown, permL, BOp.f, BOp.st, COp.f, BF.f, isaD, typeD, isNoneD, putR, putAll, storable, asgS_name, asgS_sub, asgS_tup, asgSs_nil, asgSs_cons, itemsM, asgT, asgTs, putS, vApp, seqD, atD, L2.atI, L2.ixN]
  | cons i r => simp [lev, maxI, dMax_tup, intsD, b_many_levels, gl_0, gl_1, gl_2, Ss.den, S.den, E.den, Es.den, Ds.den, OE.den, Gs.den, So.den, TI'.den, TIs.den, mSeq, mRet, mRetVar, mSet, mPar, mAsg, mExpr, mIf, mNx, mFl, mStuck, andL, orL, var_v, var_o, var_t, sop_v, sop_o, sop_t, cmp_v, cmp_o, cmp_t, chain_v, chain_o, chain_t, and_v, and_o, and_t, or_v, or_o, or_t, not_v, not_o, not_t, ite_v, ite_o, ite_t, tup_v, tup_o, lst_v, lst_o, oOf_eq, tOf_eq, tstV_eq, vOp, evOs, evRs, evDs, vChain, rds, rd, SV.data, SV.isScr, oVar, vVar, sSl, vSl, evP, vRev, revD, List.filterMap_cons, vCallP, vCall, evAs, callA_def, apart, Arg.ix, passAs, passA, backA, reown, permL, BOp.f, BOp.st, COp.f, BF.f, isaD, typeD, isNoneD, putR, putAll, storable, asgS_name, asgS_sub, asgS_tup, asgSs_nil, asgSs_cons, itemsM, asgT, asgTs, putS, vApp, seqD, atD, L2.atI, L2.ixN]
def isWor (t d : PyData) : Bool := match d with
  | .tuple [x, y] => isRow x (unk t) && isRow y (lev t)
  | _ => false
theorem isWor_tup {t d : PyData} (h : isTup d 2 = false) : isWor t d = false := by
  unfold isWor
  split
  · simp [isTup] at h
  · rfl
theorem tri_bounds {t : PyData} (h : isTri t = true) : unk t ≤ 1000 ∧ lev t ≤ 1000 ∧ 1 ≤ unk t ∧ unk t ≤ 5 ∧ 0 ≤ lev t ∧ lev t ≤ 5 := by
  obtain ⟨r0, rows, sp, is, rfl, a1, a2, a3, _, _, _, a4, _⟩ := tri_shape h
  have := maxI_le a4
  refine ⟨?_, ?_, ?_, ?_, ?_, ?_⟩ <;> simp only [unk, lev, intsD_map] <;> omega
theorem s_is_world_by (t d : PyData) (h : isTri t = true) : c_is_world_by [.frz t, .frz d] = some (.ok (.frz (.bool (isWor t d))) [some (.frz t), some (.frz d)]) := by
  obtain ⟨b1, b2, _⟩ := tri_bounds h
  rw [e_is_world_by]
  refine tot_eq (tot_defC ?_)
  cases q : isTup d 2 with
  | false => simp [s_is_tuple_of, q, isWor_tup q, b_is_world_by, k_is_world_by_22, k_is_world_by_24, k_is_world_by_29, k_is_world_by_30, gl_0, gl_1, gl_2, Ss.den, S.den, E.den, Es.den, Ds.den, OE.den, Gs.den, So.den, TI'.den, TIs.den, mSeq, mRet, mRetVar, mSet, mPar, mAsg, mExpr, mIf, mNx, mFl, mStuck, andL, orL, var_v, var_o, var_t, sop_v, sop_o, sop_t, cmp_v, cmp_o, cmp_t, chain_v, chain_o, chain_t, and_v, and_o, and_t, or_v, or_o, or_t, not_v, not_o, not_t, ite_v, ite_o, ite_t, tup_v, tup_o, lst_v, lst_o, oOf_eq, tOf_eq, tstV_eq, vOp, evOs, evRs, evDs, vChain, rds, rd, SV.data, SV.isScr, oVar, vVar, sSl, vSl, evP, vRev, revD, List.filterMap_cons, vCallP, vCall, evAs, callA_def, apart, Arg.ix, passAs, passA, backA, reown, permL, BOp.f, BOp.st, COp.f, BF.f, isaD, typeD, isNoneD, putR, putAll, storable, asgS_name, asgS_sub, asgS_tup, asgSs_nil, asgSs_cons, itemsM, asgT, asgTs, putS, vApp, seqD, atD, L2.atI, L2.ixN]
  | true =>
    obtain ⟨x, y, rfl⟩ := isTup_2 q
    cases q2 : isRow x (unk t) <;> simp [s_is_tuple_of, q, s_many_unknowns t h, s_many_levels t h, s_is_row, b1, b2, q2, isWor, b_is_world_by, k_is_world_by_22, k_is_world_by_24, k_is_world_by_29, k_is_world_by_30, gl_0, gl_1, gl_2, Ss.den, S.den, E.den, Es.den, Ds.den, OE.den, Gs.den, So.den, TI'.den, TIs.den, mSeq, mRet, mRetVar, mSet, mPar, mAsg, mExpr, mIf, mNx, mFl, mStuck, andL, orL, var_v, var_o, var_t, sop_v, sop_o, sop_t, cmp_v, cmp_o, cmp_t, chain_v, chain_o, chain_t, and_v, and_o, and_t, or_v, or_o, or_t, not_v, not_o, not_t, ite_v, ite_o, ite_t, tup_v, tup_o, lst_v, lst_o, oOf_eq, tOf_eq, tstV_eq, vOp, evOs, evRs, evDs, vChain, rds, rd, SV.data, SV.isScr, oVar, vVar, sSl, vSl, evP, vRev, revD, List.filterMap_cons, vCallP, vCall, evAs, callA_def, apart, Arg.ix, passAs, passA, backA, reown, permL, BOp.f, BOp.st, COp.f, BF.f, isaD, typeD, isNoneD, putR, putAll, storable, asgS_name, asgS_sub, asgS_tup, asgSs_nil, asgSs_cons, itemsM, asgT, asgTs, putS, vApp, seqD, atD, L2.atI, L2.ixN]
theorem s_is_world (t d : PyData) (h : isTri t = true) : c_is_world [.frz t, .frz d] = some (.ok (.frz (.bool (isWor t d))) [some (.frz t), some (.frz d)]) := by
  rw [e_is_world]
  refine tot_eq (tot_defC ?_)
  simp [s_check_trial t h, s_is_world_by t d h, b_is_world, k_is_world_28, k_is_world_31, gl_0, gl_1, gl_2, Ss.den, S.den, E.den, Es.den, Ds.den, OE.den, Gs.den, So.den, TI'.den, TIs.den, mSeq, mRet, mRetVar, mSet, mPar, mAsg, mExpr, mIf, mNx, mFl, mStuck, andL, orL, var_v, var_o, var_t, sop_v, sop_o, sop_t, cmp_v, cmp_o, cmp_t, chain_v, chain_o, chain_t, and_v, and_o, and_t, or_v, or_o, or_t, not_v, not_o, not_t, ite_v, ite_o, ite_t, tup_v, tup_o, lst_v, lst_o, oOf_eq, tOf_eq, tstV_eq, vOp, evOs, evRs, evDs, vChain, rds, rd, SV.data, SV.isScr, oVar, vVar, sSl, vSl, evP, vRev, revD, List.filterMap_cons, vCallP, vCall, evAs, callA_def, apart, Arg.ix, passAs, passA, backA, reown, permL, BOp.f, BOp.st, COp.f, BF.f, isaD, typeD, isNoneD, putR, putAll, storable, asgS_name, asgS_sub, asgS_tup, asgSs_nil, asgSs_cons, itemsM, asgT, asgTs, putS, vApp, seqD, atD, L2.atI, L2.ixN]
theorem s_is_question_by (t d : PyData) (h : isTri t = true) : c_is_question_by [.frz t, .frz d] = some (.ok (.frz (.bool (isRow d (unk t)))) [some (.frz t), some (.frz d)]) := by
  obtain ⟨b1, b2, _⟩ := tri_bounds h
  rw [e_is_question_by]
  refine tot_eq (tot_defC ?_)
  simp [s_many_unknowns t h, s_is_row, b1, b_is_question_by, k_is_question_by_24, k_is_question_by_29, gl_0, gl_1, gl_2, Ss.den, S.den, E.den, Es.den, Ds.den, OE.den, Gs.den, So.den, TI'.den, TIs.den, mSeq, mRet, mRetVar, mSet, mPar, mAsg, mExpr, mIf, mNx, mFl, mStuck, andL, orL, var_v, var_o, var_t, sop_v, sop_o, sop_t, cmp_v, cmp_o, cmp_t, chain_v, chain_o, chain_t, and_v, and_o, and_t, or_v, or_o, or_t, not_v, not_o, not_t, ite_v, ite_o, ite_t, tup_v, tup_o, lst_v, lst_o, oOf_eq, tOf_eq, tstV_eq, vOp, evOs, evRs, evDs, vChain, rds, rd, SV.data, SV.isScr, oVar, vVar, sSl, vSl, evP, vRev, revD, List.filterMap_cons, vCallP, vCall, evAs, callA_def, apart, Arg.ix, passAs, passA, backA, reown, permL, BOp.f, BOp.st, COp.f, BF.f, isaD, typeD, isNoneD, putR, putAll, storable, asgS_name, asgS_sub, asgS_tup, asgSs_nil, asgSs_cons, itemsM, asgT, asgTs, putS, vApp, seqD, atD, L2.atI, L2.ixN]
theorem s_is_question (t d : PyData) (h : isTri t = true) : c_is_question [.frz t, .frz d] = some (.ok (.frz (.bool (isRow d (unk t)))) [some (.frz t), some (.frz d)]) := by
  rw [e_is_question]
  refine tot_eq (tot_defC ?_)
  simp [s_check_trial t h, s_is_question_by t d h, b_is_question, k_is_question_28, k_is_question_33, gl_0, gl_1, gl_2, Ss.den, S.den, E.den, Es.den, Ds.den, OE.den, Gs.den, So.den, TI'.den, TIs.den, mSeq, mRet, mRetVar, mSet, mPar, mAsg, mExpr, mIf, mNx, mFl, mStuck, andL, orL, var_v, var_o, var_t, sop_v, sop_o, sop_t, cmp_v, cmp_o, cmp_t, chain_v, chain_o, chain_t, and_v, and_o, and_t, or_v, or_o, or_t, not_v, not_o, not_t, ite_v, ite_o, ite_t, tup_v, tup_o, lst_v, lst_o, oOf_eq, tOf_eq, tstV_eq, vOp, evOs, evRs, evDs, vChain, rds, rd, SV.data, SV.isScr, oVar, vVar, sSl, vSl, evP, vRev, revD, List.filterMap_cons, vCallP, vCall, evAs, callA_def, apart, Arg.ix, passAs, passA, backA, reown, permL, BOp.f, BOp.st, COp.f, BF.f, isaD, typeD, isNoneD, putR, putAll, storable, asgS_name, asgS_sub, asgS_tup, asgSs_nil, asgSs_cons, itemsM, asgT, asgTs, putS, vApp, seqD, atD, L2.atI, L2.ixN]
theorem s_levels_of (t : PyData) (h : isTri t = true) : c_levels_of [.frz t] = some (.ok (.frz (.int (lev t))) [some (.frz t)]) := by
  rw [e_levels_of]
  refine tot_eq (tot_defC ?_)
  simp [s_check_trial t h, s_many_levels t h, b_levels_of, k_levels_of_28, k_levels_of_30, gl_0, gl_1, gl_2, Ss.den, S.den, E.den, Es.den, Ds.den, OE.den, Gs.den, So.den, TI'.den, TIs.den, mSeq, mRet, mRetVar, mSet, mPar, mAsg, mExpr, mIf, mNx, mFl, mStuck, andL, orL, var_v, var_o, var_t, sop_v, sop_o, sop_t, cmp_v, cmp_o, cmp_t, chain_v, chain_o, chain_t, and_v, and_o, and_t, or_v, or_o, or_t, not_v, not_o, not_t, ite_v, ite_o, ite_t, tup_v, tup_o, lst_v, lst_o, oOf_eq, tOf_eq, tstV_eq, vOp, evOs, evRs, evDs, vChain, rds, rd, SV.data, SV.isScr, oVar, vVar, sSl, vSl, evP, vRev, revD, List.filterMap_cons, vCallP, vCall, evAs, callA_def, apart, Arg.ix, passAs, passA, backA, reown, permL, BOp.f, BOp.st, COp.f, BF.f, isaD, typeD, isNoneD, putR, putAll, storable, asgS_name, asgS_sub, asgS_tup, asgSs_nil, asgSs_cons, itemsM, asgT, asgTs, putS, vApp, seqD, atD, L2.atI, L2.ixN]
end K02
end SP5

section SP6
namespace K02
open PySem Tw
theorem s__law_is_tuple (d : PyData) (n : Int) : c__law_is_tuple [.frz d, .frz (.int n)] = some (.ok (.frz (.bool (isTup d n))) [some (.frz d), some (.frz (.int n))]) := by
  rw [e__law_is_tuple]
  refine tot_eq (tot_defC ?_)
  cases d <;> simp [isTup, b__law_is_tuple, gl_0, gl_1, gl_2, Ss.den, S.den, E.den, Es.den, Ds.den, OE.den, Gs.den, So.den, TI'.den, TIs.den, mSeq, mRet, mRetVar, mSet, mPar, mAsg, mExpr, mIf, mNx, mFl, mStuck, andL, orL, var_v, var_o, var_t, sop_v, sop_o, sop_t, cmp_v, cmp_o, cmp_t, chain_v, chain_o, chain_t, and_v, and_o, and_t, or_v, or_o, or_t, not_v, not_o, not_t, ite_v, ite_o, ite_t, tup_v, tup_o, lst_v, lst_o, oOf_eq, tOf_eq, tstV_eq, vOp, evOs, evRs, evDs, vChain, rds, rd, SV.data, SV.isScr, oVar, vVar, sSl, vSl, evP, vRev, revD, List.filterMap_cons, vCallP, vCall, evAs, callA_def, apart, Arg.ix, passAs, passA, backA, reown, permL, BOp.f, BOp.st, COp.f, BF.f, isaD, typeD, isNoneD, putR, putAll, storable, asgS_name, asgS_sub, asgS_tup, asgSs_nil, asgSs_cons, itemsM, asgT, asgTs, putS, vApp, seqD, atD, L2.atI, L2.ixN]
/-! ### in lowest terms -/
def lo1 (t b : Int) : Int := t / (Int.gcd t b : Int)
def lo2 (t b : Int) : Int := b / (Int.gcd t b : Int)
theorem divOk_of {i j : Int} (h0 : 0 < j) (h : j.natAbs < 2 ^ 9000) : divOk i j = true := by
  have hj : j ≠ 0 := by omega
  unfold divOk Builtin.divisionGoesByPylong
  have hl : j.natAbs.log2 < 9000 := (Nat.log2_lt (by omega)).mpr h
  have e : (j == 0) = false := by simpa using hj
  have e2 : ¬ (j.natAbs.log2 / 30 + 1 > 300) := by omega
  simp [hj, e2]
def LI (t b : Int) (m : Nat) (env : EV) : Prop := ∃ f r : Int, env = [some (.frz (.int t)), some (.frz (.int b)), some (.frz (.int f)), some (.frz (.int r))] ∧ 0 ≤ f ∧ 0 ≤ r ∧ m = r.toNat ∧ Int.gcd f r = Int.gcd t b
theorem gcd_step {f r : Int} (h1 : 0 ≤ f) (h2 : 0 ≤ r) : Int.gcd r (f.fmod r) = Int.gcd f r ∧ 0 ≤ f.fmod r ∧ (0 < r → f.fmod r < r) := by
  obtain ⟨m, rfl⟩ := Int.eq_ofNat_of_zero_le h1
  obtain ⟨n, rfl⟩ := Int.eq_ofNat_of_zero_le h2
  rw [Int.fmod_eq_emod_of_nonneg _ h2, ← Int.natCast_emod]
  refine ⟨?_, by omega, fun h => ?_⟩
  · show Nat.gcd n (m % n) = Nat.gcd m n
    rw [Nat.gcd_comm n, ← Nat.gcd_rec, Nat.gcd_comm]
  · have : m % n < n := Nat.mod_lt _ (by omega)
    omega
set_option maxHeartbeats 1000000 in
theorem s__law_lean (t b : Int) (hb : 0 < b) (hz : b.natAbs < 2 ^ 9000) : c__law_lean [.frz (.int t), .frz (.int b)] = some (.ok (.frz (.tuple [.int (lo1 t b), .int (lo2 t b)])) [some (.frz (.int t)), some (.frz (.int b))]) := by
  rw [e__law_lean]
  refine tot_eq (tot_defC ?_)
  unfold b__law_lean
  refine tot_cons ?_
  simp [S.den, E.den, Es.den, Ds.den, OE.den, Gs.den, So.den, TI'.den, TIs.den, mSeq, mRet, mRetVar, mSet, mPar, mAsg, mExpr, mIf, mNx, mFl, mStuck, andL, orL, var_v, var_o, var_t, sop_v, sop_o, sop_t, cmp_v, cmp_o, cmp_t, chain_v, chain_o, chain_t, and_v, and_o, and_t, or_v, or_o, or_t, not_v, not_o, not_t, ite_v, ite_o, ite_t, tup_v, tup_o, lst_v, lst_o, oOf_eq, tOf_eq, tstV_eq, vOp, evOs, evRs, evDs, vChain, rds, rd, SV.data, SV.isScr, oVar, vVar, sSl, vSl, evP, vRev, revD, List.filterMap_cons, vCallP, vCall, evAs, callA_def, apart, Arg.ix, passAs, passA, backA, reown, permL, BOp.f, BOp.st, COp.f, BF.f, isaD, typeD, isNoneD, putR, putAll, storable, asgS_name, asgS_sub, asgS_tup, asgSs_nil, asgSs_cons, itemsM, asgT, asgTs, putS, vApp, seqD, atD, L2.atI, L2.ixN]
  refine nxt_nx (tot_cons (tot_whl (tot_while (LI t b) (m := b.toNat) ⟨if t < 0 then -t else t, if b < 0 then -b else b, rfl, ?_, ?_, ?_, ?_⟩ ?_)))
  · split <;> omega
  · split <;> omega
  · split <;> omega
  · have e1 : (if b < 0 then -b else b) = b := by split <;> omega
    rw [e1]
    split
    · rw [Int.neg_gcd]
    · rfl
  · rintro m env ⟨f, r, rfl, h1, h2, rfl, h3⟩
    by_cases hr : 0 < r
    · have hm : modOk f r = true := by simp [modOk]; omega
      simp [hr, hm, S.den, E.den, Es.den, Ds.den, OE.den, Gs.den, So.den, TI'.den, TIs.den, mSeq, mRet, mRetVar, mSet, mPar, mAsg, mExpr, mIf, mNx, mFl, mStuck, andL, orL, var_v, var_o, var_t, sop_v, sop_o, sop_t, cmp_v, cmp_o, cmp_t, chain_v, chain_o, chain_t, and_v, and_o, and_t, or_v, or_o, or_t, not_v, not_o, not_t, ite_v, ite_o, ite_t, tup_v, tup_o, lst_v, lst_o, oOf_eq, tOf_eq, tstV_eq, vOp, evOs, evRs, evDs, vChain, rds, rd, SV.data, SV.isScr, oVar, vVar, sSl, vSl, evP, vRev, revD, List.filterMap_cons, vCallP, vCall, evAs, callA_def, apart, Arg.ix, passAs, passA, backA, reown, permL, BOp.f, BOp.st, COp.f, BF.f, isaD, typeD, isNoneD, putR, putAll, storable, asgS_name, asgS_sub, asgS_tup, asgSs_nil, asgSs_cons, itemsM, asgT, asgTs, putS, vApp, seqD, atD, L2.atI, L2.ixN]
      refine tot_cons ?_
      simp [hm, S.den, E.den, Es.den, Ds.den, OE.den, Gs.den, So.den, TI'.den, TIs.den, mSeq, mRet, mRetVar, mSet, mPar, mAsg, mExpr, mIf, mNx, mFl, mStuck, andL, orL, var_v, var_o, var_t, sop_v, sop_o, sop_t, cmp_v, cmp_o, cmp_t, chain_v, chain_o, chain_t, and_v, and_o, and_t, or_v, or_o, or_t, not_v, not_o, not_t, ite_v, ite_o, ite_t, tup_v, tup_o, lst_v, lst_o, oOf_eq, tOf_eq, tstV_eq, vOp, evOs, evRs, evDs, vChain, rds, rd, SV.data, SV.isScr, oVar, vVar, sSl, vSl, evP, vRev, revD, List.filterMap_cons, vCallP, vCall, evAs, callA_def, apart, Arg.ix, passAs, passA, backA, reown, permL, BOp.f, BOp.st, COp.f, BF.f, isaD, typeD, isNoneD, putR, putAll, storable, asgS_name, asgS_sub, asgS_tup, asgSs_nil, asgSs_cons, itemsM, asgT, asgTs, putS, vApp, seqD, atD, L2.atI, L2.ixN]
      refine nxt_nx (tot_nil ?_)
      obtain ⟨g1, g2, g3⟩ := gcd_step h1 h2
      have g3 := g3 hr
      exact ⟨(f.fmod r).toNat, by omega, r, f.fmod r, rfl, h2, g2, rfl, by rw [g1, h3]⟩
    · simp [hr, S.den, E.den, Es.den, Ds.den, OE.den, Gs.den, So.den, TI'.den, TIs.den, mSeq, mRet, mRetVar, mSet, mPar, mAsg, mExpr, mIf, mNx, mFl, mStuck, andL, orL, var_v, var_o, var_t, sop_v, sop_o, sop_t, cmp_v, cmp_o, cmp_t, chain_v, chain_o, chain_t, and_v, and_o, and_t, or_v, or_o, or_t, not_v, not_o, not_t, ite_v, ite_o, ite_t, tup_v, tup_o, lst_v, lst_o, oOf_eq, tOf_eq, tstV_eq, vOp, evOs, evRs, evDs, vChain, rds, rd, SV.data, SV.isScr, oVar, vVar, sSl, vSl, evP, vRev, revD, List.filterMap_cons, vCallP, vCall, evAs, callA_def, apart, Arg.ix, passAs, passA, backA, reown, permL, BOp.f, BOp.st, COp.f, BF.f, isaD, typeD, isNoneD, putR, putAll, storable, asgS_name, asgS_sub, asgS_tup, asgSs_nil, asgSs_cons, itemsM, asgT, asgTs, putS, vApp, seqD, atD, L2.atI, L2.ixN]
      have r0 : r = 0 := by omega
      subst r0
      refine nxt_nx (tot_cons ?_)
      simp [hb, S.den, E.den, Es.den, Ds.den, OE.den, Gs.den, So.den, TI'.den, TIs.den, mSeq, mRet, mRetVar, mSet, mPar, mAsg, mExpr, mIf, mNx, mFl, mStuck, andL, orL, var_v, var_o, var_t, sop_v, sop_o, sop_t, cmp_v, cmp_o, cmp_t, chain_v, chain_o, chain_t, and_v, and_o, and_t, or_v, or_o, or_t, not_v, not_o, not_t, ite_v, ite_o, ite_t, tup_v, tup_o, lst_v, lst_o, oOf_eq, tOf_eq, tstV_eq, vOp, evOs, evRs, evDs, vChain, rds, rd, SV.data, SV.isScr, oVar, vVar, sSl, vSl, evP, vRev, revD, List.filterMap_cons, vCallP, vCall, evAs, callA_def, apart, Arg.ix, passAs, passA, backA, reown, permL, BOp.f, BOp.st, COp.f, BF.f, isaD, typeD, isNoneD, putR, putAll, storable, asgS_name, asgS_sub, asgS_tup, asgSs_nil, asgSs_cons, itemsM, asgT, asgTs, putS, vApp, seqD, atD, L2.atI, L2.ixN]
      refine nxt_nx (tot_cons ?_)
      have ef : f = (Int.gcd t b : Int) := by
        rw [← h3]
        show f = ((Nat.gcd f.natAbs 0 : Nat) : Int)
        rw [Nat.gcd_zero_right]; omega
      have fp : 0 < f := by
        rw [ef]
        have := Int.gcd_pos_of_ne_zero_right t (show b ≠ 0 by omega)
        omega
      have fl : f.natAbs < 2 ^ 9000 := by
        have : (Int.gcd t b : Int).natAbs ≤ b.natAbs := Nat.le_of_dvd (by omega) (Nat.gcd_dvd_right _ _)
        rw [ef]; omega
      have d1 := divOk_of (i := t) fp fl
      have d2 := divOk_of (i := b) fp fl
      simp [d1, d2, Int.fdiv_eq_ediv_of_nonneg _ h1, S.den, E.den, Es.den, Ds.den, OE.den, Gs.den, So.den, TI'.den, TIs.den, mSeq, mRet, mRetVar, mSet, mPar, mAsg, mExpr, mIf, mNx, mFl, mStuck, andL, orL, var_v, var_o, var_t, sop_v, sop_o, sop_t, cmp_v, cmp_o, cmp_t, chain_v, chain_o, chain_t, and_v, and_o, and_t, or_v, or_o, or_t, not_v, not_o, not_t, ite_v, ite_o, ite_t, tup_v, tup_o, lst_v, lst_o, oOf_eq, tOf_eq, tstV_eq, vOp, evOs, evRs, evDs, vChain, rds, rd, SV.data, SV.isScr, oVar, vVar, sSl, vSl, evP, vRev, revD, List.filterMap_cons, vCallP, vCall, evAs, callA_def, apart, Arg.ix, passAs, passA, backA, reown, permL, BOp.f, BOp.st, COp.f, BF.f, isaD, typeD, isNoneD, putR, putAll, storable, asgS_name, asgS_sub, asgS_tup, asgSs_nil, asgSs_cons, itemsM, asgT, asgTs, putS, vApp, seqD, atD, L2.atI, L2.ixN]
      unfold lo1 lo2
      rw [← ef]
      exact ⟨_, rfl, rfl, rfl⟩
end K02
end SP6

section SP7
namespace K02
open PySem Tw
/-! ## the well -/
def Well (w : List PyData) : Prop := ∃ a b c : Int, w = [.int a, .int b, .int c] ∧ 0 ≤ a ∧ 0 ≤ b ∧ b < 2147483489 ∧ 0 ≤ c
/-- what a def that takes the well first answers -/
def Io (as : List SV) (R : PyData → Prop) (r : SV) (p : EV) : Prop := ∃ d w, r = .frz d ∧ R d ∧ Well w ∧ p = some (.io w) :: as.map some
theorem modOk_of {i j : Int} (h0 : 0 < j) (h : j < 2 ^ 60) : modOk i j = true := by
  simp [modOk]; omega
set_option maxHeartbeats 1000000 in
theorem s__law_draw {w : List PyData} (hw : Well w) (few : Int) (h0 : 0 < few) (h1 : few < 1073741824) :
    tot (c__law_draw [.io w, .frz (.int few)]) (Io [.frz (.int few)] fun d => ∃ k : Int, d = .int k ∧ 0 ≤ k ∧ k < few) := by
  obtain ⟨a, b, c, rfl, ha, hb, hb2, hc⟩ := hw
  rw [e__law_draw]
  refine tot_defC ?_
  unfold b__law_draw
  refine tot_cons ?_
  by_cases q : 0 < a
  · simp [q, h0, h1, S.den, E.den, Es.den, Ds.den, OE.den, Gs.den, So.den, TI'.den, TIs.den, mSeq, mRet, mRetVar, mSet, mPar, mAsg, mExpr, mIf, mNx, mFl, mStuck, andL, orL, var_v, var_o, var_t, sop_v, sop_o, sop_t, cmp_v, cmp_o, cmp_t, chain_v, chain_o, chain_t, and_v, and_o, and_t, or_v, or_o, or_t, not_v, not_o, not_t, ite_v, ite_o, ite_t, tup_v, tup_o, lst_v, lst_o, oOf_eq, tOf_eq, tstV_eq, vOp, evOs, evRs, evDs, vChain, rds, rd, SV.data, SV.isScr, oVar, vVar, sSl, vSl, evP, vRev, revD, List.filterMap_cons, vCallP, vCall, evAs, callA_def, apart, Arg.ix, passAs, passA, backA, reown, permL, BOp.f, BOp.st, COp.f, BF.f, isaD, typeD, isNoneD, putR, putAll, storable, asgS_name, asgS_sub, asgS_tup, asgSs_nil, asgSs_cons, itemsM, asgT, asgTs, putS, vApp, seqD, atD, L2.atI, L2.ixN]
    refine tot_cons ?_
    simp [q, h0, h1, S.den, E.den, Es.den, Ds.den, OE.den, Gs.den, So.den, TI'.den, TIs.den, mSeq, mRet, mRetVar, mSet, mPar, mAsg, mExpr, mIf, mNx, mFl, mStuck, andL, orL, var_v, var_o, var_t, sop_v, sop_o, sop_t, cmp_v, cmp_o, cmp_t, chain_v, chain_o, chain_t, and_v, and_o, and_t, or_v, or_o, or_t, not_v, not_o, not_t, ite_v, ite_o, ite_t, tup_v, tup_o, lst_v, lst_o, oOf_eq, tOf_eq, tstV_eq, vOp, evOs, evRs, evDs, vChain, rds, rd, SV.data, SV.isScr, oVar, vVar, sSl, vSl, evP, vRev, revD, List.filterMap_cons, vCallP, vCall, evAs, callA_def, apart, Arg.ix, passAs, passA, backA, reown, permL, BOp.f, BOp.st, COp.f, BF.f, isaD, typeD, isNoneD, putR, putAll, storable, asgS_name, asgS_sub, asgS_tup, asgSs_nil, asgSs_cons, itemsM, asgT, asgTs, putS, vApp, seqD, atD, L2.atI, L2.ixN]
    refine nxt_nx (tot_cons ?_)
    simp [q, h0, h1, S.den, E.den, Es.den, Ds.den, OE.den, Gs.den, So.den, TI'.den, TIs.den, mSeq, mRet, mRetVar, mSet, mPar, mAsg, mExpr, mIf, mNx, mFl, mStuck, andL, orL, var_v, var_o, var_t, sop_v, sop_o, sop_t, cmp_v, cmp_o, cmp_t, chain_v, chain_o, chain_t, and_v, and_o, and_t, or_v, or_o, or_t, not_v, not_o, not_t, ite_v, ite_o, ite_t, tup_v, tup_o, lst_v, lst_o, oOf_eq, tOf_eq, tstV_eq, vOp, evOs, evRs, evDs, vChain, rds, rd, SV.data, SV.isScr, oVar, vVar, sSl, vSl, evP, vRev, revD, List.filterMap_cons, vCallP, vCall, evAs, callA_def, apart, Arg.ix, passAs, passA, backA, reown, permL, BOp.f, BOp.st, COp.f, BF.f, isaD, typeD, isNoneD, putR, putAll, storable, asgS_name, asgS_sub, asgS_tup, asgSs_nil, asgSs_cons, itemsM, asgT, asgTs, putS, vApp, seqD, atD, L2.atI, L2.ixN]
    exact ⟨_, _, rfl, ⟨_, rfl, Int.emod_nonneg _ (by omega), Int.emod_lt_of_pos _ h0⟩, ⟨_, _, _, rfl, Int.ediv_nonneg ha (by omega), hb, hb2, hc⟩, rfl⟩
  · simp [q, S.den, E.den, Es.den, Ds.den, OE.den, Gs.den, So.den, TI'.den, TIs.den, mSeq, mRet, mRetVar, mSet, mPar, mAsg, mExpr, mIf, mNx, mFl, mStuck, andL, orL, var_v, var_o, var_t, sop_v, sop_o, sop_t, cmp_v, cmp_o, cmp_t, chain_v, chain_o, chain_t, and_v, and_o, and_t, or_v, or_o, or_t, not_v, not_o, not_t, ite_v, ite_o, ite_t, tup_v, tup_o, lst_v, lst_o, oOf_eq, tOf_eq, tstV_eq, vOp, evOs, evRs, evDs, vChain, rds, rd, SV.data, SV.isScr, oVar, vVar, sSl, vSl, evP, vRev, revD, List.filterMap_cons, vCallP, vCall, evAs, callA_def, apart, Arg.ix, passAs, passA, backA, reown, permL, BOp.f, BOp.st, COp.f, BF.f, isaD, typeD, isNoneD, putR, putAll, storable, asgS_name, asgS_sub, asgS_tup, asgSs_nil, asgSs_cons, itemsM, asgT, asgTs, putS, vApp, seqD, atD, L2.atI, L2.ixN]
    refine tot_nil (nxt_nx (tot_cons ?_))
    have m1 : mulOk b 48271 = true := by simp [mulOk]
    have m2 : mulOk 15017 (c + 1) = true := by simp [mulOk]
    have o1 (i : Int) : modOk i 2147483489 = true := by simp [modOk]
    have o2 (i : Int) : modOk i 5003 = true := by simp [modOk]
    have o3 (i : Int) : modOk i few = true := by simp [modOk]; omega
    simp [S.den, E.den, Es.den, Ds.den, OE.den, Gs.den, So.den, TI'.den, TIs.den, mSeq, mRet, mRetVar, mSet, mPar, mAsg, mExpr, mIf, mNx, mFl, mStuck, andL, orL, var_v, var_o, var_t, sop_v, sop_o, sop_t, cmp_v, cmp_o, cmp_t, chain_v, chain_o, chain_t, and_v, and_o, and_t, or_v, or_o, or_t, not_v, not_o, not_t, ite_v, ite_o, ite_t, tup_v, tup_o, lst_v, lst_o, oOf_eq, tOf_eq, tstV_eq, vOp, evOs, evRs, evDs, vChain, rds, rd, SV.data, SV.isScr, oVar, vVar, sSl, vSl, evP, vRev, revD, List.filterMap_cons, vCallP, vCall, evAs, callA_def, apart, Arg.ix, passAs, passA, backA, reown, permL, BOp.f, BOp.st, COp.f, BF.f, isaD, typeD, isNoneD, putR, putAll, storable, asgS_name, asgS_sub, asgS_tup, asgSs_nil, asgSs_cons, itemsM, asgT, asgTs, putS, vApp, seqD, atD, L2.atI, L2.ixN]
    refine nxt_nx (tot_cons ?_)
    simp [m1, m2, o1, S.den, E.den, Es.den, Ds.den, OE.den, Gs.den, So.den, TI'.den, TIs.den, mSeq, mRet, mRetVar, mSet, mPar, mAsg, mExpr, mIf, mNx, mFl, mStuck, andL, orL, var_v, var_o, var_t, sop_v, sop_o, sop_t, cmp_v, cmp_o, cmp_t, chain_v, chain_o, chain_t, and_v, and_o, and_t, or_v, or_o, or_t, not_v, not_o, not_t, ite_v, ite_o, ite_t, tup_v, tup_o, lst_v, lst_o, oOf_eq, tOf_eq, tstV_eq, vOp, evOs, evRs, evDs, vChain, rds, rd, SV.data, SV.isScr, oVar, vVar, sSl, vSl, evP, vRev, revD, List.filterMap_cons, vCallP, vCall, evAs, callA_def, apart, Arg.ix, passAs, passA, backA, reown, permL, BOp.f, BOp.st, COp.f, BF.f, isaD, typeD, isNoneD, putR, putAll, storable, asgS_name, asgS_sub, asgS_tup, asgSs_nil, asgSs_cons, itemsM, asgT, asgTs, putS, vApp, seqD, atD, L2.atI, L2.ixN]
    generalize hm : Int.fmod _ 2147483489 = m
    have m3 (j : Int) : mulOk m j = true := by
      simp [mulOk]
      left
      rw [← hm, Int.fmod_eq_emod_of_nonneg _ (by omega)]
      omega
    refine nxt_nx (tot_cons ?_)
    simp [m3, o1, o2, S.den, E.den, Es.den, Ds.den, OE.den, Gs.den, So.den, TI'.den, TIs.den, mSeq, mRet, mRetVar, mSet, mPar, mAsg, mExpr, mIf, mNx, mFl, mStuck, andL, orL, var_v, var_o, var_t, sop_v, sop_o, sop_t, cmp_v, cmp_o, cmp_t, chain_v, chain_o, chain_t, and_v, and_o, and_t, or_v, or_o, or_t, not_v, not_o, not_t, ite_v, ite_o, ite_t, tup_v, tup_o, lst_v, lst_o, oOf_eq, tOf_eq, tstV_eq, vOp, evOs, evRs, evDs, vChain, rds, rd, SV.data, SV.isScr, oVar, vVar, sSl, vSl, evP, vRev, revD, List.filterMap_cons, vCallP, vCall, evAs, callA_def, apart, Arg.ix, passAs, passA, backA, reown, permL, BOp.f, BOp.st, COp.f, BF.f, isaD, typeD, isNoneD, putR, putAll, storable, asgS_name, asgS_sub, asgS_tup, asgSs_nil, asgSs_cons, itemsM, asgT, asgTs, putS, vApp, seqD, atD, L2.atI, L2.ixN]
    refine nxt_nx (tot_cons ?_)
    have d1 (i : Int) : divOk i 1009 = true := divOk_of (by omega) (Nat.lt_of_lt_of_le (show 1009 < 2 ^ 10 by decide) (Nat.pow_le_pow_right (by decide) (by decide)))
    simp [d1, o3, S.den, E.den, Es.den, Ds.den, OE.den, Gs.den, So.den, TI'.den, TIs.den, mSeq, mRet, mRetVar, mSet, mPar, mAsg, mExpr, mIf, mNx, mFl, mStuck, andL, orL, var_v, var_o, var_t, sop_v, sop_o, sop_t, cmp_v, cmp_o, cmp_t, chain_v, chain_o, chain_t, and_v, and_o, and_t, or_v, or_o, or_t, not_v, not_o, not_t, ite_v, ite_o, ite_t, tup_v, tup_o, lst_v, lst_o, oOf_eq, tOf_eq, tstV_eq, vOp, evOs, evRs, evDs, vChain, rds, rd, SV.data, SV.isScr, oVar, vVar, sSl, vSl, evP, vRev, revD, List.filterMap_cons, vCallP, vCall, evAs, callA_def, apart, Arg.ix, passAs, passA, backA, reown, permL, BOp.f, BOp.st, COp.f, BF.f, isaD, typeD, isNoneD, putR, putAll, storable, asgS_name, asgS_sub, asgS_tup, asgSs_nil, asgSs_cons, itemsM, asgT, asgTs, putS, vApp, seqD, atD, L2.atI, L2.ixN]
    rw [Int.fmod_eq_emod_of_nonneg _ (Int.le_of_lt h0)]
    refine ⟨_, _, rfl, ⟨_, rfl, Int.emod_nonneg _ (by omega), Int.emod_lt_of_pos _ h0⟩, ⟨_, _, _, rfl, ha, ?_, ?_, by omega⟩, rfl⟩
    · rw [Int.fmod_eq_emod_of_nonneg _ (by decide)]; omega
    · rw [Int.fmod_eq_emod_of_nonneg _ (by decide)]; omega
theorem tot_io {β : Type} {r0 : Res SV} {bs : List SV} {as : List Tw.Arg} {env : EV} {R : PyData → Prop} {f : SV → EV → Res β} {Q : β → EV → Prop} (h : tot r0 (Io bs R)) (k : ∀ d w, R d → Well w → ∃ env1, backA as (some (.io w) :: bs.map some) env = some env1 ∧ tot (f (.frz d) env1) Q) : tot ((callB r0 as env).bd f) Q := by
  refine tot_callB h ?_
  rintro _ _ ⟨d, w, rfl, hR, hw, rfl⟩
  exact k d w hR hw
theorem Io.imp {as : List SV} {R R' : PyData → Prop} {r : SV} {p : EV} (h : Io as R r p) (k : ∀ d, R d → R' d) : Io as R' r p := by
  obtain ⟨d, w, e, hR, q⟩ := h
  exact ⟨d, w, e, k d hR, q⟩
theorem tot_io_imp {r0 : Res SV} {as : List SV} {R R' : PyData → Prop} (h : tot r0 (Io as R)) (k : ∀ d, R d → R' d) : tot r0 (Io as R') := tot_imp h fun _ _ q => q.imp k
@[simp] theorem pB_own {ds : List PyData} {x : Option SV} {r : List SV} {e : EV} : pBack (.lent ds :: r) (x :: e) = (pBack r e).map (some (.lent ds) :: ·) := rfl
theorem s__law_one {w : List PyData} (hw : Well w) (s : SV) (ds : List PyData) (hs : s = .frz (.tuple ds) ∨ s = .lent ds) (h0 : ds ≠ []) (h1 : ds.length < 1073741824) :
    tot (c__law_one [.io w, s]) (Io [s] fun d => d ∈ ds) := by
  have p0 : 0 < ds.length := List.length_pos_iff.mpr h0
  rw [e__law_one]
  refine tot_defC ?_
  have D := s__law_draw hw (ds.length : Int) (by omega) (by omega)
  rcases hs with rfl | rfl
  · simp [b__law_one, k__law_one_0, gl_0, gl_1, gl_2, Ss.den, S.den, E.den, Es.den, Ds.den, OE.den, Gs.den, So.den, TI'.den, TIs.den, mSeq, mRet, mRetVar, mSet, mPar, mAsg, mExpr, mIf, mNx, mFl, mStuck, andL, orL, var_v, var_o, var_t, sop_v, sop_o, sop_t, cmp_v, cmp_o, cmp_t, chain_v, chain_o, chain_t, and_v, and_o, and_t, or_v, or_o, or_t, not_v, not_o, not_t, ite_v, ite_o, ite_t, tup_v, tup_o, lst_v, lst_o, oOf_eq, tOf_eq, tstV_eq, vOp, evOs, evRs, evDs, vChain, rds, rd, SV.data, SV.isScr, oVar, vVar, sSl, vSl, evP, vRev, revD, List.filterMap_cons, vCallP, vCall, evAs, callA_def, apart, Arg.ix, passAs, passA, backA, reown, permL, BOp.f, BOp.st, COp.f, BF.f, isaD, typeD, isNoneD, putR, putAll, storable, asgS_name, asgS_sub, asgS_tup, asgSs_nil, asgSs_cons, itemsM, asgT, asgTs, putS, vApp, seqD, atD, L2.atI, L2.ixN]
    refine tot_io D ?_
    rintro _ w' ⟨k, rfl, k0, k1⟩ hw'
    refine ⟨_, rfl, ?_⟩
    obtain ⟨n, rfl⟩ := Int.eq_ofNat_of_zero_le k0
    have hn : n < ds.length := by omega
    simp [hn, b__law_one, k__law_one_0, gl_0, gl_1, gl_2, Ss.den, S.den, E.den, Es.den, Ds.den, OE.den, Gs.den, So.den, TI'.den, TIs.den, mSeq, mRet, mRetVar, mSet, mPar, mAsg, mExpr, mIf, mNx, mFl, mStuck, andL, orL, var_v, var_o, var_t, sop_v, sop_o, sop_t, cmp_v, cmp_o, cmp_t, chain_v, chain_o, chain_t, and_v, and_o, and_t, or_v, or_o, or_t, not_v, not_o, not_t, ite_v, ite_o, ite_t, tup_v, tup_o, lst_v, lst_o, oOf_eq, tOf_eq, tstV_eq, vOp, evOs, evRs, evDs, vChain, rds, rd, SV.data, SV.isScr, oVar, vVar, sSl, vSl, evP, vRev, revD, List.filterMap_cons, vCallP, vCall, evAs, callA_def, apart, Arg.ix, passAs, passA, backA, reown, permL, BOp.f, BOp.st, COp.f, BF.f, isaD, typeD, isNoneD, putR, putAll, storable, asgS_name, asgS_sub, asgS_tup, asgSs_nil, asgSs_cons, itemsM, asgT, asgTs, putS, vApp, seqD, atD, L2.atI, L2.ixN]
    exact ⟨_, _, rfl, List.getElem_mem hn, hw', rfl⟩
  · simp [b__law_one, k__law_one_0, gl_0, gl_1, gl_2, Ss.den, S.den, E.den, Es.den, Ds.den, OE.den, Gs.den, So.den, TI'.den, TIs.den, mSeq, mRet, mRetVar, mSet, mPar, mAsg, mExpr, mIf, mNx, mFl, mStuck, andL, orL, var_v, var_o, var_t, sop_v, sop_o, sop_t, cmp_v, cmp_o, cmp_t, chain_v, chain_o, chain_t, and_v, and_o, and_t, or_v, or_o, or_t, not_v, not_o, not_t, ite_v, ite_o, ite_t, tup_v, tup_o, lst_v, lst_o, oOf_eq, tOf_eq, tstV_eq, vOp, evOs, evRs, evDs, vChain, rds, rd, SV.data, SV.isScr, oVar, vVar, sSl, vSl, evP, vRev, revD, List.filterMap_cons, vCallP, vCall, evAs, callA_def, apart, Arg.ix, passAs, passA, backA, reown, permL, BOp.f, BOp.st, COp.f, BF.f, isaD, typeD, isNoneD, putR, putAll, storable, asgS_name, asgS_sub, asgS_tup, asgSs_nil, asgSs_cons, itemsM, asgT, asgTs, putS, vApp, seqD, atD, L2.atI, L2.ixN]
    refine tot_io D ?_
    rintro _ w' ⟨k, rfl, k0, k1⟩ hw'
    refine ⟨_, rfl, ?_⟩
    obtain ⟨n, rfl⟩ := Int.eq_ofNat_of_zero_le k0
    have hn : n < ds.length := by omega
    simp [hn, b__law_one, k__law_one_0, gl_0, gl_1, gl_2, Ss.den, S.den, E.den, Es.den, Ds.den, OE.den, Gs.den, So.den, TI'.den, TIs.den, mSeq, mRet, mRetVar, mSet, mPar, mAsg, mExpr, mIf, mNx, mFl, mStuck, andL, orL, var_v, var_o, var_t, sop_v, sop_o, sop_t, cmp_v, cmp_o, cmp_t, chain_v, chain_o, chain_t, and_v, and_o, and_t, or_v, or_o, or_t, not_v, not_o, not_t, ite_v, ite_o, ite_t, tup_v, tup_o, lst_v, lst_o, oOf_eq, tOf_eq, tstV_eq, vOp, evOs, evRs, evDs, vChain, rds, rd, SV.data, SV.isScr, oVar, vVar, sSl, vSl, evP, vRev, revD, List.filterMap_cons, vCallP, vCall, evAs, callA_def, apart, Arg.ix, passAs, passA, backA, reown, permL, BOp.f, BOp.st, COp.f, BF.f, isaD, typeD, isNoneD, putR, putAll, storable, asgS_name, asgS_sub, asgS_tup, asgSs_nil, asgSs_cons, itemsM, asgT, asgTs, putS, vApp, seqD, atD, L2.atI, L2.ixN]
    exact ⟨_, _, rfl, List.getElem_mem hn, hw', rfl⟩
end K02
end SP7

section SP8
set_option exponentiation.threshold 20000
namespace K02
open PySem Tw
/-! ## generated fractions -/
/-- a fraction in lowest terms, both signs below 2 ^ n -/
def Fr (n : Nat) (d : PyData) : Prop := ∃ p q : Int, d = .tuple [.int p, .int q] ∧ 0 < q ∧ Int.gcd p q = 1 ∧ p.natAbs < 2 ^ n ∧ q.natAbs < 2 ^ n
theorem Fr.mono {n m : Nat} (h : n ≤ m) {d : PyData} : Fr n d → Fr m d := by
  rintro ⟨p, q, e, h1, h2, h3, h4⟩
  have := Nat.pow_le_pow_right (n := 2) (by decide) h
  exact ⟨p, q, e, h1, h2, by omega, by omega⟩
theorem Fr.isR {n : Nat} {d : PyData} : Fr n d → isR d = true := by
  rintro ⟨p, q, rfl, h1, h2, h3, h4⟩
  simp [K02.isR, h1]
  exact h2
theorem lo_fr {t b : Int} (hb : 0 < b) : 0 < lo2 t b ∧ Int.gcd (lo1 t b) (lo2 t b) = 1 ∧ (lo1 t b).natAbs ≤ t.natAbs ∧ (lo2 t b).natAbs ≤ b.natAbs := by
  unfold lo1 lo2
  have g0 : 0 < Int.gcd t b := Int.gcd_pos_of_ne_zero_right t (by omega)
  refine ⟨?_, ?_, ?_, ?_⟩
  · exact Int.ediv_pos_of_pos_of_dvd hb (by omega) (Int.gcd_dvd_right ..)
  · rw [Int.gcd_ediv (Int.gcd_dvd_left ..) (Int.gcd_dvd_right ..)]
    simp; exact Nat.div_self g0
  · exact Int.natAbs_ediv_le_natAbs _ _
  · exact Int.natAbs_ediv_le_natAbs _ _
theorem s__law_number {w : List PyData} (hw : Well w) : tot (c__law_number [.io w]) (Io [] (Fr 20)) := by
  rw [e__law_number]
  refine tot_defC ?_
  unfold b__law_number
  refine tot_cons ?_
  simp [k__law_number_0, k__law_number_1, k__law_number_2, gl_0, gl_1, gl_2, S.den, E.den, Es.den, Ds.den, OE.den, Gs.den, So.den, TI'.den, TIs.den, mSeq, mRet, mRetVar, mSet, mPar, mAsg, mExpr, mIf, mNx, mFl, mStuck, andL, orL, var_v, var_o, var_t, sop_v, sop_o, sop_t, cmp_v, cmp_o, cmp_t, chain_v, chain_o, chain_t, and_v, and_o, and_t, or_v, or_o, or_t, not_v, not_o, not_t, ite_v, ite_o, ite_t, tup_v, tup_o, lst_v, lst_o, oOf_eq, tOf_eq, tstV_eq, vOp, evOs, evRs, evDs, vChain, rds, rd, SV.data, SV.isScr, oVar, vVar, sSl, vSl, evP, vRev, revD, List.filterMap_cons, vCallP, vCall, evAs, callA_def, apart, Arg.ix, passAs, passA, backA, reown, permL, BOp.f, BOp.st, COp.f, BF.f, isaD, typeD, isNoneD, putR, putAll, storable, asgS_name, asgS_sub, asgS_tup, asgSs_nil, asgSs_cons, itemsM, asgT, asgTs, putS, vApp, seqD, atD, L2.atI, L2.ixN]
  refine tot_io (s__law_draw hw 16 (by omega) (by omega)) ?_
  rintro _ w ⟨k, rfl, k0, k1⟩ hw
  refine ⟨_, rfl, ?_⟩
  simp [k__law_number_0, k__law_number_1, k__law_number_2, gl_0, gl_1, gl_2, S.den, E.den, Es.den, Ds.den, OE.den, Gs.den, So.den, TI'.den, TIs.den, mSeq, mRet, mRetVar, mSet, mPar, mAsg, mExpr, mIf, mNx, mFl, mStuck, andL, orL, var_v, var_o, var_t, sop_v, sop_o, sop_t, cmp_v, cmp_o, cmp_t, chain_v, chain_o, chain_t, and_v, and_o, and_t, or_v, or_o, or_t, not_v, not_o, not_t, ite_v, ite_o, ite_t, tup_v, tup_o, lst_v, lst_o, oOf_eq, tOf_eq, tstV_eq, vOp, evOs, evRs, evDs, vChain, rds, rd, SV.data, SV.isScr, oVar, vVar, sSl, vSl, evP, vRev, revD, List.filterMap_cons, vCallP, vCall, evAs, callA_def, apart, Arg.ix, passAs, passA, backA, reown, permL, BOp.f, BOp.st, COp.f, BF.f, isaD, typeD, isNoneD, putR, putAll, storable, asgS_name, asgS_sub, asgS_tup, asgSs_nil, asgSs_cons, itemsM, asgT, asgTs, putS, vApp, seqD, atD, L2.atI, L2.ixN]
  refine nxt_nx (tot_cons ?_)
  by_cases q : k < 15
  · simp [q, k__law_number_0, k__law_number_1, k__law_number_2, gl_0, gl_1, gl_2, S.den, E.den, Es.den, Ds.den, OE.den, Gs.den, So.den, TI'.den, TIs.den, mSeq, mRet, mRetVar, mSet, mPar, mAsg, mExpr, mIf, mNx, mFl, mStuck, andL, orL, var_v, var_o, var_t, sop_v, sop_o, sop_t, cmp_v, cmp_o, cmp_t, chain_v, chain_o, chain_t, and_v, and_o, and_t, or_v, or_o, or_t, not_v, not_o, not_t, ite_v, ite_o, ite_t, tup_v, tup_o, lst_v, lst_o, oOf_eq, tOf_eq, tstV_eq, vOp, evOs, evRs, evDs, vChain, rds, rd, SV.data, SV.isScr, oVar, vVar, sSl, vSl, evP, vRev, revD, List.filterMap_cons, vCallP, vCall, evAs, callA_def, apart, Arg.ix, passAs, passA, backA, reown, permL, BOp.f, BOp.st, COp.f, BF.f, isaD, typeD, isNoneD, putR, putAll, storable, asgS_name, asgS_sub, asgS_tup, asgSs_nil, asgSs_cons, itemsM, asgT, asgTs, putS, vApp, seqD, atD, L2.atI, L2.ixN]
    refine tot_cons ?_
    simp [sizeLine, k__law_number_0, k__law_number_1, k__law_number_2, gl_0, gl_1, gl_2, S.den, E.den, Es.den, Ds.den, OE.den, Gs.den, So.den, TI'.den, TIs.den, mSeq, mRet, mRetVar, mSet, mPar, mAsg, mExpr, mIf, mNx, mFl, mStuck, andL, orL, var_v, var_o, var_t, sop_v, sop_o, sop_t, cmp_v, cmp_o, cmp_t, chain_v, chain_o, chain_t, and_v, and_o, and_t, or_v, or_o, or_t, not_v, not_o, not_t, ite_v, ite_o, ite_t, tup_v, tup_o, lst_v, lst_o, oOf_eq, tOf_eq, tstV_eq, vOp, evOs, evRs, evDs, vChain, rds, rd, SV.data, SV.isScr, oVar, vVar, sSl, vSl, evP, vRev, revD, List.filterMap_cons, vCallP, vCall, evAs, callA_def, apart, Arg.ix, passAs, passA, backA, reown, permL, BOp.f, BOp.st, COp.f, BF.f, isaD, typeD, isNoneD, putR, putAll, storable, asgS_name, asgS_sub, asgS_tup, asgSs_nil, asgSs_cons, itemsM, asgT, asgTs, putS, vApp, seqD, atD, L2.atI, L2.ixN]
    refine tot_io (s__law_one hw _ _ (.inl rfl) (by simp) (by decide)) ?_
    rintro d w hd hw
    refine ⟨_, rfl, ?_⟩
    simp
    refine ⟨_, _, rfl, ?_, hw, rfl⟩
    simp at hd
    rcases hd with rfl | rfl | rfl | rfl | rfl | rfl | rfl <;> exact ⟨_, _, rfl, by decide, by decide, by decide, by decide⟩
  · simp [q, k__law_number_0, k__law_number_1, k__law_number_2, gl_0, gl_1, gl_2, S.den, E.den, Es.den, Ds.den, OE.den, Gs.den, So.den, TI'.den, TIs.den, mSeq, mRet, mRetVar, mSet, mPar, mAsg, mExpr, mIf, mNx, mFl, mStuck, andL, orL, var_v, var_o, var_t, sop_v, sop_o, sop_t, cmp_v, cmp_o, cmp_t, chain_v, chain_o, chain_t, and_v, and_o, and_t, or_v, or_o, or_t, not_v, not_o, not_t, ite_v, ite_o, ite_t, tup_v, tup_o, lst_v, lst_o, oOf_eq, tOf_eq, tstV_eq, vOp, evOs, evRs, evDs, vChain, rds, rd, SV.data, SV.isScr, oVar, vVar, sSl, vSl, evP, vRev, revD, List.filterMap_cons, vCallP, vCall, evAs, callA_def, apart, Arg.ix, passAs, passA, backA, reown, permL, BOp.f, BOp.st, COp.f, BF.f, isaD, typeD, isNoneD, putR, putAll, storable, asgS_name, asgS_sub, asgS_tup, asgSs_nil, asgSs_cons, itemsM, asgT, asgTs, putS, vApp, seqD, atD, L2.atI, L2.ixN]
    refine tot_nil (nxt_nx (tot_cons ?_))
    simp [k__law_number_0, k__law_number_1, k__law_number_2, gl_0, gl_1, gl_2, S.den, E.den, Es.den, Ds.den, OE.den, Gs.den, So.den, TI'.den, TIs.den, mSeq, mRet, mRetVar, mSet, mPar, mAsg, mExpr, mIf, mNx, mFl, mStuck, andL, orL, var_v, var_o, var_t, sop_v, sop_o, sop_t, cmp_v, cmp_o, cmp_t, chain_v, chain_o, chain_t, and_v, and_o, and_t, or_v, or_o, or_t, not_v, not_o, not_t, ite_v, ite_o, ite_t, tup_v, tup_o, lst_v, lst_o, oOf_eq, tOf_eq, tstV_eq, vOp, evOs, evRs, evDs, vChain, rds, rd, SV.data, SV.isScr, oVar, vVar, sSl, vSl, evP, vRev, revD, List.filterMap_cons, vCallP, vCall, evAs, callA_def, apart, Arg.ix, passAs, passA, backA, reown, permL, BOp.f, BOp.st, COp.f, BF.f, isaD, typeD, isNoneD, putR, putAll, storable, asgS_name, asgS_sub, asgS_tup, asgSs_nil, asgSs_cons, itemsM, asgT, asgTs, putS, vApp, seqD, atD, L2.atI, L2.ixN]
    refine tot_io (s__law_draw hw 2000001 (by omega) (by omega)) ?_
    rintro _ w ⟨i, rfl, i0, i1⟩ hw
    refine ⟨_, rfl, ?_⟩
    simp [k__law_number_0, k__law_number_1, k__law_number_2, gl_0, gl_1, gl_2, S.den, E.den, Es.den, Ds.den, OE.den, Gs.den, So.den, TI'.den, TIs.den, mSeq, mRet, mRetVar, mSet, mPar, mAsg, mExpr, mIf, mNx, mFl, mStuck, andL, orL, var_v, var_o, var_t, sop_v, sop_o, sop_t, cmp_v, cmp_o, cmp_t, chain_v, chain_o, chain_t, and_v, and_o, and_t, or_v, or_o, or_t, not_v, not_o, not_t, ite_v, ite_o, ite_t, tup_v, tup_o, lst_v, lst_o, oOf_eq, tOf_eq, tstV_eq, vOp, evOs, evRs, evDs, vChain, rds, rd, SV.data, SV.isScr, oVar, vVar, sSl, vSl, evP, vRev, revD, List.filterMap_cons, vCallP, vCall, evAs, callA_def, apart, Arg.ix, passAs, passA, backA, reown, permL, BOp.f, BOp.st, COp.f, BF.f, isaD, typeD, isNoneD, putR, putAll, storable, asgS_name, asgS_sub, asgS_tup, asgSs_nil, asgSs_cons, itemsM, asgT, asgTs, putS, vApp, seqD, atD, L2.atI, L2.ixN]
    refine tot_io (s__law_draw hw 60 (by omega) (by omega)) ?_
    rintro _ w ⟨j, rfl, j0, j1⟩ hw
    refine ⟨_, rfl, ?_⟩
    have jb : (1 + j).natAbs < 2 ^ 20 := by omega
    simp [s__law_lean (i - 1000000) (1 + j) (by omega) (Nat.lt_of_lt_of_le jb (Nat.pow_le_pow_right (by decide) (by decide))), k__law_number_0, k__law_number_1, k__law_number_2, gl_0, gl_1, gl_2, S.den, E.den, Es.den, Ds.den, OE.den, Gs.den, So.den, TI'.den, TIs.den, mSeq, mRet, mRetVar, mSet, mPar, mAsg, mExpr, mIf, mNx, mFl, mStuck, andL, orL, var_v, var_o, var_t, sop_v, sop_o, sop_t, cmp_v, cmp_o, cmp_t, chain_v, chain_o, chain_t, and_v, and_o, and_t, or_v, or_o, or_t, not_v, not_o, not_t, ite_v, ite_o, ite_t, tup_v, tup_o, lst_v, lst_o, oOf_eq, tOf_eq, tstV_eq, vOp, evOs, evRs, evDs, vChain, rds, rd, SV.data, SV.isScr, oVar, vVar, sSl, vSl, evP, vRev, revD, List.filterMap_cons, vCallP, vCall, evAs, callA_def, apart, Arg.ix, passAs, passA, backA, reown, permL, BOp.f, BOp.st, COp.f, BF.f, isaD, typeD, isNoneD, putR, putAll, storable, asgS_name, asgS_sub, asgS_tup, asgSs_nil, asgSs_cons, itemsM, asgT, asgTs, putS, vApp, seqD, atD, L2.atI, L2.ixN]
    obtain ⟨l1, l2, l3, l4⟩ := lo_fr (t := i - 1000000) (b := 1 + j) (by omega)
    exact ⟨_, _, rfl, ⟨_, _, rfl, l1, l2, by omega, by omega⟩, hw, rfl⟩
def AllP (R : PyData → Prop) (ds : List PyData) : Prop := ∀ d ∈ ds, R d
/-- a list that grows by one a turn -/
theorem s__law_numbers {w : List PyData} (hw : Well w) (n : Int) (h0 : 0 ≤ n) (h1 : n ≤ 1000) : tot (c__law_numbers [.io w, .frz (.int n)]) (Io [.frz (.int n)] fun d => ∃ ds, d = .tuple ds ∧ (ds.length : Int) = n ∧ ∀ x ∈ ds, Fr 20 x) := by
  rw [e__law_numbers]
  refine tot_defC ?_
  unfold b__law_numbers
  refine tot_cons ?_
  simp [sizeLine, k__law_numbers_3, gl_0, gl_1, gl_2, S.den, E.den, Es.den, Ds.den, OE.den, Gs.den, So.den, TI'.den, TIs.den, mSeq, mRet, mRetVar, mSet, mPar, mAsg, mExpr, mIf, mNx, mFl, mStuck, andL, orL, var_v, var_o, var_t, sop_v, sop_o, sop_t, cmp_v, cmp_o, cmp_t, chain_v, chain_o, chain_t, and_v, and_o, and_t, or_v, or_o, or_t, not_v, not_o, not_t, ite_v, ite_o, ite_t, tup_v, tup_o, lst_v, lst_o, oOf_eq, tOf_eq, tstV_eq, vOp, evOs, evRs, evDs, vChain, rds, rd, SV.data, SV.isScr, oVar, vVar, sSl, vSl, evP, vRev, revD, List.filterMap_cons, vCallP, vCall, evAs, callA_def, apart, Arg.ix, passAs, passA, backA, reown, permL, BOp.f, BOp.st, COp.f, BF.f, isaD, typeD, isNoneD, putR, putAll, storable, asgS_name, asgS_sub, asgS_tup, asgSs_nil, asgSs_cons, itemsM, asgT, asgTs, putS, vApp, seqD, atD, L2.atI, L2.ixN]
  have ro : rngOk n = true := by simp [rngOk]; omega
  refine nxt_nx (tot_cons (tot_forR (n := n) (env1 := [some (.io w), some (.frz (.int n)), some (.own []), none]) ?_
    (fun i env => ∃ w x ds, env = [some (.io w), some (.frz (.int n)), some (.own ds), x] ∧ Well w ∧ (ds.length = i ∧ ∀ x ∈ ds, Fr 20 x) ∧ ∀ es, x ≠ some (.io es)) ⟨w, none, [], rfl, hw, ⟨rfl, fun _ h => (by cases h)⟩, fun _ => (by simp)⟩ ?_ ?_))
  · simp [vRng1, ro, k__law_numbers_3, gl_0, gl_1, gl_2, S.den, E.den, Es.den, Ds.den, OE.den, Gs.den, So.den, TI'.den, TIs.den, mSeq, mRet, mRetVar, mSet, mPar, mAsg, mExpr, mIf, mNx, mFl, mStuck, andL, orL, var_v, var_o, var_t, sop_v, sop_o, sop_t, cmp_v, cmp_o, cmp_t, chain_v, chain_o, chain_t, and_v, and_o, and_t, or_v, or_o, or_t, not_v, not_o, not_t, ite_v, ite_o, ite_t, tup_v, tup_o, lst_v, lst_o, oOf_eq, tOf_eq, tstV_eq, vOp, evOs, evRs, evDs, vChain, rds, rd, SV.data, SV.isScr, oVar, vVar, sSl, vSl, evP, vRev, revD, List.filterMap_cons, vCallP, vCall, evAs, callA_def, apart, Arg.ix, passAs, passA, backA, reown, permL, BOp.f, BOp.st, COp.f, BF.f, isaD, typeD, isNoneD, putR, putAll, storable, asgS_name, asgS_sub, asgS_tup, asgSs_nil, asgSs_cons, itemsM, asgT, asgTs, putS, vApp, seqD, atD, L2.atI, L2.ixN]
  · rintro i env hi ⟨w, x, ds, rfl, hw, ⟨rfl, hd⟩, hx⟩
    refine ⟨[some (.io w), some (.frz (.int n)), some (.own ds), some (.frz (.int ds.length))], ?_, ?_⟩
    · simp [asgT, k__law_numbers_3, gl_0, gl_1, gl_2, S.den, E.den, Es.den, Ds.den, OE.den, Gs.den, So.den, TI'.den, TIs.den, mSeq, mRet, mRetVar, mSet, mPar, mAsg, mExpr, mIf, mNx, mFl, mStuck, andL, orL, var_v, var_o, var_t, sop_v, sop_o, sop_t, cmp_v, cmp_o, cmp_t, chain_v, chain_o, chain_t, and_v, and_o, and_t, or_v, or_o, or_t, not_v, not_o, not_t, ite_v, ite_o, ite_t, tup_v, tup_o, lst_v, lst_o, oOf_eq, tOf_eq, tstV_eq, vOp, evOs, evRs, evDs, vChain, rds, rd, SV.data, SV.isScr, oVar, vVar, sSl, vSl, evP, vRev, revD, List.filterMap_cons, vCallP, vCall, evAs, callA_def, apart, Arg.ix, passAs, passA, backA, reown, permL, BOp.f, BOp.st, COp.f, BF.f, isaD, typeD, isNoneD, putR, putAll, storable, asgS_name, asgS_sub, asgS_tup, asgSs_nil, asgSs_cons, itemsM, asgT, asgTs, putS, vApp, seqD, atD, L2.atI, L2.ixN]
    · refine tot_cons ?_
      simp [k__law_numbers_3, gl_0, gl_1, gl_2, S.den, E.den, Es.den, Ds.den, OE.den, Gs.den, So.den, TI'.den, TIs.den, mSeq, mRet, mRetVar, mSet, mPar, mAsg, mExpr, mIf, mNx, mFl, mStuck, andL, orL, var_v, var_o, var_t, sop_v, sop_o, sop_t, cmp_v, cmp_o, cmp_t, chain_v, chain_o, chain_t, and_v, and_o, and_t, or_v, or_o, or_t, not_v, not_o, not_t, ite_v, ite_o, ite_t, tup_v, tup_o, lst_v, lst_o, oOf_eq, tOf_eq, tstV_eq, vOp, evOs, evRs, evDs, vChain, rds, rd, SV.data, SV.isScr, oVar, vVar, sSl, vSl, evP, vRev, revD, List.filterMap_cons, vCallP, vCall, evAs, callA_def, apart, Arg.ix, passAs, passA, backA, reown, permL, BOp.f, BOp.st, COp.f, BF.f, isaD, typeD, isNoneD, putR, putAll, storable, asgS_name, asgS_sub, asgS_tup, asgSs_nil, asgSs_cons, itemsM, asgT, asgTs, putS, vApp, seqD, atD, L2.atI, L2.ixN]
      refine tot_io (s__law_number hw) ?_
      rintro d w hf hw
      have hl : ds.length < 16777216 := by omega
      refine ⟨_, rfl, ?_⟩
      simp [hl, sizeLine, k__law_numbers_3, gl_0, gl_1, gl_2, S.den, E.den, Es.den, Ds.den, OE.den, Gs.den, So.den, TI'.den, TIs.den, mSeq, mRet, mRetVar, mSet, mPar, mAsg, mExpr, mIf, mNx, mFl, mStuck, andL, orL, var_v, var_o, var_t, sop_v, sop_o, sop_t, cmp_v, cmp_o, cmp_t, chain_v, chain_o, chain_t, and_v, and_o, and_t, or_v, or_o, or_t, not_v, not_o, not_t, ite_v, ite_o, ite_t, tup_v, tup_o, lst_v, lst_o, oOf_eq, tOf_eq, tstV_eq, vOp, evOs, evRs, evDs, vChain, rds, rd, SV.data, SV.isScr, oVar, vVar, sSl, vSl, evP, vRev, revD, List.filterMap_cons, vCallP, vCall, evAs, callA_def, apart, Arg.ix, passAs, passA, backA, reown, permL, BOp.f, BOp.st, COp.f, BF.f, isaD, typeD, isNoneD, putR, putAll, storable, asgS_name, asgS_sub, asgS_tup, asgSs_nil, asgSs_cons, itemsM, asgT, asgTs, putS, vApp, seqD, atD, L2.atI, L2.ixN]
      refine nxt_nx (tot_nil ⟨w, _, _, rfl, hw, ⟨by simp, fun x hx => ?_⟩, fun _ => (by simp)⟩)
      rcases List.mem_append.mp hx with hx | hx
      · exact hd x hx
      · rw [List.mem_singleton.mp hx]; exact hf
  · rintro env ⟨w, x, ds, rfl, hw, ⟨h1, hd⟩, hx⟩
    simp [restS, mergeS]
    refine nxt_nx (tot_cons ?_)
    simp [k__law_numbers_3, gl_0, gl_1, gl_2, S.den, E.den, Es.den, Ds.den, OE.den, Gs.den, So.den, TI'.den, TIs.den, mSeq, mRet, mRetVar, mSet, mPar, mAsg, mExpr, mIf, mNx, mFl, mStuck, andL, orL, var_v, var_o, var_t, sop_v, sop_o, sop_t, cmp_v, cmp_o, cmp_t, chain_v, chain_o, chain_t, and_v, and_o, and_t, or_v, or_o, or_t, not_v, not_o, not_t, ite_v, ite_o, ite_t, tup_v, tup_o, lst_v, lst_o, oOf_eq, tOf_eq, tstV_eq, vOp, evOs, evRs, evDs, vChain, rds, rd, SV.data, SV.isScr, oVar, vVar, sSl, vSl, evP, vRev, revD, List.filterMap_cons, vCallP, vCall, evAs, callA_def, apart, Arg.ix, passAs, passA, backA, reown, permL, BOp.f, BOp.st, COp.f, BF.f, isaD, typeD, isNoneD, putR, putAll, storable, asgS_name, asgS_sub, asgS_tup, asgSs_nil, asgSs_cons, itemsM, asgT, asgTs, putS, vApp, seqD, atD, L2.atI, L2.ixN]
    exact ⟨_, _, rfl, ⟨ds, rfl, by omega, hd⟩, hw, rfl⟩
theorem nat_mul_lt {a b n m : Nat} (h1 : a < 2 ^ n) (h2 : b < 2 ^ m) : a * b < 2 ^ (n + m) := by
  rw [Nat.pow_add]
  rcases Nat.eq_zero_or_pos b with rfl | hb
  · rw [Nat.mul_zero]; exact Nat.mul_pos (Nat.two_pow_pos n) (Nat.two_pow_pos m)
  · exact Nat.mul_lt_mul'' h1 h2
theorem mulOk_of {i j : Int} {n : Nat} (h1 : i.natAbs < 2 ^ n) (h2 : j.natAbs < 2 ^ n) (hn : n ≤ 10000) : mulOk i j = true := by
  have b (k : Int) (h : k.natAbs < 2 ^ n) : bitsOf k ≤ n + 1 := by
    unfold bitsOf
    rcases Nat.eq_zero_or_pos k.natAbs with e | e
    · rw [e]; exact Nat.zero_le _
    · have := (Nat.log2_lt (by omega)).mpr h; omega
  have b1 := b i h1
  have b2 := b j h2
  simp [mulOk]
  omega
theorem s__law_minus {n : Nat} (hn : n ≤ 4000) {x y : PyData} (hx : Fr n x) (hy : Fr n y) : ∃ d, c__law_minus [.frz x, .frz y] = some (.ok (.frz d) [some (.frz x), some (.frz y)]) ∧ Fr (n + n + 1) d := by
  obtain ⟨p, q, rfl, h1, h2, h3, h4⟩ := hx
  obtain ⟨r, s, rfl, k1, k2, k3, k4⟩ := hy
  have m1 : mulOk p s = true := mulOk_of h3 k4 (by omega)
  have m2 : mulOk r q = true := mulOk_of k3 h4 (by omega)
  have m3 : mulOk q s = true := mulOk_of h4 k4 (by omega)
  have l1 : (q * s).natAbs < 2 ^ (n + n) := by rw [Int.natAbs_mul]; exact nat_mul_lt h4 k4
  have l2 : (p * s).natAbs < 2 ^ (n + n) := by rw [Int.natAbs_mul]; exact nat_mul_lt h3 k4
  have l3 : (r * q).natAbs < 2 ^ (n + n) := by rw [Int.natAbs_mul]; exact nat_mul_lt k3 h4
  have l4 : 2 ^ (n + n + 1) = 2 ^ (n + n) + 2 ^ (n + n) := by rw [Nat.pow_succ]; omega
  have qs : 0 < q * s := Int.mul_pos h1 k1
  have l5 := Nat.lt_of_lt_of_le l1 (Nat.pow_le_pow_right (n := 2) (by decide) (show n + n ≤ 9000 by omega))
  obtain ⟨c1, c2, c3, c4⟩ := lo_fr (t := p * s - r * q) (b := q * s) qs
  refine ⟨_, ?_, ⟨_, _, rfl, c1, c2, by omega, by omega⟩⟩
  rw [e__law_minus]
  refine tot_eq (tot_defC ?_)
  simp [m1, m2, m3, s__law_lean (p * s - r * q) (q * s) qs l5, b__law_minus, k__law_minus_2, gl_0, gl_1, gl_2, Ss.den, S.den, E.den, Es.den, Ds.den, OE.den, Gs.den, So.den, TI'.den, TIs.den, mSeq, mRet, mRetVar, mSet, mPar, mAsg, mExpr, mIf, mNx, mFl, mStuck, andL, orL, var_v, var_o, var_t, sop_v, sop_o, sop_t, cmp_v, cmp_o, cmp_t, chain_v, chain_o, chain_t, and_v, and_o, and_t, or_v, or_o, or_t, not_v, not_o, not_t, ite_v, ite_o, ite_t, tup_v, tup_o, lst_v, lst_o, oOf_eq, tOf_eq, tstV_eq, vOp, evOs, evRs, evDs, vChain, rds, rd, SV.data, SV.isScr, oVar, vVar, sSl, vSl, evP, vRev, revD, List.filterMap_cons, vCallP, vCall, evAs, callA_def, apart, Arg.ix, passAs, passA, backA, reown, permL, BOp.f, BOp.st, COp.f, BF.f, isaD, typeD, isNoneD, putR, putAll, storable, asgS_name, asgS_sub, asgS_tup, asgSs_nil, asgSs_cons, itemsM, asgT, asgTs, putS, vApp, seqD, atD, L2.atI, L2.ixN]
end K02
end SP8

section SP9
set_option exponentiation.threshold 20000
namespace K02
open PySem Tw
/-! ## generated trials -/
def sz (n : Nat) : Nat := 21 * 2 ^ (n - 2) - 1
theorem sz_le {n : Nat} (h : n ≤ 10) : 20 ≤ sz n ∧ sz n ≤ 5375 := by
  have : ∀ n ∈ List.range 11, 20 ≤ sz n ∧ sz n ≤ 5375 := by decide
  exact this n (List.mem_range.mpr (by omega))
theorem sz_step {n : Nat} (h0 : 2 ≤ n) (h : n ≤ 9) : sz n + sz n + 1 ≤ sz (n + 1) ∧ sz n ≤ 4000 := by
  have : ∀ n ∈ List.range 10, 2 ≤ n → sz n + sz n + 1 ≤ sz (n + 1) ∧ sz n ≤ 4000 := by decide
  exact this n (List.mem_range.mpr (by omega)) h0
theorem sz_mono {n : Nat} (h : n ≤ 9) : sz n ≤ sz (n + 1) := by
  have : ∀ n ∈ List.range 10, sz n ≤ sz (n + 1) := by decide
  exact this n (List.mem_range.mpr (by omega))
theorem canLayAll_of : ∀ {ds : List PyData}, (∀ d ∈ ds, d.canLay0 = true) → PyData.canLayAll0 ds = true
  | [], _ => rfl
  | d :: ds, h => by
    show (d.canLay0 && PyData.canLayAll0 ds) = true
    rw [h d List.mem_cons_self, canLayAll_of fun x hx => h x (List.mem_cons_of_mem _ hx)]; rfl
theorem Fr.canLay {n : Nat} {d : PyData} : Fr n d → d.canLay0 = true := by
  rintro ⟨p, q, rfl, _⟩; rfl
/-- a row of k fractions of size n -/
def Row (n k : Nat) (d : PyData) : Prop := ∃ ds, d = .tuple ds ∧ ds.length = k ∧ ∀ x ∈ ds, Fr n x
theorem Row.mono {n m k : Nat} (h : n ≤ m) {d : PyData} : Row n k d → Row m k d := by
  rintro ⟨ds, e, l, f⟩
  exact ⟨ds, e, l, fun x hx => (f x hx).mono h⟩
theorem Row.canLay {n k : Nat} {d : PyData} : Row n k d → d.canLay0 = true := by
  rintro ⟨ds, rfl, _, h⟩
  exact canLayAll_of fun x hx => (h x hx).canLay
def GenT (m : Int) (d : PyData) : Prop := ∃ (few : Nat) (rows sp : List PyData) (is : List Int), d = .tuple [.tuple rows, .tuple sp, .tuple (is.map .int)] ∧ 1 ≤ few ∧ few ≤ 5 ∧ 1 ≤ rows.length ∧ (rows.length : Int) ≤ m ∧ (∀ r ∈ rows, Row 5375 few r) ∧ sp.length = rows.length ∧ (∀ x ∈ sp, Fr 20 x ∧ posT x = true) ∧ (∀ i ∈ is, 0 ≤ i ∧ i ≤ 4) ∧ (is = [] ∨ is.length = rows.length)
theorem zipD_len {ds es : List PyData} (h : ds.length = es.length) : (zipD ds es).length = ds.length := by
  simp [zipD]; omega
set_option maxHeartbeats 2000000 in
theorem zip_minus {a0 a1 a2 a3 a4 a5 a6 a7 a8 a9 : Option SV} {n k : Nat} {one two : PyData} (h1 : Row n k one) (h2 : Row n k two) (hn : n ≤ 4000) (hk : k ≤ 1000) :
    tot (vLc [12, 13] (vZip (sVar 10) (sVar 11)) (Tg.tup (Tgs.cons (Tg.name 12) (Tgs.cons (Tg.name 13) Tgs.nil))) none (Sm.of (vCallP c__law_minus [Ag.lend 12, Ag.lend 13])) [a0, a1, a2, a3, a4, a5, a6, a7, a8, a9, some (.frz one), some (.frz two), none, none])
      fun r e => ∃ ds, r = .own ds ∧ Row (n + n + 1) k (.tuple ds) ∧ e = [a0, a1, a2, a3, a4, a5, a6, a7, a8, a9, some (.frz one), some (.frz two), none, none] := by
  obtain ⟨ds, rfl, l1, f1⟩ := h1
  obtain ⟨es, rfl, l2, f2⟩ := h2
  have zl := zipD_len (ds := ds) (es := es) (by omega)
  refine vLc_tot (items := zipD ds es) (ls := []) (env1 := [a0, a1, a2, a3, a4, a5, a6, a7, a8, a9, some (.frz (.tuple ds)), some (.frz (.tuple es)), none, none]) ?_ (by unfold sizeLine; omega) ?_ ?_
  · simp [vZip, srcO, Ss.den, S.den, E.den, Es.den, Ds.den, OE.den, Gs.den, So.den, TI'.den, TIs.den, mSeq, mRet, mRetVar, mSet, mPar, mAsg, mExpr, mIf, mNx, mFl, mStuck, andL, orL, var_v, var_o, var_t, sop_v, sop_o, sop_t, cmp_v, cmp_o, cmp_t, chain_v, chain_o, chain_t, and_v, and_o, and_t, or_v, or_o, or_t, not_v, not_o, not_t, ite_v, ite_o, ite_t, tup_v, tup_o, lst_v, lst_o, oOf_eq, tOf_eq, tstV_eq, vOp, evOs, evRs, evDs, vChain, rds, rd, SV.data, SV.isScr, oVar, vVar, sSl, vSl, evP, vRev, revD, List.filterMap_cons, vCallP, vCall, evAs, callA_def, apart, Arg.ix, passAs, passA, backA, reown, permL, BOp.f, BOp.st, COp.f, BF.f, isaD, typeD, isNoneD, putR, putAll, storable, asgS_name, asgS_sub, asgS_tup, asgSs_nil, asgSs_cons, itemsM, asgT, asgTs, putS, vApp, seqD, atD, L2.atI, L2.ixN]
  · simp [noLs]
  refine lcGo_tot (fun i acc env => env = [a0, a1, a2, a3, a4, a5, a6, a7, a8, a9, some (.frz (.tuple ds)), some (.frz (.tuple es)), none, none] ∧ acc.length = i ∧ ∀ x ∈ acc, Fr (n + n + 1) x) 0 [] ⟨by simp [wipeS, lendS], rfl, fun _ h => (by cases h)⟩ ?_ ?_
  · rintro i d acc _ hi ⟨rfl, al, af⟩
    rw [zipD_at] at hi
    split at hi
    · rename_i x y hx hy
      cases hi
      obtain ⟨z, ez, fz⟩ := s__law_minus hn (f1 x (List.mem_of_getElem? hx)) (f2 y (List.mem_of_getElem? hy))
      refine ⟨[a0, a1, a2, a3, a4, a5, a6, a7, a8, a9, some (.frz (.tuple ds)), some (.frz (.tuple es)), some (.frz x), some (.frz y)], by simp [asgT, asgTs, putS, storable], ?_⟩
      simp [ez, Ss.den, S.den, E.den, Es.den, Ds.den, OE.den, Gs.den, So.den, TI'.den, TIs.den, mSeq, mRet, mRetVar, mSet, mPar, mAsg, mExpr, mIf, mNx, mFl, mStuck, andL, orL, var_v, var_o, var_t, sop_v, sop_o, sop_t, cmp_v, cmp_o, cmp_t, chain_v, chain_o, chain_t, and_v, and_o, and_t, or_v, or_o, or_t, not_v, not_o, not_t, ite_v, ite_o, ite_t, tup_v, tup_o, lst_v, lst_o, oOf_eq, tOf_eq, tstV_eq, vOp, evOs, evRs, evDs, vChain, rds, rd, SV.data, SV.isScr, oVar, vVar, sSl, vSl, evP, vRev, revD, List.filterMap_cons, vCallP, vCall, evAs, callA_def, apart, Arg.ix, passAs, passA, backA, reown, permL, BOp.f, BOp.st, COp.f, BF.f, isaD, typeD, isNoneD, putR, putAll, storable, asgS_name, asgS_sub, asgS_tup, asgSs_nil, asgSs_cons, itemsM, asgT, asgTs, putS, vApp, seqD, atD, L2.atI, L2.ixN]
      refine ⟨by simp [wipeS], by omega, fun u hu => ?_⟩
      rcases hu with hu | rfl
      · exact af u hu
      · exact fz
    · cases hi
  · rintro acc _ ⟨rfl, al, af⟩
    refine ⟨acc, rfl, ⟨acc, rfl, by omega, af⟩, by rw [restS_self]⟩
def TJ (m few n kinds : Int) (i : Nat) (env : EV) : Prop := ∃ (w : List PyData) (x2 x9 x10 x11 : Option SV) (rows sp : List PyData) (is : List Int), env = [some (.io w), some (.frz (.int m)), x2, some (.frz (.int few)), some (.own rows), some (.own sp), some (.own (is.map .int)), some (.frz (.int n)), some (.frz (.int kinds)), x9, x10, x11, none, none] ∧ Well w ∧
  rows.length = i ∧ (∀ r ∈ rows, Row (sz i) few.toNat r) ∧ sp.length = i ∧ (∀ x ∈ sp, Fr 20 x ∧ posT x = true) ∧ is.length = i ∧ (∀ j ∈ is, 0 ≤ j ∧ j ≤ 4) ∧ (∀ es, x2 ≠ some (.io es)) ∧ (∀ es, x9 ≠ some (.io es)) ∧ (∀ es, x10 ≠ some (.io es)) ∧ (∀ es, x11 ≠ some (.io es))
/-- behind the choice of a row -/
def TQs (s : Nat) (m few n kinds : Int) (i : Nat) (rows sp : List PyData) (is : List Int) (f : Fl) (env : EV) : Prop := f = .nx ∧ ∃ (w : List PyData) (row : PyData) (x10 x11 : Option SV), env = [some (.io w), some (.frz (.int m)), some (.frz (.int i)), some (.frz (.int few)), some (.own rows), some (.own sp), some (.own (is.map .int)), some (.frz (.int n)), some (.frz (.int kinds)), some (.frz row), x10, x11, none, none] ∧ Well w ∧ Row s few.toNat row ∧ (∀ es, x10 ≠ some (.io es)) ∧ (∀ es, x11 ≠ some (.io es))
abbrev TQ (m few n kinds : Int) (i : Nat) := TQs (sz i) m few n kinds i
abbrev TQ' (m few n kinds : Int) (i : Nat) := TQs (sz (i + 1)) m few n kinds i
set_option maxHeartbeats 4000000 in
theorem s__law_trial {w : List PyData} (hw : Well w) (m : Int) (h0 : 1 ≤ m) (h1 : m ≤ 10) : tot (c__law_trial [.io w, .frz (.int m)]) (Io [.frz (.int m)] (GenT m)) := by
  rw [e__law_trial]
  refine tot_defC ?_
  unfold b__law_trial
  refine tot_cons ?_
  simp [sizeLine, k__law_trial_0, k__law_trial_1, k__law_trial_4, k__law_trial_5, gl_0, gl_1, gl_2, S.den, E.den, Es.den, Ds.den, OE.den, Gs.den, So.den, TI'.den, TIs.den, mSeq, mRet, mRetVar, mSet, mPar, mAsg, mExpr, mIf, mNx, mFl, mStuck, andL, orL, var_v, var_o, var_t, sop_v, sop_o, sop_t, cmp_v, cmp_o, cmp_t, chain_v, chain_o, chain_t, and_v, and_o, and_t, or_v, or_o, or_t, not_v, not_o, not_t, ite_v, ite_o, ite_t, tup_v, tup_o, lst_v, lst_o, oOf_eq, tOf_eq, tstV_eq, vOp, evOs, evRs, evDs, vChain, rds, rd, SV.data, SV.isScr, oVar, vVar, sSl, vSl, evP, vRev, revD, List.filterMap_cons, vCallP, vCall, evAs, callA_def, apart, Arg.ix, passAs, passA, backA, reown, permL, BOp.f, BOp.st, COp.f, BF.f, isaD, typeD, isNoneD, putR, putAll, storable, asgS_name, asgS_sub, asgS_tup, asgSs_nil, asgSs_cons, itemsM, asgT, asgTs, putS, vApp, seqD, atD, L2.atI, L2.ixN]
  refine tot_io (s__law_draw hw 5 (by omega) (by omega)) ?_
  rintro _ w ⟨f0, rfl, f1, f2⟩ hw
  refine ⟨_, rfl, ?_⟩
  obtain ⟨few, hfew⟩ : ∃ few : Int, few = 1 + f0 := ⟨_, rfl⟩
  simp [← hfew, k__law_trial_0, k__law_trial_1, k__law_trial_4, k__law_trial_5, gl_0, gl_1, gl_2, S.den, E.den, Es.den, Ds.den, OE.den, Gs.den, So.den, TI'.den, TIs.den, mSeq, mRet, mRetVar, mSet, mPar, mAsg, mExpr, mIf, mNx, mFl, mStuck, andL, orL, var_v, var_o, var_t, sop_v, sop_o, sop_t, cmp_v, cmp_o, cmp_t, chain_v, chain_o, chain_t, and_v, and_o, and_t, or_v, or_o, or_t, not_v, not_o, not_t, ite_v, ite_o, ite_t, tup_v, tup_o, lst_v, lst_o, oOf_eq, tOf_eq, tstV_eq, vOp, evOs, evRs, evDs, vChain, rds, rd, SV.data, SV.isScr, oVar, vVar, sSl, vSl, evP, vRev, revD, List.filterMap_cons, vCallP, vCall, evAs, callA_def, apart, Arg.ix, passAs, passA, backA, reown, permL, BOp.f, BOp.st, COp.f, BF.f, isaD, typeD, isNoneD, putR, putAll, storable, asgS_name, asgS_sub, asgS_tup, asgSs_nil, asgSs_cons, itemsM, asgT, asgTs, putS, vApp, seqD, atD, L2.atI, L2.ixN]
  refine nxt_nx (tot_cons ?_)
  simp [sizeLine, k__law_trial_0, k__law_trial_1, k__law_trial_4, k__law_trial_5, gl_0, gl_1, gl_2, S.den, E.den, Es.den, Ds.den, OE.den, Gs.den, So.den, TI'.den, TIs.den, mSeq, mRet, mRetVar, mSet, mPar, mAsg, mExpr, mIf, mNx, mFl, mStuck, andL, orL, var_v, var_o, var_t, sop_v, sop_o, sop_t, cmp_v, cmp_o, cmp_t, chain_v, chain_o, chain_t, and_v, and_o, and_t, or_v, or_o, or_t, not_v, not_o, not_t, ite_v, ite_o, ite_t, tup_v, tup_o, lst_v, lst_o, oOf_eq, tOf_eq, tstV_eq, vOp, evOs, evRs, evDs, vChain, rds, rd, SV.data, SV.isScr, oVar, vVar, sSl, vSl, evP, vRev, revD, List.filterMap_cons, vCallP, vCall, evAs, callA_def, apart, Arg.ix, passAs, passA, backA, reown, permL, BOp.f, BOp.st, COp.f, BF.f, isaD, typeD, isNoneD, putR, putAll, storable, asgS_name, asgS_sub, asgS_tup, asgSs_nil, asgSs_cons, itemsM, asgT, asgTs, putS, vApp, seqD, atD, L2.atI, L2.ixN]
  refine tot_io (s__law_draw hw m (by omega) (by omega)) ?_
  rintro _ w ⟨n0, rfl, n1, n2⟩ hw
  refine ⟨_, rfl, ?_⟩
  obtain ⟨n, hn⟩ : ∃ n : Int, n = 1 + n0 := ⟨_, rfl⟩
  simp [← hn, k__law_trial_0, k__law_trial_1, k__law_trial_4, k__law_trial_5, gl_0, gl_1, gl_2, S.den, E.den, Es.den, Ds.den, OE.den, Gs.den, So.den, TI'.den, TIs.den, mSeq, mRet, mRetVar, mSet, mPar, mAsg, mExpr, mIf, mNx, mFl, mStuck, andL, orL, var_v, var_o, var_t, sop_v, sop_o, sop_t, cmp_v, cmp_o, cmp_t, chain_v, chain_o, chain_t, and_v, and_o, and_t, or_v, or_o, or_t, not_v, not_o, not_t, ite_v, ite_o, ite_t, tup_v, tup_o, lst_v, lst_o, oOf_eq, tOf_eq, tstV_eq, vOp, evOs, evRs, evDs, vChain, rds, rd, SV.data, SV.isScr, oVar, vVar, sSl, vSl, evP, vRev, revD, List.filterMap_cons, vCallP, vCall, evAs, callA_def, apart, Arg.ix, passAs, passA, backA, reown, permL, BOp.f, BOp.st, COp.f, BF.f, isaD, typeD, isNoneD, putR, putAll, storable, asgS_name, asgS_sub, asgS_tup, asgSs_nil, asgSs_cons, itemsM, asgT, asgTs, putS, vApp, seqD, atD, L2.atI, L2.ixN]
  refine tot_io (s__law_one hw _ _ (.inl rfl) (by simp) (by decide)) ?_
  rintro kd w hk hw
  refine ⟨_, rfl, ?_⟩
  obtain ⟨kinds, rfl, kk⟩ : ∃ k : Int, kd = .int k ∧ 0 ≤ k ∧ k ≤ 5 := by
    simp at hk
    rcases hk with rfl | rfl | rfl | rfl | rfl <;> exact ⟨_, rfl, by decide, by decide⟩
  simp [k__law_trial_0, k__law_trial_1, k__law_trial_4, k__law_trial_5, gl_0, gl_1, gl_2, S.den, E.den, Es.den, Ds.den, OE.den, Gs.den, So.den, TI'.den, TIs.den, mSeq, mRet, mRetVar, mSet, mPar, mAsg, mExpr, mIf, mNx, mFl, mStuck, andL, orL, var_v, var_o, var_t, sop_v, sop_o, sop_t, cmp_v, cmp_o, cmp_t, chain_v, chain_o, chain_t, and_v, and_o, and_t, or_v, or_o, or_t, not_v, not_o, not_t, ite_v, ite_o, ite_t, tup_v, tup_o, lst_v, lst_o, oOf_eq, tOf_eq, tstV_eq, vOp, evOs, evRs, evDs, vChain, rds, rd, SV.data, SV.isScr, oVar, vVar, sSl, vSl, evP, vRev, revD, List.filterMap_cons, vCallP, vCall, evAs, callA_def, apart, Arg.ix, passAs, passA, backA, reown, permL, BOp.f, BOp.st, COp.f, BF.f, isaD, typeD, isNoneD, putR, putAll, storable, asgS_name, asgS_sub, asgS_tup, asgSs_nil, asgSs_cons, itemsM, asgT, asgTs, putS, vApp, seqD, atD, L2.atI, L2.ixN]
  have ro : rngOk n = true := by simp [rngOk]; omega
  have few5 : 1 ≤ few ∧ few ≤ 5 := by omega
  refine nxt_nx (tot_cons (tot_forR (n := n) (env1 := [some (.io w), some (.frz (.int m)), none, some (.frz (.int few)), some (.own []), some (.own []), some (.own []), some (.frz (.int n)), some (.frz (.int kinds)), none, none, none, none, none]) ?_
    (TJ m few n kinds) ⟨w, none, none, none, none, [], [], [], rfl, hw, rfl, fun _ h => (by cases h), rfl, fun _ h => (by cases h), rfl, fun _ h => (by cases h), fun _ => (by simp), fun _ => (by simp), fun _ => (by simp), fun _ => (by simp)⟩ ?_ ?_))
  · simp [vRng1, ro, k__law_trial_0, k__law_trial_1, k__law_trial_4, k__law_trial_5, gl_0, gl_1, gl_2, S.den, E.den, Es.den, Ds.den, OE.den, Gs.den, So.den, TI'.den, TIs.den, mSeq, mRet, mRetVar, mSet, mPar, mAsg, mExpr, mIf, mNx, mFl, mStuck, andL, orL, var_v, var_o, var_t, sop_v, sop_o, sop_t, cmp_v, cmp_o, cmp_t, chain_v, chain_o, chain_t, and_v, and_o, and_t, or_v, or_o, or_t, not_v, not_o, not_t, ite_v, ite_o, ite_t, tup_v, tup_o, lst_v, lst_o, oOf_eq, tOf_eq, tstV_eq, vOp, evOs, evRs, evDs, vChain, rds, rd, SV.data, SV.isScr, oVar, vVar, sSl, vSl, evP, vRev, revD, List.filterMap_cons, vCallP, vCall, evAs, callA_def, apart, Arg.ix, passAs, passA, backA, reown, permL, BOp.f, BOp.st, COp.f, BF.f, isaD, typeD, isNoneD, putR, putAll, storable, asgS_name, asgS_sub, asgS_tup, asgSs_nil, asgSs_cons, itemsM, asgT, asgTs, putS, vApp, seqD, atD, L2.atI, L2.ixN]
  · rintro i env hi ⟨w, x2, x9, x10, x11, rows, sp, is, rfl, hw, rl, hr, sl, hs, il, hb, nx2, nx9, nx10, nx11⟩
    refine ⟨[some (.io w), some (.frz (.int m)), some (.frz (.int i)), some (.frz (.int few)), some (.own rows), some (.own sp), some (.own (is.map .int)), some (.frz (.int n)), some (.frz (.int kinds)), x9, x10, x11, none, none], ?_, ?_⟩
    · simp [asgT, nx2, k__law_trial_0, k__law_trial_1, k__law_trial_4, k__law_trial_5, gl_0, gl_1, gl_2, S.den, E.den, Es.den, Ds.den, OE.den, Gs.den, So.den, TI'.den, TIs.den, mSeq, mRet, mRetVar, mSet, mPar, mAsg, mExpr, mIf, mNx, mFl, mStuck, andL, orL, var_v, var_o, var_t, sop_v, sop_o, sop_t, cmp_v, cmp_o, cmp_t, chain_v, chain_o, chain_t, and_v, and_o, and_t, or_v, or_o, or_t, not_v, not_o, not_t, ite_v, ite_o, ite_t, tup_v, tup_o, lst_v, lst_o, oOf_eq, tOf_eq, tstV_eq, vOp, evOs, evRs, evDs, vChain, rds, rd, SV.data, SV.isScr, oVar, vVar, sSl, vSl, evP, vRev, revD, List.filterMap_cons, vCallP, vCall, evAs, callA_def, apart, Arg.ix, passAs, passA, backA, reown, permL, BOp.f, BOp.st, COp.f, BF.f, isaD, typeD, isNoneD, putR, putAll, storable, asgS_name, asgS_sub, asgS_tup, asgSs_nil, asgSs_cons, itemsM, asgT, asgTs, putS, vApp, seqD, atD, L2.atI, L2.ixN]
    refine tot_cons ?_
    simp [nx9, k__law_trial_0, k__law_trial_1, k__law_trial_4, k__law_trial_5, gl_0, gl_1, gl_2, S.den, E.den, Es.den, Ds.den, OE.den, Gs.den, So.den, TI'.den, TIs.den, mSeq, mRet, mRetVar, mSet, mPar, mAsg, mExpr, mIf, mNx, mFl, mStuck, andL, orL, var_v, var_o, var_t, sop_v, sop_o, sop_t, cmp_v, cmp_o, cmp_t, chain_v, chain_o, chain_t, and_v, and_o, and_t, or_v, or_o, or_t, not_v, not_o, not_t, ite_v, ite_o, ite_t, tup_v, tup_o, lst_v, lst_o, oOf_eq, tOf_eq, tstV_eq, vOp, evOs, evRs, evDs, vChain, rds, rd, SV.data, SV.isScr, oVar, vVar, sSl, vSl, evP, vRev, revD, List.filterMap_cons, vCallP, vCall, evAs, callA_def, apart, Arg.ix, passAs, passA, backA, reown, permL, BOp.f, BOp.st, COp.f, BF.f, isaD, typeD, isNoneD, putR, putAll, storable, asgS_name, asgS_sub, asgS_tup, asgSs_nil, asgSs_cons, itemsM, asgT, asgTs, putS, vApp, seqD, atD, L2.atI, L2.ixN]
    refine tot_io (s__law_numbers hw few (by omega) (by omega)) ?_
    rintro _ w ⟨r9, rfl, r1, r2⟩ hw
    refine ⟨_, rfl, ?_⟩
    have R0 : Row (sz i) few.toNat (.tuple r9) := ⟨r9, rfl, by omega, fun x hx => (r2 x hx).mono (sz_le (n := i) (by omega)).1⟩
    simp [nx9, k__law_trial_0, k__law_trial_1, k__law_trial_4, k__law_trial_5, gl_0, gl_1, gl_2, S.den, E.den, Es.den, Ds.den, OE.den, Gs.den, So.den, TI'.den, TIs.den, mSeq, mRet, mRetVar, mSet, mPar, mAsg, mExpr, mIf, mNx, mFl, mStuck, andL, orL, var_v, var_o, var_t, sop_v, sop_o, sop_t, cmp_v, cmp_o, cmp_t, chain_v, chain_o, chain_t, and_v, and_o, and_t, or_v, or_o, or_t, not_v, not_o, not_t, ite_v, ite_o, ite_t, tup_v, tup_o, lst_v, lst_o, oOf_eq, tOf_eq, tstV_eq, vOp, evOs, evRs, evDs, vChain, rds, rd, SV.data, SV.isScr, oVar, vVar, sSl, vSl, evP, vRev, revD, List.filterMap_cons, vCallP, vCall, evAs, callA_def, apart, Arg.ix, passAs, passA, backA, reown, permL, BOp.f, BOp.st, COp.f, BF.f, isaD, typeD, isNoneD, putR, putAll, storable, asgS_name, asgS_sub, asgS_tup, asgSs_nil, asgSs_cons, itemsM, asgT, asgTs, putS, vApp, seqD, atD, L2.atI, L2.ixN]
    have cl : PyData.canLayAll0 rows = true := canLayAll_of fun r h => (hr r h).canLay
    refine nxt_nx (tot_cons (tot_imp (Q := TQ m few n kinds i rows sp is) ?_ ?_))
    · by_cases q : rows = []
      · subst q
        simp [eqD_lnil cl, k__law_trial_0, k__law_trial_1, k__law_trial_4, k__law_trial_5, gl_0, gl_1, gl_2, S.den, E.den, Es.den, Ds.den, OE.den, Gs.den, So.den, TI'.den, TIs.den, mSeq, mRet, mRetVar, mSet, mPar, mAsg, mExpr, mIf, mNx, mFl, mStuck, andL, orL, var_v, var_o, var_t, sop_v, sop_o, sop_t, cmp_v, cmp_o, cmp_t, chain_v, chain_o, chain_t, and_v, and_o, and_t, or_v, or_o, or_t, not_v, not_o, not_t, ite_v, ite_o, ite_t, tup_v, tup_o, lst_v, lst_o, oOf_eq, tOf_eq, tstV_eq, vOp, evOs, evRs, evDs, vChain, rds, rd, SV.data, SV.isScr, oVar, vVar, sSl, vSl, evP, vRev, revD, List.filterMap_cons, vCallP, vCall, evAs, callA_def, apart, Arg.ix, passAs, passA, backA, reown, permL, BOp.f, BOp.st, COp.f, BF.f, isaD, typeD, isNoneD, putR, putAll, storable, asgS_name, asgS_sub, asgS_tup, asgSs_nil, asgSs_cons, itemsM, asgT, asgTs, putS, vApp, seqD, atD, L2.atI, L2.ixN]
        refine tot_nil ?_
        exact ⟨rfl, w, _, _, _, rfl, hw, R0, nx10, nx11⟩
      · have q0 := List.length_pos_iff.mpr q
        simp [eqD_lnil cl, q, k__law_trial_0, k__law_trial_1, k__law_trial_4, k__law_trial_5, gl_0, gl_1, gl_2, S.den, E.den, Es.den, Ds.den, OE.den, Gs.den, So.den, TI'.den, TIs.den, mSeq, mRet, mRetVar, mSet, mPar, mAsg, mExpr, mIf, mNx, mFl, mStuck, andL, orL, var_v, var_o, var_t, sop_v, sop_o, sop_t, cmp_v, cmp_o, cmp_t, chain_v, chain_o, chain_t, and_v, and_o, and_t, or_v, or_o, or_t, not_v, not_o, not_t, ite_v, ite_o, ite_t, tup_v, tup_o, lst_v, lst_o, oOf_eq, tOf_eq, tstV_eq, vOp, evOs, evRs, evDs, vChain, rds, rd, SV.data, SV.isScr, oVar, vVar, sSl, vSl, evP, vRev, revD, List.filterMap_cons, vCallP, vCall, evAs, callA_def, apart, Arg.ix, passAs, passA, backA, reown, permL, BOp.f, BOp.st, COp.f, BF.f, isaD, typeD, isNoneD, putR, putAll, storable, asgS_name, asgS_sub, asgS_tup, asgSs_nil, asgSs_cons, itemsM, asgT, asgTs, putS, vApp, seqD, atD, L2.atI, L2.ixN]
        refine tot_io (s__law_draw hw 4 (by omega) (by omega)) ?_
        rintro _ w ⟨k, rfl, k0, k1⟩ hw
        refine ⟨_, rfl, ?_⟩
        by_cases z : k = 0
        · simp [z, k__law_trial_0, k__law_trial_1, k__law_trial_4, k__law_trial_5, gl_0, gl_1, gl_2, S.den, E.den, Es.den, Ds.den, OE.den, Gs.den, So.den, TI'.den, TIs.den, mSeq, mRet, mRetVar, mSet, mPar, mAsg, mExpr, mIf, mNx, mFl, mStuck, andL, orL, var_v, var_o, var_t, sop_v, sop_o, sop_t, cmp_v, cmp_o, cmp_t, chain_v, chain_o, chain_t, and_v, and_o, and_t, or_v, or_o, or_t, not_v, not_o, not_t, ite_v, ite_o, ite_t, tup_v, tup_o, lst_v, lst_o, oOf_eq, tOf_eq, tstV_eq, vOp, evOs, evRs, evDs, vChain, rds, rd, SV.data, SV.isScr, oVar, vVar, sSl, vSl, evP, vRev, revD, List.filterMap_cons, vCallP, vCall, evAs, callA_def, apart, Arg.ix, passAs, passA, backA, reown, permL, BOp.f, BOp.st, COp.f, BF.f, isaD, typeD, isNoneD, putR, putAll, storable, asgS_name, asgS_sub, asgS_tup, asgSs_nil, asgSs_cons, itemsM, asgT, asgTs, putS, vApp, seqD, atD, L2.atI, L2.ixN]
          refine tot_cons ?_
          simp [z, k__law_trial_0, k__law_trial_1, k__law_trial_4, k__law_trial_5, gl_0, gl_1, gl_2, S.den, E.den, Es.den, Ds.den, OE.den, Gs.den, So.den, TI'.den, TIs.den, mSeq, mRet, mRetVar, mSet, mPar, mAsg, mExpr, mIf, mNx, mFl, mStuck, andL, orL, var_v, var_o, var_t, sop_v, sop_o, sop_t, cmp_v, cmp_o, cmp_t, chain_v, chain_o, chain_t, and_v, and_o, and_t, or_v, or_o, or_t, not_v, not_o, not_t, ite_v, ite_o, ite_t, tup_v, tup_o, lst_v, lst_o, oOf_eq, tOf_eq, tstV_eq, vOp, evOs, evRs, evDs, vChain, rds, rd, SV.data, SV.isScr, oVar, vVar, sSl, vSl, evP, vRev, revD, List.filterMap_cons, vCallP, vCall, evAs, callA_def, apart, Arg.ix, passAs, passA, backA, reown, permL, BOp.f, BOp.st, COp.f, BF.f, isaD, typeD, isNoneD, putR, putAll, storable, asgS_name, asgS_sub, asgS_tup, asgSs_nil, asgSs_cons, itemsM, asgT, asgTs, putS, vApp, seqD, atD, L2.atI, L2.ixN]
          refine tot_io (s__law_draw hw rows.length (by omega) (by omega)) ?_
          rintro _ w ⟨k, rfl, k0, k1⟩ hw
          refine ⟨_, rfl, ?_⟩
          obtain ⟨k, rfl⟩ := Int.eq_ofNat_of_zero_le k0
          have hk2 : k < rows.length := by omega
          simp [hk2, k__law_trial_0, k__law_trial_1, k__law_trial_4, k__law_trial_5, gl_0, gl_1, gl_2, S.den, E.den, Es.den, Ds.den, OE.den, Gs.den, So.den, TI'.den, TIs.den, mSeq, mRet, mRetVar, mSet, mPar, mAsg, mExpr, mIf, mNx, mFl, mStuck, andL, orL, var_v, var_o, var_t, sop_v, sop_o, sop_t, cmp_v, cmp_o, cmp_t, chain_v, chain_o, chain_t, and_v, and_o, and_t, or_v, or_o, or_t, not_v, not_o, not_t, ite_v, ite_o, ite_t, tup_v, tup_o, lst_v, lst_o, oOf_eq, tOf_eq, tstV_eq, vOp, evOs, evRs, evDs, vChain, rds, rd, SV.data, SV.isScr, oVar, vVar, sSl, vSl, evP, vRev, revD, List.filterMap_cons, vCallP, vCall, evAs, callA_def, apart, Arg.ix, passAs, passA, backA, reown, permL, BOp.f, BOp.st, COp.f, BF.f, isaD, typeD, isNoneD, putR, putAll, storable, asgS_name, asgS_sub, asgS_tup, asgSs_nil, asgSs_cons, itemsM, asgT, asgTs, putS, vApp, seqD, atD, L2.atI, L2.ixN]
          exact nxt_nx (tot_nil ⟨rfl, w, _, _, _, rfl, hw, hr _ (List.getElem_mem hk2), nx10, nx11⟩)
        · simp [z, k__law_trial_0, k__law_trial_1, k__law_trial_4, k__law_trial_5, gl_0, gl_1, gl_2, S.den, E.den, Es.den, Ds.den, OE.den, Gs.den, So.den, TI'.den, TIs.den, mSeq, mRet, mRetVar, mSet, mPar, mAsg, mExpr, mIf, mNx, mFl, mStuck, andL, orL, var_v, var_o, var_t, sop_v, sop_o, sop_t, cmp_v, cmp_o, cmp_t, chain_v, chain_o, chain_t, and_v, and_o, and_t, or_v, or_o, or_t, not_v, not_o, not_t, ite_v, ite_o, ite_t, tup_v, tup_o, lst_v, lst_o, oOf_eq, tOf_eq, tstV_eq, vOp, evOs, evRs, evDs, vChain, rds, rd, SV.data, SV.isScr, oVar, vVar, sSl, vSl, evP, vRev, revD, List.filterMap_cons, vCallP, vCall, evAs, callA_def, apart, Arg.ix, passAs, passA, backA, reown, permL, BOp.f, BOp.st, COp.f, BF.f, isaD, typeD, isNoneD, putR, putAll, storable, asgS_name, asgS_sub, asgS_tup, asgSs_nil, asgSs_cons, itemsM, asgT, asgTs, putS, vApp, seqD, atD, L2.atI, L2.ixN]
          exact tot_nil ⟨rfl, w, _, _, _, rfl, hw, R0, nx10, nx11⟩
    · rintro _ _ ⟨rfl, w, row, x10, x11, rfl, hw, hR, nx10, nx11⟩
      refine nxt_nx (tot_cons (tot_imp (Q := TQ' m few n kinds i rows sp is) ?_ ?_))
      · by_cases q : 1 < (rows.length : Int)
        · simp [q, k__law_trial_0, k__law_trial_1, k__law_trial_4, k__law_trial_5, gl_0, gl_1, gl_2, S.den, E.den, Es.den, Ds.den, OE.den, Gs.den, So.den, TI'.den, TIs.den, mSeq, mRet, mRetVar, mSet, mPar, mAsg, mExpr, mIf, mNx, mFl, mStuck, andL, orL, var_v, var_o, var_t, sop_v, sop_o, sop_t, cmp_v, cmp_o, cmp_t, chain_v, chain_o, chain_t, and_v, and_o, and_t, or_v, or_o, or_t, not_v, not_o, not_t, ite_v, ite_o, ite_t, tup_v, tup_o, lst_v, lst_o, oOf_eq, tOf_eq, tstV_eq, vOp, evOs, evRs, evDs, vChain, rds, rd, SV.data, SV.isScr, oVar, vVar, sSl, vSl, evP, vRev, revD, List.filterMap_cons, vCallP, vCall, evAs, callA_def, apart, Arg.ix, passAs, passA, backA, reown, permL, BOp.f, BOp.st, COp.f, BF.f, isaD, typeD, isNoneD, putR, putAll, storable, asgS_name, asgS_sub, asgS_tup, asgSs_nil, asgSs_cons, itemsM, asgT, asgTs, putS, vApp, seqD, atD, L2.atI, L2.ixN]
          refine tot_io (s__law_draw hw 6 (by omega) (by omega)) ?_
          rintro _ w ⟨k, rfl, k0, k1⟩ hw
          refine ⟨_, rfl, ?_⟩
          by_cases z : k = 0
          · simp [z, k__law_trial_0, k__law_trial_1, k__law_trial_4, k__law_trial_5, gl_0, gl_1, gl_2, S.den, E.den, Es.den, Ds.den, OE.den, Gs.den, So.den, TI'.den, TIs.den, mSeq, mRet, mRetVar, mSet, mPar, mAsg, mExpr, mIf, mNx, mFl, mStuck, andL, orL, var_v, var_o, var_t, sop_v, sop_o, sop_t, cmp_v, cmp_o, cmp_t, chain_v, chain_o, chain_t, and_v, and_o, and_t, or_v, or_o, or_t, not_v, not_o, not_t, ite_v, ite_o, ite_t, tup_v, tup_o, lst_v, lst_o, oOf_eq, tOf_eq, tstV_eq, vOp, evOs, evRs, evDs, vChain, rds, rd, SV.data, SV.isScr, oVar, vVar, sSl, vSl, evP, vRev, revD, List.filterMap_cons, vCallP, vCall, evAs, callA_def, apart, Arg.ix, passAs, passA, backA, reown, permL, BOp.f, BOp.st, COp.f, BF.f, isaD, typeD, isNoneD, putR, putAll, storable, asgS_name, asgS_sub, asgS_tup, asgSs_nil, asgSs_cons, itemsM, asgT, asgTs, putS, vApp, seqD, atD, L2.atI, L2.ixN]
            refine tot_cons ?_
            simp [z, k__law_trial_0, k__law_trial_1, k__law_trial_4, k__law_trial_5, gl_0, gl_1, gl_2, S.den, E.den, Es.den, Ds.den, OE.den, Gs.den, So.den, TI'.den, TIs.den, mSeq, mRet, mRetVar, mSet, mPar, mAsg, mExpr, mIf, mNx, mFl, mStuck, andL, orL, var_v, var_o, var_t, sop_v, sop_o, sop_t, cmp_v, cmp_o, cmp_t, chain_v, chain_o, chain_t, and_v, and_o, and_t, or_v, or_o, or_t, not_v, not_o, not_t, ite_v, ite_o, ite_t, tup_v, tup_o, lst_v, lst_o, oOf_eq, tOf_eq, tstV_eq, vOp, evOs, evRs, evDs, vChain, rds, rd, SV.data, SV.isScr, oVar, vVar, sSl, vSl, evP, vRev, revD, List.filterMap_cons, vCallP, vCall, evAs, callA_def, apart, Arg.ix, passAs, passA, backA, reown, permL, BOp.f, BOp.st, COp.f, BF.f, isaD, typeD, isNoneD, putR, putAll, storable, asgS_name, asgS_sub, asgS_tup, asgSs_nil, asgSs_cons, itemsM, asgT, asgTs, putS, vApp, seqD, atD, L2.atI, L2.ixN]
            refine tot_io (s__law_one hw _ rows (.inr rfl) (by intro z; rw [z] at q; simp at q) (by omega)) ?_
            rintro one w h1 hw
            refine ⟨_, rfl, ?_⟩
            simp [k__law_trial_0, k__law_trial_1, k__law_trial_4, k__law_trial_5, gl_0, gl_1, gl_2, S.den, E.den, Es.den, Ds.den, OE.den, Gs.den, So.den, TI'.den, TIs.den, mSeq, mRet, mRetVar, mSet, mPar, mAsg, mExpr, mIf, mNx, mFl, mStuck, andL, orL, var_v, var_o, var_t, sop_v, sop_o, sop_t, cmp_v, cmp_o, cmp_t, chain_v, chain_o, chain_t, and_v, and_o, and_t, or_v, or_o, or_t, not_v, not_o, not_t, ite_v, ite_o, ite_t, tup_v, tup_o, lst_v, lst_o, oOf_eq, tOf_eq, tstV_eq, vOp, evOs, evRs, evDs, vChain, rds, rd, SV.data, SV.isScr, oVar, vVar, sSl, vSl, evP, vRev, revD, List.filterMap_cons, vCallP, vCall, evAs, callA_def, apart, Arg.ix, passAs, passA, backA, reown, permL, BOp.f, BOp.st, COp.f, BF.f, isaD, typeD, isNoneD, putR, putAll, storable, asgS_name, asgS_sub, asgS_tup, asgSs_nil, asgSs_cons, itemsM, asgT, asgTs, putS, vApp, seqD, atD, L2.atI, L2.ixN]
            refine tot_io (s__law_one hw _ rows (.inr rfl) (by intro z; rw [z] at q; simp at q) (by omega)) ?_
            rintro two w h2 hw
            refine ⟨_, rfl, ?_⟩
            simp [nx10, nx11, k__law_trial_0, k__law_trial_1, k__law_trial_4, k__law_trial_5, gl_0, gl_1, gl_2, S.den, E.den, Es.den, Ds.den, OE.den, Gs.den, So.den, TI'.den, TIs.den, mSeq, mRet, mRetVar, mSet, mPar, mAsg, mExpr, mIf, mNx, mFl, mStuck, andL, orL, var_v, var_o, var_t, sop_v, sop_o, sop_t, cmp_v, cmp_o, cmp_t, chain_v, chain_o, chain_t, and_v, and_o, and_t, or_v, or_o, or_t, not_v, not_o, not_t, ite_v, ite_o, ite_t, tup_v, tup_o, lst_v, lst_o, oOf_eq, tOf_eq, tstV_eq, vOp, evOs, evRs, evDs, vChain, rds, rd, SV.data, SV.isScr, oVar, vVar, sSl, vSl, evP, vRev, revD, List.filterMap_cons, vCallP, vCall, evAs, callA_def, apart, Arg.ix, passAs, passA, backA, reown, permL, BOp.f, BOp.st, COp.f, BF.f, isaD, typeD, isNoneD, putR, putAll, storable, asgS_name, asgS_sub, asgS_tup, asgSs_nil, asgSs_cons, itemsM, asgT, asgTs, putS, vApp, seqD, atD, L2.atI, L2.ixN]
            refine nxt_nx (tot_cons ?_)
            simp [k__law_trial_0, k__law_trial_1, k__law_trial_4, k__law_trial_5, gl_0, gl_1, gl_2, S.den, E.den, Es.den, Ds.den, OE.den, Gs.den, So.den, TI'.den, TIs.den, mSeq, mRet, mRetVar, mSet, mPar, mAsg, mExpr, mIf, mNx, mFl, mStuck, andL, orL, var_v, var_o, var_t, sop_v, sop_o, sop_t, cmp_v, cmp_o, cmp_t, chain_v, chain_o, chain_t, and_v, and_o, and_t, or_v, or_o, or_t, not_v, not_o, not_t, ite_v, ite_o, ite_t, tup_v, tup_o, lst_v, lst_o, oOf_eq, tOf_eq, tstV_eq, vOp, evOs, evRs, evDs, vChain, rds, rd, SV.data, SV.isScr, oVar, vVar, sSl, vSl, evP, vRev, revD, List.filterMap_cons, vCallP, vCall, evAs, callA_def, apart, Arg.ix, passAs, passA, backA, reown, permL, BOp.f, BOp.st, COp.f, BF.f, isaD, typeD, isNoneD, putR, putAll, storable, asgS_name, asgS_sub, asgS_tup, asgSs_nil, asgSs_cons, itemsM, asgT, asgTs, putS, vApp, seqD, atD, L2.atI, L2.ixN]
            obtain ⟨s1, s2⟩ := sz_step (n := i) (by omega) (by omega)
            refine tot_bd (tot_imp (zip_minus (hr one h1) (hr two h2) s2 (by omega)) ?_)
            rintro _ _ ⟨ds, rfl, hR2, rfl⟩
            simp [k__law_trial_0, k__law_trial_1, k__law_trial_4, k__law_trial_5, gl_0, gl_1, gl_2, S.den, E.den, Es.den, Ds.den, OE.den, Gs.den, So.den, TI'.den, TIs.den, mSeq, mRet, mRetVar, mSet, mPar, mAsg, mExpr, mIf, mNx, mFl, mStuck, andL, orL, var_v, var_o, var_t, sop_v, sop_o, sop_t, cmp_v, cmp_o, cmp_t, chain_v, chain_o, chain_t, and_v, and_o, and_t, or_v, or_o, or_t, not_v, not_o, not_t, ite_v, ite_o, ite_t, tup_v, tup_o, lst_v, lst_o, oOf_eq, tOf_eq, tstV_eq, vOp, evOs, evRs, evDs, vChain, rds, rd, SV.data, SV.isScr, oVar, vVar, sSl, vSl, evP, vRev, revD, List.filterMap_cons, vCallP, vCall, evAs, callA_def, apart, Arg.ix, passAs, passA, backA, reown, permL, BOp.f, BOp.st, COp.f, BF.f, isaD, typeD, isNoneD, putR, putAll, storable, asgS_name, asgS_sub, asgS_tup, asgSs_nil, asgSs_cons, itemsM, asgT, asgTs, putS, vApp, seqD, atD, L2.atI, L2.ixN]
            exact nxt_nx (tot_nil ⟨rfl, w, _, _, _, rfl, hw, hR2.mono s1, fun _ => (by simp), fun _ => (by simp)⟩)
          · simp [z, k__law_trial_0, k__law_trial_1, k__law_trial_4, k__law_trial_5, gl_0, gl_1, gl_2, S.den, E.den, Es.den, Ds.den, OE.den, Gs.den, So.den, TI'.den, TIs.den, mSeq, mRet, mRetVar, mSet, mPar, mAsg, mExpr, mIf, mNx, mFl, mStuck, andL, orL, var_v, var_o, var_t, sop_v, sop_o, sop_t, cmp_v, cmp_o, cmp_t, chain_v, chain_o, chain_t, and_v, and_o, and_t, or_v, or_o, or_t, not_v, not_o, not_t, ite_v, ite_o, ite_t, tup_v, tup_o, lst_v, lst_o, oOf_eq, tOf_eq, tstV_eq, vOp, evOs, evRs, evDs, vChain, rds, rd, SV.data, SV.isScr, oVar, vVar, sSl, vSl, evP, vRev, revD, List.filterMap_cons, vCallP, vCall, evAs, callA_def, apart, Arg.ix, passAs, passA, backA, reown, permL, BOp.f, BOp.st, COp.f, BF.f, isaD, typeD, isNoneD, putR, putAll, storable, asgS_name, asgS_sub, asgS_tup, asgSs_nil, asgSs_cons, itemsM, asgT, asgTs, putS, vApp, seqD, atD, L2.atI, L2.ixN]
            exact tot_nil ⟨rfl, w, _, _, _, rfl, hw, hR.mono (sz_mono (by omega)), nx10, nx11⟩
        · simp [q, k__law_trial_0, k__law_trial_1, k__law_trial_4, k__law_trial_5, gl_0, gl_1, gl_2, S.den, E.den, Es.den, Ds.den, OE.den, Gs.den, So.den, TI'.den, TIs.den, mSeq, mRet, mRetVar, mSet, mPar, mAsg, mExpr, mIf, mNx, mFl, mStuck, andL, orL, var_v, var_o, var_t, sop_v, sop_o, sop_t, cmp_v, cmp_o, cmp_t, chain_v, chain_o, chain_t, and_v, and_o, and_t, or_v, or_o, or_t, not_v, not_o, not_t, ite_v, ite_o, ite_t, tup_v, tup_o, lst_v, lst_o, oOf_eq, tOf_eq, tstV_eq, vOp, evOs, evRs, evDs, vChain, rds, rd, SV.data, SV.isScr, oVar, vVar, sSl, vSl, evP, vRev, revD, List.filterMap_cons, vCallP, vCall, evAs, callA_def, apart, Arg.ix, passAs, passA, backA, reown, permL, BOp.f, BOp.st, COp.f, BF.f, isaD, typeD, isNoneD, putR, putAll, storable, asgS_name, asgS_sub, asgS_tup, asgSs_nil, asgSs_cons, itemsM, asgT, asgTs, putS, vApp, seqD, atD, L2.atI, L2.ixN]
          exact tot_nil ⟨rfl, w, _, _, _, rfl, hw, hR.mono (sz_mono (by omega)), nx10, nx11⟩
      · rintro _ _ ⟨rfl, w, row, x10, x11, rfl, hw, hR, nx10, nx11⟩
        refine nxt_nx (tot_cons ?_)
        have hl : rows.length < 16777216 := by omega
        have hl2 : sp.length < 16777216 := by omega
        have hl3 : is.length < 16777216 := by omega
        simp [hl, sizeLine, k__law_trial_0, k__law_trial_1, k__law_trial_4, k__law_trial_5, gl_0, gl_1, gl_2, S.den, E.den, Es.den, Ds.den, OE.den, Gs.den, So.den, TI'.den, TIs.den, mSeq, mRet, mRetVar, mSet, mPar, mAsg, mExpr, mIf, mNx, mFl, mStuck, andL, orL, var_v, var_o, var_t, sop_v, sop_o, sop_t, cmp_v, cmp_o, cmp_t, chain_v, chain_o, chain_t, and_v, and_o, and_t, or_v, or_o, or_t, not_v, not_o, not_t, ite_v, ite_o, ite_t, tup_v, tup_o, lst_v, lst_o, oOf_eq, tOf_eq, tstV_eq, vOp, evOs, evRs, evDs, vChain, rds, rd, SV.data, SV.isScr, oVar, vVar, sSl, vSl, evP, vRev, revD, List.filterMap_cons, vCallP, vCall, evAs, callA_def, apart, Arg.ix, passAs, passA, backA, reown, permL, BOp.f, BOp.st, COp.f, BF.f, isaD, typeD, isNoneD, putR, putAll, storable, asgS_name, asgS_sub, asgS_tup, asgSs_nil, asgSs_cons, itemsM, asgT, asgTs, putS, vApp, seqD, atD, L2.atI, L2.ixN]
        refine nxt_nx (tot_cons ?_)
        simp [sizeLine, k__law_trial_0, k__law_trial_1, k__law_trial_4, k__law_trial_5, gl_0, gl_1, gl_2, S.den, E.den, Es.den, Ds.den, OE.den, Gs.den, So.den, TI'.den, TIs.den, mSeq, mRet, mRetVar, mSet, mPar, mAsg, mExpr, mIf, mNx, mFl, mStuck, andL, orL, var_v, var_o, var_t, sop_v, sop_o, sop_t, cmp_v, cmp_o, cmp_t, chain_v, chain_o, chain_t, and_v, and_o, and_t, or_v, or_o, or_t, not_v, not_o, not_t, ite_v, ite_o, ite_t, tup_v, tup_o, lst_v, lst_o, oOf_eq, tOf_eq, tstV_eq, vOp, evOs, evRs, evDs, vChain, rds, rd, SV.data, SV.isScr, oVar, vVar, sSl, vSl, evP, vRev, revD, List.filterMap_cons, vCallP, vCall, evAs, callA_def, apart, Arg.ix, passAs, passA, backA, reown, permL, BOp.f, BOp.st, COp.f, BF.f, isaD, typeD, isNoneD, putR, putAll, storable, asgS_name, asgS_sub, asgS_tup, asgSs_nil, asgSs_cons, itemsM, asgT, asgTs, putS, vApp, seqD, atD, L2.atI, L2.ixN]
        refine tot_io (s__law_one hw _ _ (.inl rfl) (by simp) (by decide)) ?_
        rintro spr w hsp hw
        have hsp : Fr 20 spr ∧ posT spr = true := by
          simp at hsp
          rcases hsp with rfl | rfl | rfl | rfl | rfl <;> exact ⟨⟨_, _, rfl, by decide, by decide, by decide, by decide⟩, rfl⟩
        refine ⟨_, rfl, ?_⟩
        simp [hl2, sizeLine, k__law_trial_0, k__law_trial_1, k__law_trial_4, k__law_trial_5, gl_0, gl_1, gl_2, S.den, E.den, Es.den, Ds.den, OE.den, Gs.den, So.den, TI'.den, TIs.den, mSeq, mRet, mRetVar, mSet, mPar, mAsg, mExpr, mIf, mNx, mFl, mStuck, andL, orL, var_v, var_o, var_t, sop_v, sop_o, sop_t, cmp_v, cmp_o, cmp_t, chain_v, chain_o, chain_t, and_v, and_o, and_t, or_v, or_o, or_t, not_v, not_o, not_t, ite_v, ite_o, ite_t, tup_v, tup_o, lst_v, lst_o, oOf_eq, tOf_eq, tstV_eq, vOp, evOs, evRs, evDs, vChain, rds, rd, SV.data, SV.isScr, oVar, vVar, sSl, vSl, evP, vRev, revD, List.filterMap_cons, vCallP, vCall, evAs, callA_def, apart, Arg.ix, passAs, passA, backA, reown, permL, BOp.f, BOp.st, COp.f, BF.f, isaD, typeD, isNoneD, putR, putAll, storable, asgS_name, asgS_sub, asgS_tup, asgSs_nil, asgSs_cons, itemsM, asgT, asgTs, putS, vApp, seqD, atD, L2.atI, L2.ixN]
        refine nxt_nx (tot_cons ?_)
        have fin : ∀ (w : List PyData) (b : Int), Well w → 0 ≤ b ∧ b ≤ 4 → TJ m few n kinds (i + 1) [some (.io w), some (.frz (.int m)), some (.frz (.int i)), some (.frz (.int few)), some (.own (rows ++ [row])), some (.own (sp ++ [spr])), some (.own (is.map .int ++ [.int b])), some (.frz (.int n)), some (.frz (.int kinds)), some (.frz row), x10, x11, none, none] := by
          intro w b hw hb2
          refine ⟨w, some (.frz (.int i)), some (.frz row), x10, x11, rows ++ [row], sp ++ [spr], is ++ [b], by simp, hw, by simp [rl], ?_, by simp [sl], ?_, by simp [il], ?_, by simp, by simp, nx10, nx11⟩
          · intro r hr2
            rcases List.mem_append.mp hr2 with h | h
            · exact (hr r h).mono (sz_mono (by omega))
            · rw [List.mem_singleton.mp h]; exact hR
          · intro r hr2
            rcases List.mem_append.mp hr2 with h | h
            · exact hs r h
            · rw [List.mem_singleton.mp h]; exact hsp
          · intro r hr2
            rcases List.mem_append.mp hr2 with h | h
            · exact hb r h
            · rw [List.mem_singleton.mp h]; exact hb2
        by_cases z : 0 < kinds
        · simp [z, sizeLine, k__law_trial_0, k__law_trial_1, k__law_trial_4, k__law_trial_5, gl_0, gl_1, gl_2, S.den, E.den, Es.den, Ds.den, OE.den, Gs.den, So.den, TI'.den, TIs.den, mSeq, mRet, mRetVar, mSet, mPar, mAsg, mExpr, mIf, mNx, mFl, mStuck, andL, orL, var_v, var_o, var_t, sop_v, sop_o, sop_t, cmp_v, cmp_o, cmp_t, chain_v, chain_o, chain_t, and_v, and_o, and_t, or_v, or_o, or_t, not_v, not_o, not_t, ite_v, ite_o, ite_t, tup_v, tup_o, lst_v, lst_o, oOf_eq, tOf_eq, tstV_eq, vOp, evOs, evRs, evDs, vChain, rds, rd, SV.data, SV.isScr, oVar, vVar, sSl, vSl, evP, vRev, revD, List.filterMap_cons, vCallP, vCall, evAs, callA_def, apart, Arg.ix, passAs, passA, backA, reown, permL, BOp.f, BOp.st, COp.f, BF.f, isaD, typeD, isNoneD, putR, putAll, storable, asgS_name, asgS_sub, asgS_tup, asgSs_nil, asgSs_cons, itemsM, asgT, asgTs, putS, vApp, seqD, atD, L2.atI, L2.ixN]
          refine tot_io (s__law_draw hw kinds (by omega) (by omega)) ?_
          rintro _ w ⟨k, rfl, k0, k1⟩ hw
          refine ⟨_, rfl, ?_⟩
          simp [hl3, sizeLine, k__law_trial_0, k__law_trial_1, k__law_trial_4, k__law_trial_5, gl_0, gl_1, gl_2, S.den, E.den, Es.den, Ds.den, OE.den, Gs.den, So.den, TI'.den, TIs.den, mSeq, mRet, mRetVar, mSet, mPar, mAsg, mExpr, mIf, mNx, mFl, mStuck, andL, orL, var_v, var_o, var_t, sop_v, sop_o, sop_t, cmp_v, cmp_o, cmp_t, chain_v, chain_o, chain_t, and_v, and_o, and_t, or_v, or_o, or_t, not_v, not_o, not_t, ite_v, ite_o, ite_t, tup_v, tup_o, lst_v, lst_o, oOf_eq, tOf_eq, tstV_eq, vOp, evOs, evRs, evDs, vChain, rds, rd, SV.data, SV.isScr, oVar, vVar, sSl, vSl, evP, vRev, revD, List.filterMap_cons, vCallP, vCall, evAs, callA_def, apart, Arg.ix, passAs, passA, backA, reown, permL, BOp.f, BOp.st, COp.f, BF.f, isaD, typeD, isNoneD, putR, putAll, storable, asgS_name, asgS_sub, asgS_tup, asgSs_nil, asgSs_cons, itemsM, asgT, asgTs, putS, vApp, seqD, atD, L2.atI, L2.ixN]
          exact nxt_nx (tot_nil (fin w k hw ⟨k0, by omega⟩))
        · simp [z, hl3, sizeLine, k__law_trial_0, k__law_trial_1, k__law_trial_4, k__law_trial_5, gl_0, gl_1, gl_2, S.den, E.den, Es.den, Ds.den, OE.den, Gs.den, So.den, TI'.den, TIs.den, mSeq, mRet, mRetVar, mSet, mPar, mAsg, mExpr, mIf, mNx, mFl, mStuck, andL, orL, var_v, var_o, var_t, sop_v, sop_o, sop_t, cmp_v, cmp_o, cmp_t, chain_v, chain_o, chain_t, and_v, and_o, and_t, or_v, or_o, or_t, not_v, not_o, not_t, ite_v, ite_o, ite_t, tup_v, tup_o, lst_v, lst_o, oOf_eq, tOf_eq, tstV_eq, vOp, evOs, evRs, evDs, vChain, rds, rd, SV.data, SV.isScr, oVar, vVar, sSl, vSl, evP, vRev, revD, List.filterMap_cons, vCallP, vCall, evAs, callA_def, apart, Arg.ix, passAs, passA, backA, reown, permL, BOp.f, BOp.st, COp.f, BF.f, isaD, typeD, isNoneD, putR, putAll, storable, asgS_name, asgS_sub, asgS_tup, asgSs_nil, asgSs_cons, itemsM, asgT, asgTs, putS, vApp, seqD, atD, L2.atI, L2.ixN]
          exact nxt_nx (tot_nil (fin w 0 hw ⟨by omega, by omega⟩))
  · rintro env ⟨w, x2, x9, x10, x11, rows, sp, is, rfl, hw, rl, hr, sl, hs, il, hb, nx2, nx9, nx10, nx11⟩
    simp [restS, mergeS]
    refine nxt_nx (tot_cons ?_)
    have e1 := sz_le (n := n.toNat) (by omega)
    have fin : ∀ is2 : List Int, (∀ j ∈ is2, 0 ≤ j ∧ j ≤ 4) → (is2 = [] ∨ is2.length = rows.length) → GenT m (.tuple [.tuple rows, .tuple sp, .tuple (is2.map .int)]) := fun is2 g1 g2 =>
      ⟨few.toNat, rows, sp, is2, rfl, by omega, by omega, by omega, by omega, fun r h => (hr r h).mono e1.2, by omega, hs, g1, g2⟩
    by_cases z : 0 < kinds
    · simp [z, sizeLine, k__law_trial_0, k__law_trial_1, k__law_trial_4, k__law_trial_5, gl_0, gl_1, gl_2, S.den, E.den, Es.den, Ds.den, OE.den, Gs.den, So.den, TI'.den, TIs.den, mSeq, mRet, mRetVar, mSet, mPar, mAsg, mExpr, mIf, mNx, mFl, mStuck, andL, orL, var_v, var_o, var_t, sop_v, sop_o, sop_t, cmp_v, cmp_o, cmp_t, chain_v, chain_o, chain_t, and_v, and_o, and_t, or_v, or_o, or_t, not_v, not_o, not_t, ite_v, ite_o, ite_t, tup_v, tup_o, lst_v, lst_o, oOf_eq, tOf_eq, tstV_eq, vOp, evOs, evRs, evDs, vChain, rds, rd, SV.data, SV.isScr, oVar, vVar, sSl, vSl, evP, vRev, revD, List.filterMap_cons, vCallP, vCall, evAs, callA_def, apart, Arg.ix, passAs, passA, backA, reown, permL, BOp.f, BOp.st, COp.f, BF.f, isaD, typeD, isNoneD, putR, putAll, storable, asgS_name, asgS_sub, asgS_tup, asgSs_nil, asgSs_cons, itemsM, asgT, asgTs, putS, vApp, seqD, atD, L2.atI, L2.ixN]
      exact ⟨_, _, rfl, fin is hb (.inr (by omega)), hw, rfl⟩
    · simp [z, sizeLine, k__law_trial_0, k__law_trial_1, k__law_trial_4, k__law_trial_5, gl_0, gl_1, gl_2, S.den, E.den, Es.den, Ds.den, OE.den, Gs.den, So.den, TI'.den, TIs.den, mSeq, mRet, mRetVar, mSet, mPar, mAsg, mExpr, mIf, mNx, mFl, mStuck, andL, orL, var_v, var_o, var_t, sop_v, sop_o, sop_t, cmp_v, cmp_o, cmp_t, chain_v, chain_o, chain_t, and_v, and_o, and_t, or_v, or_o, or_t, not_v, not_o, not_t, ite_v, ite_o, ite_t, tup_v, tup_o, lst_v, lst_o, oOf_eq, tOf_eq, tstV_eq, vOp, evOs, evRs, evDs, vChain, rds, rd, SV.data, SV.isScr, oVar, vVar, sSl, vSl, evP, vRev, revD, List.filterMap_cons, vCallP, vCall, evAs, callA_def, apart, Arg.ix, passAs, passA, backA, reown, permL, BOp.f, BOp.st, COp.f, BF.f, isaD, typeD, isNoneD, putR, putAll, storable, asgS_name, asgS_sub, asgS_tup, asgSs_nil, asgSs_cons, itemsM, asgT, asgTs, putS, vApp, seqD, atD, L2.atI, L2.ixN]
      exact ⟨_, _, rfl, fin [] (fun _ h => (by cases h)) (.inl rfl), hw, rfl⟩
end K02
end SP9

section SP10
set_option exponentiation.threshold 20000
namespace K02
open PySem Tw
/-! ## the law's own predicates, on data whose whole numbers are small -/
mutual
def Sm (N L : Nat) : PyData → Prop
  | .int i => i.natAbs ≤ N
  | .list xs => xs.length ≤ L ∧ SmA N L xs
  | .tuple xs => xs.length ≤ L ∧ SmA N L xs
  | _ => True
def SmA (N L : Nat) : List PyData → Prop
  | [] => True
  | x :: xs => Sm N L x ∧ SmA N L xs
end
theorem SmA_mem {N L : Nat} : ∀ {xs : List PyData}, SmA N L xs → ∀ x ∈ xs, Sm N L x
  | y :: xs, h, x, hx => by
    rcases List.mem_cons.mp hx with rfl | hx
    · exact h.1
    · exact SmA_mem h.2 x hx
theorem SmA_of {N L : Nat} : ∀ {xs : List PyData}, (∀ x ∈ xs, Sm N L x) → SmA N L xs
  | [], _ => trivial
  | y :: xs, h => ⟨h y List.mem_cons_self, SmA_of fun x hx => h x (List.mem_cons_of_mem _ hx)⟩
/-- whole numbers that the law may divide by -/
def Big : Nat := 2 ^ 8999
theorem lo_self {a b : Int} (hb : 0 < b) : (lo1 a b == a && lo2 a b == b) = (Nat.gcd a.natAbs b.natAbs == 1) := by
  have g0 : 0 < Int.gcd a b := Int.gcd_pos_of_ne_zero_right a (by omega)
  show _ = (Int.gcd a b == 1)
  by_cases h : Int.gcd a b = 1
  · simp [lo1, lo2, h]
  · have : (lo2 a b == b) = false := by
      rw [beq_eq_false_iff_ne]
      intro z
      unfold lo2 at z
      have d : (Int.gcd a b : Int) ∣ b := Int.gcd_dvd_right ..
      have e := Int.ediv_mul_cancel d
      rw [z] at e
      have : (Int.gcd a b : Int) = 1 := by
        have e2 : b * (Int.gcd a b : Int) = b * 1 := by rw [e, Int.mul_one]
        exact Int.eq_of_mul_eq_mul_left (by omega) e2
      omega
    simp [this, h]
set_option maxHeartbeats 1000000 in
theorem s__law_is_part {L : Nat} (d : PyData) (hs : Sm Big L d) : c__law_is_part [.frz d] = some (.ok (.frz (.bool (isR d))) [some (.frz d)]) := by
  rw [e__law_is_part]
  refine tot_eq (tot_defC ?_)
  cases h : isTup d 2 with
  | false =>
    simp [s__law_is_tuple, h, isR_tup h, b__law_is_part, k__law_is_part_2, k__law_is_part_7, k__law_is_part_11, gl_0, gl_1, gl_2, Ss.den, S.den, E.den, Es.den, Ds.den, OE.den, Gs.den, So.den, TI'.den, TIs.den, mSeq, mRet, mRetVar, mSet, mPar, mAsg, mExpr, mIf, mNx, mFl, mStuck, andL, orL, var_v, var_o, var_t, sop_v, sop_o, sop_t, cmp_v, cmp_o, cmp_t, chain_v, chain_o, chain_t, and_v, and_o, and_t, or_v, or_o, or_t, not_v, not_o, not_t, ite_v, ite_o, ite_t, tup_v, tup_o, lst_v, lst_o, oOf_eq, tOf_eq, tstV_eq, vOp, evOs, evRs, evDs, vChain, rds, rd, SV.data, SV.isScr, oVar, vVar, sSl, vSl, evP, vRev, revD, List.filterMap_cons, vCallP, vCall, evAs, callA_def, apart, Arg.ix, passAs, passA, backA, reown, permL, BOp.f, BOp.st, COp.f, BF.f, isaD, typeD, isNoneD, putR, putAll, storable, asgS_name, asgS_sub, asgS_tup, asgSs_nil, asgSs_cons, itemsM, asgT, asgTs, putS, vApp, seqD, atD, L2.atI, L2.ixN]
  | true =>
    obtain ⟨x, y, rfl⟩ := isTup_2 h
    cases hx : isW x with
    | false => simp [s__law_is_whole, s__law_is_tuple, h, hx, isR_1 hx, b__law_is_part, k__law_is_part_2, k__law_is_part_7, k__law_is_part_11, gl_0, gl_1, gl_2, Ss.den, S.den, E.den, Es.den, Ds.den, OE.den, Gs.den, So.den, TI'.den, TIs.den, mSeq, mRet, mRetVar, mSet, mPar, mAsg, mExpr, mIf, mNx, mFl, mStuck, andL, orL, var_v, var_o, var_t, sop_v, sop_o, sop_t, cmp_v, cmp_o, cmp_t, chain_v, chain_o, chain_t, and_v, and_o, and_t, or_v, or_o, or_t, not_v, not_o, not_t, ite_v, ite_o, ite_t, tup_v, tup_o, lst_v, lst_o, oOf_eq, tOf_eq, tstV_eq, vOp, evOs, evRs, evDs, vChain, rds, rd, SV.data, SV.isScr, oVar, vVar, sSl, vSl, evP, vRev, revD, List.filterMap_cons, vCallP, vCall, evAs, callA_def, apart, Arg.ix, passAs, passA, backA, reown, permL, BOp.f, BOp.st, COp.f, BF.f, isaD, typeD, isNoneD, putR, putAll, storable, asgS_name, asgS_sub, asgS_tup, asgSs_nil, asgSs_cons, itemsM, asgT, asgTs, putS, vApp, seqD, atD, L2.atI, L2.ixN]
    | true =>
      cases hy : isW y with
      | false => simp [s__law_is_whole, s__law_is_tuple, h, hx, hy, isR_2 hy, b__law_is_part, k__law_is_part_2, k__law_is_part_7, k__law_is_part_11, gl_0, gl_1, gl_2, Ss.den, S.den, E.den, Es.den, Ds.den, OE.den, Gs.den, So.den, TI'.den, TIs.den, mSeq, mRet, mRetVar, mSet, mPar, mAsg, mExpr, mIf, mNx, mFl, mStuck, andL, orL, var_v, var_o, var_t, sop_v, sop_o, sop_t, cmp_v, cmp_o, cmp_t, chain_v, chain_o, chain_t, and_v, and_o, and_t, or_v, or_o, or_t, not_v, not_o, not_t, ite_v, ite_o, ite_t, tup_v, tup_o, lst_v, lst_o, oOf_eq, tOf_eq, tstV_eq, vOp, evOs, evRs, evDs, vChain, rds, rd, SV.data, SV.isScr, oVar, vVar, sSl, vSl, evP, vRev, revD, List.filterMap_cons, vCallP, vCall, evAs, callA_def, apart, Arg.ix, passAs, passA, backA, reown, permL, BOp.f, BOp.st, COp.f, BF.f, isaD, typeD, isNoneD, putR, putAll, storable, asgS_name, asgS_sub, asgS_tup, asgSs_nil, asgSs_cons, itemsM, asgT, asgTs, putS, vApp, seqD, atD, L2.atI, L2.ixN]
      | true =>
        obtain ⟨a, rfl⟩ := isW_int hx
        obtain ⟨b, rfl⟩ := isW_int hy
        by_cases hb : 0 < b
        · have hl : b.natAbs < 2 ^ 9000 := by
            have h1 : b.natAbs ≤ Big := hs.2.2.1
            have h2 : Big < 2 ^ 9000 := by unfold Big; exact Nat.pow_lt_pow_right (by decide) (by decide)
            omega
          have q := lo_self (a := a) hb
          simp [s__law_is_whole, s__law_is_tuple, h, hx, hy, isR, hb, s__law_lean a b hb hl, q, b__law_is_part, k__law_is_part_2, k__law_is_part_7, k__law_is_part_11, gl_0, gl_1, gl_2, Ss.den, S.den, E.den, Es.den, Ds.den, OE.den, Gs.den, So.den, TI'.den, TIs.den, mSeq, mRet, mRetVar, mSet, mPar, mAsg, mExpr, mIf, mNx, mFl, mStuck, andL, orL, var_v, var_o, var_t, sop_v, sop_o, sop_t, cmp_v, cmp_o, cmp_t, chain_v, chain_o, chain_t, and_v, and_o, and_t, or_v, or_o, or_t, not_v, not_o, not_t, ite_v, ite_o, ite_t, tup_v, tup_o, lst_v, lst_o, oOf_eq, tOf_eq, tstV_eq, vOp, evOs, evRs, evDs, vChain, rds, rd, SV.data, SV.isScr, oVar, vVar, sSl, vSl, evP, vRev, revD, List.filterMap_cons, vCallP, vCall, evAs, callA_def, apart, Arg.ix, passAs, passA, backA, reown, permL, BOp.f, BOp.st, COp.f, BF.f, isaD, typeD, isNoneD, putR, putAll, storable, asgS_name, asgS_sub, asgS_tup, asgSs_nil, asgSs_cons, itemsM, asgT, asgTs, putS, vApp, seqD, atD, L2.atI, L2.ixN]
        · simp [s__law_is_whole, s__law_is_tuple, h, hx, hy, isR, hb, b__law_is_part, k__law_is_part_2, k__law_is_part_7, k__law_is_part_11, gl_0, gl_1, gl_2, Ss.den, S.den, E.den, Es.den, Ds.den, OE.den, Gs.den, So.den, TI'.den, TIs.den, mSeq, mRet, mRetVar, mSet, mPar, mAsg, mExpr, mIf, mNx, mFl, mStuck, andL, orL, var_v, var_o, var_t, sop_v, sop_o, sop_t, cmp_v, cmp_o, cmp_t, chain_v, chain_o, chain_t, and_v, and_o, and_t, or_v, or_o, or_t, not_v, not_o, not_t, ite_v, ite_o, ite_t, tup_v, tup_o, lst_v, lst_o, oOf_eq, tOf_eq, tstV_eq, vOp, evOs, evRs, evDs, vChain, rds, rd, SV.data, SV.isScr, oVar, vVar, sSl, vSl, evP, vRev, revD, List.filterMap_cons, vCallP, vCall, evAs, callA_def, apart, Arg.ix, passAs, passA, backA, reown, permL, BOp.f, BOp.st, COp.f, BF.f, isaD, typeD, isNoneD, putR, putAll, storable, asgS_name, asgS_sub, asgS_tup, asgSs_nil, asgSs_cons, itemsM, asgT, asgTs, putS, vApp, seqD, atD, L2.atI, L2.ixN]
theorem lc_part {L : Nat} {ds : List PyData} {n : Int} (hs : ∀ d ∈ ds, Sm Big L d) (h : ds.length ≤ sizeLine) : vLc [2] (vSeq (sVar 0)) (.name 2) none (.of (vCallP c__law_is_part [.lend 2])) [some (.frz (.tuple ds)), some (.frz (.int n)), none] = some (.ok (.own (ds.map fun d => .bool (isR d))) [some (.frz (.tuple ds)), some (.frz (.int n)), none]) := by
  refine lc_seq (d0 := .tuple ds) rfl (.inl rfl) rfl h fun d hd => ⟨.frz (.bool (isR d)), ?_, rfl⟩
  simp [s__law_is_part d (hs d hd), Ss.den, S.den, E.den, Es.den, Ds.den, OE.den, Gs.den, So.den, TI'.den, TIs.den, mSeq, mRet, mRetVar, mSet, mPar, mAsg, mExpr, mIf, mNx, mFl, mStuck, andL, orL, var_v, var_o, var_t, sop_v, sop_o, sop_t, cmp_v, cmp_o, cmp_t, chain_v, chain_o, chain_t, and_v, and_o, and_t, or_v, or_o, or_t, not_v, not_o, not_t, ite_v, ite_o, ite_t, tup_v, tup_o, lst_v, lst_o, oOf_eq, tOf_eq, tstV_eq, vOp, evOs, evRs, evDs, vChain, rds, rd, SV.data, SV.isScr, oVar, vVar, sSl, vSl, evP, vRev, revD, List.filterMap_cons, vCallP, vCall, evAs, callA_def, apart, Arg.ix, passAs, passA, backA, reown, permL, BOp.f, BOp.st, COp.f, BF.f, isaD, typeD, isNoneD, putR, putAll, storable, asgS_name, asgS_sub, asgS_tup, asgSs_nil, asgSs_cons, itemsM, asgT, asgTs, putS, vApp, seqD, atD, L2.atI, L2.ixN]
theorem s__law_is_row {L : Nat} (d : PyData) (hs : Sm Big L d) (n : Int) (hn : n ≤ 1000) : c__law_is_row [.frz d, .frz (.int n)] = some (.ok (.frz (.bool (isRow d n))) [some (.frz d), some (.frz (.int n))]) := by
  rw [e__law_is_row]
  refine tot_eq (tot_defC ?_)
  cases d with
  | tuple ds =>
    by_cases h : (ds.length : Int) = n
    · simp [s__law_is_tuple, isTup, isRow, h, lc_part (ds := ds) (SmA_mem hs.2) (small_len (show ds.length ≤ 1000 by omega)), Function.comp_def, b__law_is_row, k__law_is_row_11, k__law_is_row_12, gl_0, gl_1, gl_2, Ss.den, S.den, E.den, Es.den, Ds.den, OE.den, Gs.den, So.den, TI'.den, TIs.den, mSeq, mRet, mRetVar, mSet, mPar, mAsg, mExpr, mIf, mNx, mFl, mStuck, andL, orL, var_v, var_o, var_t, sop_v, sop_o, sop_t, cmp_v, cmp_o, cmp_t, chain_v, chain_o, chain_t, and_v, and_o, and_t, or_v, or_o, or_t, not_v, not_o, not_t, ite_v, ite_o, ite_t, tup_v, tup_o, lst_v, lst_o, oOf_eq, tOf_eq, tstV_eq, vOp, evOs, evRs, evDs, vChain, rds, rd, SV.data, SV.isScr, oVar, vVar, sSl, vSl, evP, vRev, revD, List.filterMap_cons, vCallP, vCall, evAs, callA_def, apart, Arg.ix, passAs, passA, backA, reown, permL, BOp.f, BOp.st, COp.f, BF.f, isaD, typeD, isNoneD, putR, putAll, storable, asgS_name, asgS_sub, asgS_tup, asgSs_nil, asgSs_cons, itemsM, asgT, asgTs, putS, vApp, seqD, atD, L2.atI, L2.ixN]
    · simp [s__law_is_tuple, isTup, isRow, h, b__law_is_row, k__law_is_row_11, k__law_is_row_12, gl_0, gl_1, gl_2, Ss.den, S.den, E.den, Es.den, Ds.den, OE.den, Gs.den, So.den, TI'.den, TIs.den, mSeq, mRet, mRetVar, mSet, mPar, mAsg, mExpr, mIf, mNx, mFl, mStuck, andL, orL, var_v, var_o, var_t, sop_v, sop_o, sop_t, cmp_v, cmp_o, cmp_t, chain_v, chain_o, chain_t, and_v, and_o, and_t, or_v, or_o, or_t, not_v, not_o, not_t, ite_v, ite_o, ite_t, tup_v, tup_o, lst_v, lst_o, oOf_eq, tOf_eq, tstV_eq, vOp, evOs, evRs, evDs, vChain, rds, rd, SV.data, SV.isScr, oVar, vVar, sSl, vSl, evP, vRev, revD, List.filterMap_cons, vCallP, vCall, evAs, callA_def, apart, Arg.ix, passAs, passA, backA, reown, permL, BOp.f, BOp.st, COp.f, BF.f, isaD, typeD, isNoneD, putR, putAll, storable, asgS_name, asgS_sub, asgS_tup, asgSs_nil, asgSs_cons, itemsM, asgT, asgTs, putS, vApp, seqD, atD, L2.atI, L2.ixN]
  | _ => simp [s__law_is_tuple, isTup, isRow, b__law_is_row, k__law_is_row_11, k__law_is_row_12, gl_0, gl_1, gl_2, Ss.den, S.den, E.den, Es.den, Ds.den, OE.den, Gs.den, So.den, TI'.den, TIs.den, mSeq, mRet, mRetVar, mSet, mPar, mAsg, mExpr, mIf, mNx, mFl, mStuck, andL, orL, var_v, var_o, var_t, sop_v, sop_o, sop_t, cmp_v, cmp_o, cmp_t, chain_v, chain_o, chain_t, and_v, and_o, and_t, or_v, or_o, or_t, not_v, not_o, not_t, ite_v, ite_o, ite_t, tup_v, tup_o, lst_v, lst_o, oOf_eq, tOf_eq, tstV_eq, vOp, evOs, evRs, evDs, vChain, rds, rd, SV.data, SV.isScr, oVar, vVar, sSl, vSl, evP, vRev, revD, List.filterMap_cons, vCallP, vCall, evAs, callA_def, apart, Arg.ix, passAs, passA, backA, reown, permL, BOp.f, BOp.st, COp.f, BF.f, isaD, typeD, isNoneD, putR, putAll, storable, asgS_name, asgS_sub, asgS_tup, asgSs_nil, asgSs_cons, itemsM, asgT, asgTs, putS, vApp, seqD, atD, L2.atI, L2.ixN]
end K02
end SP10

section SP11
namespace K02
open PySem Tw
theorem lc_lrow {L : Nat} {a0 a2 a3 a4 a5 : Option SV} {ds r0 : List PyData} (hs : ∀ d ∈ ds, Sm Big L d) (h : ds.length ≤ 1000) (e : ds[0]? = some (.tuple r0)) (hr : r0.length ≤ 1000) : vLc [6] (vSeq (sVar 1)) (.name 6) none (.of (vCallP c__law_is_row [.lend 6, .val (sOp false dLen [sOp false dIdx [sVar 1, sCst (.int 0)]])])) [a0, some (.frz (.tuple ds)), a2, a3, a4, a5, none] = some (.ok (.own (ds.map fun d => .bool (isRow d r0.length))) [a0, some (.frz (.tuple ds)), a2, a3, a4, a5, none]) := by
  refine lc_seq (d0 := .tuple ds) rfl (.inl rfl) rfl (small_len h) fun d hd => ⟨.frz (.bool (isRow d r0.length)), ?_, rfl⟩
  have q := hs d hd
  cases ds with
  | nil => cases e
  | cons x r =>
    simp at e
    subst e
    simp [s__law_is_row d q, show (r0.length : Int) ≤ 1000 by omega, show (0 : Int) < (r.length : Int) + 1 by omega, Ss.den, S.den, E.den, Es.den, Ds.den, OE.den, Gs.den, So.den, TI'.den, TIs.den, mSeq, mRet, mRetVar, mSet, mPar, mAsg, mExpr, mIf, mNx, mFl, mStuck, andL, orL, var_v, var_o, var_t, sop_v, sop_o, sop_t, cmp_v, cmp_o, cmp_t, chain_v, chain_o, chain_t, and_v, and_o, and_t, or_v, or_o, or_t, not_v, not_o, not_t, ite_v, ite_o, ite_t, tup_v, tup_o, lst_v, lst_o, oOf_eq, tOf_eq, tstV_eq, vOp, evOs, evRs, evDs, vChain, rds, rd, SV.data, SV.isScr, oVar, vVar, sSl, vSl, evP, vRev, revD, List.filterMap_cons, vCallP, vCall, evAs, callA_def, apart, Arg.ix, passAs, passA, backA, reown, permL, BOp.f, BOp.st, COp.f, BF.f, isaD, typeD, isNoneD, putR, putAll, storable, asgS_name, asgS_sub, asgS_tup, asgSs_nil, asgSs_cons, itemsM, asgT, asgTs, putS, vApp, seqD, atD, L2.atI, L2.ixN]
theorem lc_neg {a0 a1 a3 a4 a6 : Option SV} {ds : List PyData} (h : ds.length ≤ 1000) (hr : ∀ x ∈ ds, isR x = true) : vLc [5] (vSeq (sVar 2)) (.name 5) none (sCmp dLe [sOp false dIdx [sVar 5, sCst (.int 0)], sCst (.int 0)]) [a0, a1, some (.frz (.tuple ds)), a3, a4, none, a6] =
    some (.ok (.own (ds.map fun d => .bool (!posT d))) [a0, a1, some (.frz (.tuple ds)), a3, a4, none, a6]) := by
  refine lc_seq (d0 := .tuple ds) rfl (.inl rfl) rfl (small_len h) fun d hd => ⟨.frz (.bool (!posT d)), ?_, rfl⟩
  obtain ⟨x, y, rfl, _⟩ := isR_pair (hr d hd)
  by_cases z : 0 < x
  · simp [posT, z, show ¬ x ≤ 0 by omega, Ss.den, S.den, E.den, Es.den, Ds.den, OE.den, Gs.den, So.den, TI'.den, TIs.den, mSeq, mRet, mRetVar, mSet, mPar, mAsg, mExpr, mIf, mNx, mFl, mStuck, andL, orL, var_v, var_o, var_t, sop_v, sop_o, sop_t, cmp_v, cmp_o, cmp_t, chain_v, chain_o, chain_t, and_v, and_o, and_t, or_v, or_o, or_t, not_v, not_o, not_t, ite_v, ite_o, ite_t, tup_v, tup_o, lst_v, lst_o, oOf_eq, tOf_eq, tstV_eq, vOp, evOs, evRs, evDs, vChain, rds, rd, SV.data, SV.isScr, oVar, vVar, sSl, vSl, evP, vRev, revD, List.filterMap_cons, vCallP, vCall, evAs, callA_def, apart, Arg.ix, passAs, passA, backA, reown, permL, BOp.f, BOp.st, COp.f, BF.f, isaD, typeD, isNoneD, putR, putAll, storable, asgS_name, asgS_sub, asgS_tup, asgSs_nil, asgSs_cons, itemsM, asgT, asgTs, putS, vApp, seqD, atD, L2.atI, L2.ixN]
  · simp [posT, z, show x ≤ 0 by omega, Ss.den, S.den, E.den, Es.den, Ds.den, OE.den, Gs.den, So.den, TI'.den, TIs.den, mSeq, mRet, mRetVar, mSet, mPar, mAsg, mExpr, mIf, mNx, mFl, mStuck, andL, orL, var_v, var_o, var_t, sop_v, sop_o, sop_t, cmp_v, cmp_o, cmp_t, chain_v, chain_o, chain_t, and_v, and_o, and_t, or_v, or_o, or_t, not_v, not_o, not_t, ite_v, ite_o, ite_t, tup_v, tup_o, lst_v, lst_o, oOf_eq, tOf_eq, tstV_eq, vOp, evOs, evRs, evDs, vChain, rds, rd, SV.data, SV.isScr, oVar, vVar, sSl, vSl, evP, vRev, revD, List.filterMap_cons, vCallP, vCall, evAs, callA_def, apart, Arg.ix, passAs, passA, backA, reown, permL, BOp.f, BOp.st, COp.f, BF.f, isaD, typeD, isNoneD, putR, putAll, storable, asgS_name, asgS_sub, asgS_tup, asgSs_nil, asgSs_cons, itemsM, asgT, asgTs, putS, vApp, seqD, atD, L2.atI, L2.ixN]
theorem lc_blk {a0 a1 a2 a5 a6 : Option SV} {ds : List PyData} (h : ds.length ≤ 1000) : vLc [4] (vSeq (sVar 3)) (.name 4) none (sAnd1 (.of (vCallP c__law_is_whole [.lend 4])) (sChain dLe dLe (sCst (.int 0)) (sVar 4) (sCst (.int 4)))) [a0, a1, a2, some (.frz (.tuple ds)), none, a5, a6] =
    some (.ok (.own (ds.map fun d => .bool (isBt d 0 4))) [a0, a1, a2, some (.frz (.tuple ds)), none, a5, a6]) := by
  refine lc_seq (d0 := .tuple ds) rfl (.inl rfl) rfl (small_len h) fun d hd => ⟨.frz (.bool (isBt d 0 4)), ?_, rfl⟩
  cases d with
  | int i =>
    by_cases z : 0 ≤ i <;> simp [s__law_is_whole, isW, isBt, z, Ss.den, S.den, E.den, Es.den, Ds.den, OE.den, Gs.den, So.den, TI'.den, TIs.den, mSeq, mRet, mRetVar, mSet, mPar, mAsg, mExpr, mIf, mNx, mFl, mStuck, andL, orL, var_v, var_o, var_t, sop_v, sop_o, sop_t, cmp_v, cmp_o, cmp_t, chain_v, chain_o, chain_t, and_v, and_o, and_t, or_v, or_o, or_t, not_v, not_o, not_t, ite_v, ite_o, ite_t, tup_v, tup_o, lst_v, lst_o, oOf_eq, tOf_eq, tstV_eq, vOp, evOs, evRs, evDs, vChain, rds, rd, SV.data, SV.isScr, oVar, vVar, sSl, vSl, evP, vRev, revD, List.filterMap_cons, vCallP, vCall, evAs, callA_def, apart, Arg.ix, passAs, passA, backA, reown, permL, BOp.f, BOp.st, COp.f, BF.f, isaD, typeD, isNoneD, putR, putAll, storable, asgS_name, asgS_sub, asgS_tup, asgSs_nil, asgSs_cons, itemsM, asgT, asgTs, putS, vApp, seqD, atD, L2.atI, L2.ixN]
  | _ => simp [s__law_is_whole, isW, isBt, Ss.den, S.den, E.den, Es.den, Ds.den, OE.den, Gs.den, So.den, TI'.den, TIs.den, mSeq, mRet, mRetVar, mSet, mPar, mAsg, mExpr, mIf, mNx, mFl, mStuck, andL, orL, var_v, var_o, var_t, sop_v, sop_o, sop_t, cmp_v, cmp_o, cmp_t, chain_v, chain_o, chain_t, and_v, and_o, and_t, or_v, or_o, or_t, not_v, not_o, not_t, ite_v, ite_o, ite_t, tup_v, tup_o, lst_v, lst_o, oOf_eq, tOf_eq, tstV_eq, vOp, evOs, evRs, evDs, vChain, rds, rd, SV.data, SV.isScr, oVar, vVar, sSl, vSl, evP, vRev, revD, List.filterMap_cons, vCallP, vCall, evAs, callA_def, apart, Arg.ix, passAs, passA, backA, reown, permL, BOp.f, BOp.st, COp.f, BF.f, isaD, typeD, isNoneD, putR, putAll, storable, asgS_name, asgS_sub, asgS_tup, asgSs_nil, asgSs_cons, itemsM, asgT, asgTs, putS, vApp, seqD, atD, L2.atI, L2.ixN]
theorem any_neg {ds : List PyData} : ((ds.map fun d => !posT d).any id) = !ds.all posT := by
  induction ds with
  | nil => rfl
  | cons d r ih => simp at ih ⊢; simp [ih]
set_option maxHeartbeats 4000000 in
theorem s__law_is_trial {L : Nat} (d : PyData) (hs : Sm Big L d) : c__law_is_trial [.frz d] = some (.ok (.frz (.bool (isTri d))) [some (.frz d)]) := by
  rw [e__law_is_trial]
  refine tot_eq (tot_defC ?_)
  unfold b__law_is_trial
  refine tot_cons ?_
  cases h : isTup d 3 with
  | false =>
    simp [s__law_is_tuple, h, isTri_tup h, k__law_is_trial_7, k__law_is_trial_11, k__law_is_trial_13, gl_0, gl_1, gl_2, S.den, E.den, Es.den, Ds.den, OE.den, Gs.den, So.den, TI'.den, TIs.den, mSeq, mRet, mRetVar, mSet, mPar, mAsg, mExpr, mIf, mNx, mFl, mStuck, andL, orL, var_v, var_o, var_t, sop_v, sop_o, sop_t, cmp_v, cmp_o, cmp_t, chain_v, chain_o, chain_t, and_v, and_o, and_t, or_v, or_o, or_t, not_v, not_o, not_t, ite_v, ite_o, ite_t, tup_v, tup_o, lst_v, lst_o, oOf_eq, tOf_eq, tstV_eq, vOp, evOs, evRs, evDs, vChain, rds, rd, SV.data, SV.isScr, oVar, vVar, sSl, vSl, evP, vRev, revD, List.filterMap_cons, vCallP, vCall, evAs, callA_def, apart, Arg.ix, passAs, passA, backA, reown, permL, BOp.f, BOp.st, COp.f, BF.f, isaD, typeD, isNoneD, putR, putAll, storable, asgS_name, asgS_sub, asgS_tup, asgSs_nil, asgSs_cons, itemsM, asgT, asgTs, putS, vApp, seqD, atD, L2.atI, L2.ixN]
    refine tot_cons ?_
    simp [s__law_is_tuple, h, isTri_tup h, k__law_is_trial_7, k__law_is_trial_11, k__law_is_trial_13, gl_0, gl_1, gl_2, S.den, E.den, Es.den, Ds.den, OE.den, Gs.den, So.den, TI'.den, TIs.den, mSeq, mRet, mRetVar, mSet, mPar, mAsg, mExpr, mIf, mNx, mFl, mStuck, andL, orL, var_v, var_o, var_t, sop_v, sop_o, sop_t, cmp_v, cmp_o, cmp_t, chain_v, chain_o, chain_t, and_v, and_o, and_t, or_v, or_o, or_t, not_v, not_o, not_t, ite_v, ite_o, ite_t, tup_v, tup_o, lst_v, lst_o, oOf_eq, tOf_eq, tstV_eq, vOp, evOs, evRs, evDs, vChain, rds, rd, SV.data, SV.isScr, oVar, vVar, sSl, vSl, evP, vRev, revD, List.filterMap_cons, vCallP, vCall, evAs, callA_def, apart, Arg.ix, passAs, passA, backA, reown, permL, BOp.f, BOp.st, COp.f, BF.f, isaD, typeD, isNoneD, putR, putAll, storable, asgS_name, asgS_sub, asgS_tup, asgSs_nil, asgSs_cons, itemsM, asgT, asgTs, putS, vApp, seqD, atD, L2.atI, L2.ixN]
  | true =>
    obtain ⟨p, s, b, rfl⟩ := isTup3 h
    obtain ⟨_, hp, hsp, hb, _⟩ := hs
    have eT : isTri (.tuple [p, s, b]) = (arePl p && isRow s (lenT p) && allPos s && areBl b (lenT p)) := rfl
    rw [eT]
    clear eT
    cases p with
    | tuple ds =>
      by_cases l1 : (1 : Int) ≤ ds.length ∧ (ds.length : Int) ≤ 10
      · simp [s__law_is_tuple, h, l1, k__law_is_trial_7, k__law_is_trial_11, k__law_is_trial_13, gl_0, gl_1, gl_2, S.den, E.den, Es.den, Ds.den, OE.den, Gs.den, So.den, TI'.den, TIs.den, mSeq, mRet, mRetVar, mSet, mPar, mAsg, mExpr, mIf, mNx, mFl, mStuck, andL, orL, var_v, var_o, var_t, sop_v, sop_o, sop_t, cmp_v, cmp_o, cmp_t, chain_v, chain_o, chain_t, and_v, and_o, and_t, or_v, or_o, or_t, not_v, not_o, not_t, ite_v, ite_o, ite_t, tup_v, tup_o, lst_v, lst_o, oOf_eq, tOf_eq, tstV_eq, vOp, evOs, evRs, evDs, vChain, rds, rd, SV.data, SV.isScr, oVar, vVar, sSl, vSl, evP, vRev, revD, List.filterMap_cons, vCallP, vCall, evAs, callA_def, apart, Arg.ix, passAs, passA, backA, reown, permL, BOp.f, BOp.st, COp.f, BF.f, isaD, typeD, isNoneD, putR, putAll, storable, asgS_name, asgS_sub, asgS_tup, asgSs_nil, asgSs_cons, itemsM, asgT, asgTs, putS, vApp, seqD, atD, L2.atI, L2.ixN]
        refine tot_nil (nxt_nx (tot_cons ?_))
        simp [k__law_is_trial_7, k__law_is_trial_11, k__law_is_trial_13, gl_0, gl_1, gl_2, S.den, E.den, Es.den, Ds.den, OE.den, Gs.den, So.den, TI'.den, TIs.den, mSeq, mRet, mRetVar, mSet, mPar, mAsg, mExpr, mIf, mNx, mFl, mStuck, andL, orL, var_v, var_o, var_t, sop_v, sop_o, sop_t, cmp_v, cmp_o, cmp_t, chain_v, chain_o, chain_t, and_v, and_o, and_t, or_v, or_o, or_t, not_v, not_o, not_t, ite_v, ite_o, ite_t, tup_v, tup_o, lst_v, lst_o, oOf_eq, tOf_eq, tstV_eq, vOp, evOs, evRs, evDs, vChain, rds, rd, SV.data, SV.isScr, oVar, vVar, sSl, vSl, evP, vRev, revD, List.filterMap_cons, vCallP, vCall, evAs, callA_def, apart, Arg.ix, passAs, passA, backA, reown, permL, BOp.f, BOp.st, COp.f, BF.f, isaD, typeD, isNoneD, putR, putAll, storable, asgS_name, asgS_sub, asgS_tup, asgSs_nil, asgSs_cons, itemsM, asgT, asgTs, putS, vApp, seqD, atD, L2.atI, L2.ixN]
        refine nxt_nx (tot_cons ?_)
        obtain ⟨x, r, rfl⟩ : ∃ x r, ds = x :: r := by
          cases ds with
          | nil => simp at l1
          | cons x r => exact ⟨x, r, rfl⟩
        have p1 : (0 : Int) < (r.length : Int) + 1 := by omega
        have l1 : r.length + 1 ≤ 10 := by have := l1.2; simp at this; omega
        cases x with
        | tuple r0 =>
          by_cases l2 : (1 : Int) ≤ r0.length ∧ (r0.length : Int) ≤ 5
          · obtain ⟨l2, l3⟩ := l2
            simp [p1, l2, l3, k__law_is_trial_7, k__law_is_trial_11, k__law_is_trial_13, gl_0, gl_1, gl_2, S.den, E.den, Es.den, Ds.den, OE.den, Gs.den, So.den, TI'.den, TIs.den, mSeq, mRet, mRetVar, mSet, mPar, mAsg, mExpr, mIf, mNx, mFl, mStuck, andL, orL, var_v, var_o, var_t, sop_v, sop_o, sop_t, cmp_v, cmp_o, cmp_t, chain_v, chain_o, chain_t, and_v, and_o, and_t, or_v, or_o, or_t, not_v, not_o, not_t, ite_v, ite_o, ite_t, tup_v, tup_o, lst_v, lst_o, oOf_eq, tOf_eq, tstV_eq, vOp, evOs, evRs, evDs, vChain, rds, rd, SV.data, SV.isScr, oVar, vVar, sSl, vSl, evP, vRev, revD, List.filterMap_cons, vCallP, vCall, evAs, callA_def, apart, Arg.ix, passAs, passA, backA, reown, permL, BOp.f, BOp.st, COp.f, BF.f, isaD, typeD, isNoneD, putR, putAll, storable, asgS_name, asgS_sub, asgS_tup, asgSs_nil, asgSs_cons, itemsM, asgT, asgTs, putS, vApp, seqD, atD, L2.atI, L2.ixN]
            refine tot_nil (nxt_nx (tot_cons ?_))
            have q := lc_lrow (L := L) (a0 := some (SV.frz (.tuple [.tuple (.tuple r0 :: r), s, b]))) (a2 := some (.frz s)) (a3 := some (.frz b)) (a4 := none) (a5 := none) (ds := .tuple r0 :: r) (r0 := r0) (SmA_mem hp.2) (by simp; omega) rfl (by omega)
            have eP : arePl (.tuple (.tuple r0 :: r)) = (PyData.tuple r0 :: r).all (isRow · r0.length) := by
              have e1 : r.length + 1 ≤ 10 := by omega
              have e2 : 1 ≤ r0.length := by omega
              have e3 : r0.length ≤ 5 := by omega
              simp [arePl, e1, e2, e3]
            have n1 : ((r.length : Int) + 1) ≤ 1000 := by omega
            cases hP : arePl (.tuple (.tuple r0 :: r)) with
            | false =>
              rw [eP] at hP
              have hP2 : (isRow (PyData.tuple r0) (r0.length : Int) = false ∨ ∃ x, x ∈ r ∧ isRow x (r0.length : Int) = false) = True := eq_true (by
                rw [List.all_eq_false] at hP
                obtain ⟨x, hx, z⟩ := hP
                rcases List.mem_cons.mp hx with rfl | hx
                · exact .inl (by simpa using z)
                · exact .inr ⟨x, hx, by simpa using z⟩)
              simp [q, Function.comp_def, hP2, k__law_is_trial_7, k__law_is_trial_11, k__law_is_trial_13, gl_0, gl_1, gl_2, S.den, E.den, Es.den, Ds.den, OE.den, Gs.den, So.den, TI'.den, TIs.den, mSeq, mRet, mRetVar, mSet, mPar, mAsg, mExpr, mIf, mNx, mFl, mStuck, andL, orL, var_v, var_o, var_t, sop_v, sop_o, sop_t, cmp_v, cmp_o, cmp_t, chain_v, chain_o, chain_t, and_v, and_o, and_t, or_v, or_o, or_t, not_v, not_o, not_t, ite_v, ite_o, ite_t, tup_v, tup_o, lst_v, lst_o, oOf_eq, tOf_eq, tstV_eq, vOp, evOs, evRs, evDs, vChain, rds, rd, SV.data, SV.isScr, oVar, vVar, sSl, vSl, evP, vRev, revD, List.filterMap_cons, vCallP, vCall, evAs, callA_def, apart, Arg.ix, passAs, passA, backA, reown, permL, BOp.f, BOp.st, COp.f, BF.f, isaD, typeD, isNoneD, putR, putAll, storable, asgS_name, asgS_sub, asgS_tup, asgSs_nil, asgSs_cons, itemsM, asgT, asgTs, putS, vApp, seqD, atD, L2.atI, L2.ixN]
              refine tot_cons ?_
              simp [q, Function.comp_def, hP2, k__law_is_trial_7, k__law_is_trial_11, k__law_is_trial_13, gl_0, gl_1, gl_2, S.den, E.den, Es.den, Ds.den, OE.den, Gs.den, So.den, TI'.den, TIs.den, mSeq, mRet, mRetVar, mSet, mPar, mAsg, mExpr, mIf, mNx, mFl, mStuck, andL, orL, var_v, var_o, var_t, sop_v, sop_o, sop_t, cmp_v, cmp_o, cmp_t, chain_v, chain_o, chain_t, and_v, and_o, and_t, or_v, or_o, or_t, not_v, not_o, not_t, ite_v, ite_o, ite_t, tup_v, tup_o, lst_v, lst_o, oOf_eq, tOf_eq, tstV_eq, vOp, evOs, evRs, evDs, vChain, rds, rd, SV.data, SV.isScr, oVar, vVar, sSl, vSl, evP, vRev, revD, List.filterMap_cons, vCallP, vCall, evAs, callA_def, apart, Arg.ix, passAs, passA, backA, reown, permL, BOp.f, BOp.st, COp.f, BF.f, isaD, typeD, isNoneD, putR, putAll, storable, asgS_name, asgS_sub, asgS_tup, asgSs_nil, asgSs_cons, itemsM, asgT, asgTs, putS, vApp, seqD, atD, L2.atI, L2.ixN]
            | true =>
              rw [eP] at hP
              have hP2 : (isRow (PyData.tuple r0) (r0.length : Int) = false ∨ ∃ x, x ∈ r ∧ isRow x (r0.length : Int) = false) = False := by
                refine eq_false ?_
                rw [List.all_eq_true] at hP
                rintro (z | ⟨x, hx, z⟩)
                · rw [hP _ List.mem_cons_self] at z; cases z
                · rw [hP _ (List.mem_cons_of_mem _ hx)] at z; cases z
              cases hR : isRow s ((r.length : Int) + 1) with
              | false =>
                simp [q, Function.comp_def, hP2, hR, s__law_is_row s hsp, n1, lenT, k__law_is_trial_7, k__law_is_trial_11, k__law_is_trial_13, gl_0, gl_1, gl_2, S.den, E.den, Es.den, Ds.den, OE.den, Gs.den, So.den, TI'.den, TIs.den, mSeq, mRet, mRetVar, mSet, mPar, mAsg, mExpr, mIf, mNx, mFl, mStuck, andL, orL, var_v, var_o, var_t, sop_v, sop_o, sop_t, cmp_v, cmp_o, cmp_t, chain_v, chain_o, chain_t, and_v, and_o, and_t, or_v, or_o, or_t, not_v, not_o, not_t, ite_v, ite_o, ite_t, tup_v, tup_o, lst_v, lst_o, oOf_eq, tOf_eq, tstV_eq, vOp, evOs, evRs, evDs, vChain, rds, rd, SV.data, SV.isScr, oVar, vVar, sSl, vSl, evP, vRev, revD, List.filterMap_cons, vCallP, vCall, evAs, callA_def, apart, Arg.ix, passAs, passA, backA, reown, permL, BOp.f, BOp.st, COp.f, BF.f, isaD, typeD, isNoneD, putR, putAll, storable, asgS_name, asgS_sub, asgS_tup, asgSs_nil, asgSs_cons, itemsM, asgT, asgTs, putS, vApp, seqD, atD, L2.atI, L2.ixN]
                refine tot_cons ?_
                simp [q, Function.comp_def, hP2, hR, s__law_is_row s hsp, n1, lenT, k__law_is_trial_7, k__law_is_trial_11, k__law_is_trial_13, gl_0, gl_1, gl_2, S.den, E.den, Es.den, Ds.den, OE.den, Gs.den, So.den, TI'.den, TIs.den, mSeq, mRet, mRetVar, mSet, mPar, mAsg, mExpr, mIf, mNx, mFl, mStuck, andL, orL, var_v, var_o, var_t, sop_v, sop_o, sop_t, cmp_v, cmp_o, cmp_t, chain_v, chain_o, chain_t, and_v, and_o, and_t, or_v, or_o, or_t, not_v, not_o, not_t, ite_v, ite_o, ite_t, tup_v, tup_o, lst_v, lst_o, oOf_eq, tOf_eq, tstV_eq, vOp, evOs, evRs, evDs, vChain, rds, rd, SV.data, SV.isScr, oVar, vVar, sSl, vSl, evP, vRev, revD, List.filterMap_cons, vCallP, vCall, evAs, callA_def, apart, Arg.ix, passAs, passA, backA, reown, permL, BOp.f, BOp.st, COp.f, BF.f, isaD, typeD, isNoneD, putR, putAll, storable, asgS_name, asgS_sub, asgS_tup, asgSs_nil, asgSs_cons, itemsM, asgT, asgTs, putS, vApp, seqD, atD, L2.atI, L2.ixN]
              | true =>
                simp [q, Function.comp_def, hP2, hR, s__law_is_row s hsp, n1, lenT, k__law_is_trial_7, k__law_is_trial_11, k__law_is_trial_13, gl_0, gl_1, gl_2, S.den, E.den, Es.den, Ds.den, OE.den, Gs.den, So.den, TI'.den, TIs.den, mSeq, mRet, mRetVar, mSet, mPar, mAsg, mExpr, mIf, mNx, mFl, mStuck, andL, orL, var_v, var_o, var_t, sop_v, sop_o, sop_t, cmp_v, cmp_o, cmp_t, chain_v, chain_o, chain_t, and_v, and_o, and_t, or_v, or_o, or_t, not_v, not_o, not_t, ite_v, ite_o, ite_t, tup_v, tup_o, lst_v, lst_o, oOf_eq, tOf_eq, tstV_eq, vOp, evOs, evRs, evDs, vChain, rds, rd, SV.data, SV.isScr, oVar, vVar, sSl, vSl, evP, vRev, revD, List.filterMap_cons, vCallP, vCall, evAs, callA_def, apart, Arg.ix, passAs, passA, backA, reown, permL, BOp.f, BOp.st, COp.f, BF.f, isaD, typeD, isNoneD, putR, putAll, storable, asgS_name, asgS_sub, asgS_tup, asgSs_nil, asgSs_cons, itemsM, asgT, asgTs, putS, vApp, seqD, atD, L2.atI, L2.ixN]
                refine tot_nil (nxt_nx (tot_cons ?_))
                obtain ⟨sp, rfl, sl, sf⟩ := isRow_tup hR
                have q2 := lc_neg (a0 := some (SV.frz (.tuple [.tuple (.tuple r0 :: r), .tuple sp, b]))) (a1 := some (.frz (.tuple (.tuple r0 :: r)))) (a3 := some (.frz b)) (a4 := none) (a6 := none) (ds := sp) (by omega) sf
                cases hS : sp.all posT with
                | false =>
                  have hS2 : (∃ x, x ∈ sp ∧ posT x = false) = True := eq_true (by simpa using hS)
                  simp [q2, Function.comp_def, hS2, allPos, hS, k__law_is_trial_7, k__law_is_trial_11, k__law_is_trial_13, gl_0, gl_1, gl_2, S.den, E.den, Es.den, Ds.den, OE.den, Gs.den, So.den, TI'.den, TIs.den, mSeq, mRet, mRetVar, mSet, mPar, mAsg, mExpr, mIf, mNx, mFl, mStuck, andL, orL, var_v, var_o, var_t, sop_v, sop_o, sop_t, cmp_v, cmp_o, cmp_t, chain_v, chain_o, chain_t, and_v, and_o, and_t, or_v, or_o, or_t, not_v, not_o, not_t, ite_v, ite_o, ite_t, tup_v, tup_o, lst_v, lst_o, oOf_eq, tOf_eq, tstV_eq, vOp, evOs, evRs, evDs, vChain, rds, rd, SV.data, SV.isScr, oVar, vVar, sSl, vSl, evP, vRev, revD, List.filterMap_cons, vCallP, vCall, evAs, callA_def, apart, Arg.ix, passAs, passA, backA, reown, permL, BOp.f, BOp.st, COp.f, BF.f, isaD, typeD, isNoneD, putR, putAll, storable, asgS_name, asgS_sub, asgS_tup, asgSs_nil, asgSs_cons, itemsM, asgT, asgTs, putS, vApp, seqD, atD, L2.atI, L2.ixN]
                  refine tot_cons ?_
                  simp [q2, Function.comp_def, hS2, allPos, hS, k__law_is_trial_7, k__law_is_trial_11, k__law_is_trial_13, gl_0, gl_1, gl_2, S.den, E.den, Es.den, Ds.den, OE.den, Gs.den, So.den, TI'.den, TIs.den, mSeq, mRet, mRetVar, mSet, mPar, mAsg, mExpr, mIf, mNx, mFl, mStuck, andL, orL, var_v, var_o, var_t, sop_v, sop_o, sop_t, cmp_v, cmp_o, cmp_t, chain_v, chain_o, chain_t, and_v, and_o, and_t, or_v, or_o, or_t, not_v, not_o, not_t, ite_v, ite_o, ite_t, tup_v, tup_o, lst_v, lst_o, oOf_eq, tOf_eq, tstV_eq, vOp, evOs, evRs, evDs, vChain, rds, rd, SV.data, SV.isScr, oVar, vVar, sSl, vSl, evP, vRev, revD, List.filterMap_cons, vCallP, vCall, evAs, callA_def, apart, Arg.ix, passAs, passA, backA, reown, permL, BOp.f, BOp.st, COp.f, BF.f, isaD, typeD, isNoneD, putR, putAll, storable, asgS_name, asgS_sub, asgS_tup, asgSs_nil, asgSs_cons, itemsM, asgT, asgTs, putS, vApp, seqD, atD, L2.atI, L2.ixN]
                | true =>
                  have hS2 : (∃ x, x ∈ sp ∧ posT x = false) = False := eq_false (by simpa using hS)
                  have hS3 : ∀ x, x ∈ sp → posT x = true := by simpa using hS
                  cases b with
                  | tuple bs =>
                    simp [q2, Function.comp_def, hS2, allPos, hS, k__law_is_trial_7, k__law_is_trial_11, k__law_is_trial_13, gl_0, gl_1, gl_2, S.den, E.den, Es.den, Ds.den, OE.den, Gs.den, So.den, TI'.den, TIs.den, mSeq, mRet, mRetVar, mSet, mPar, mAsg, mExpr, mIf, mNx, mFl, mStuck, andL, orL, var_v, var_o, var_t, sop_v, sop_o, sop_t, cmp_v, cmp_o, cmp_t, chain_v, chain_o, chain_t, and_v, and_o, and_t, or_v, or_o, or_t, not_v, not_o, not_t, ite_v, ite_o, ite_t, tup_v, tup_o, lst_v, lst_o, oOf_eq, tOf_eq, tstV_eq, vOp, evOs, evRs, evDs, vChain, rds, rd, SV.data, SV.isScr, oVar, vVar, sSl, vSl, evP, vRev, revD, List.filterMap_cons, vCallP, vCall, evAs, callA_def, apart, Arg.ix, passAs, passA, backA, reown, permL, BOp.f, BOp.st, COp.f, BF.f, isaD, typeD, isNoneD, putR, putAll, storable, asgS_name, asgS_sub, asgS_tup, asgSs_nil, asgSs_cons, itemsM, asgT, asgTs, putS, vApp, seqD, atD, L2.atI, L2.ixN]
                    refine tot_nil (nxt_nx (tot_cons ?_))
                    have q3 (h : bs.length ≤ 1000) := lc_blk (a0 := some (SV.frz (.tuple [.tuple (.tuple r0 :: r), .tuple sp, .tuple bs]))) (a1 := some (.frz (.tuple (.tuple r0 :: r)))) (a2 := some (.frz (.tuple sp))) (a5 := none) (a6 := none) (ds := bs) h
                    cases bs with
                    | nil =>
                      simp [sizeLine, k__law_is_trial_7, k__law_is_trial_11, k__law_is_trial_13, gl_0, gl_1, gl_2, S.den, E.den, Es.den, Ds.den, OE.den, Gs.den, So.den, TI'.den, TIs.den, mSeq, mRet, mRetVar, mSet, mPar, mAsg, mExpr, mIf, mNx, mFl, mStuck, andL, orL, var_v, var_o, var_t, sop_v, sop_o, sop_t, cmp_v, cmp_o, cmp_t, chain_v, chain_o, chain_t, and_v, and_o, and_t, or_v, or_o, or_t, not_v, not_o, not_t, ite_v, ite_o, ite_t, tup_v, tup_o, lst_v, lst_o, oOf_eq, tOf_eq, tstV_eq, vOp, evOs, evRs, evDs, vChain, rds, rd, SV.data, SV.isScr, oVar, vVar, sSl, vSl, evP, vRev, revD, List.filterMap_cons, vCallP, vCall, evAs, callA_def, apart, Arg.ix, passAs, passA, backA, reown, permL, BOp.f, BOp.st, COp.f, BF.f, isaD, typeD, isNoneD, putR, putAll, storable, asgS_name, asgS_sub, asgS_tup, asgSs_nil, asgSs_cons, itemsM, asgT, asgTs, putS, vApp, seqD, atD, L2.atI, L2.ixN]
                      refine tot_nil (nxt_nx (tot_cons ?_))
                      simp [q3, areBl, boolsD, hR, allPos, k__law_is_trial_7, k__law_is_trial_11, k__law_is_trial_13, gl_0, gl_1, gl_2, S.den, E.den, Es.den, Ds.den, OE.den, Gs.den, So.den, TI'.den, TIs.den, mSeq, mRet, mRetVar, mSet, mPar, mAsg, mExpr, mIf, mNx, mFl, mStuck, andL, orL, var_v, var_o, var_t, sop_v, sop_o, sop_t, cmp_v, cmp_o, cmp_t, chain_v, chain_o, chain_t, and_v, and_o, and_t, or_v, or_o, or_t, not_v, not_o, not_t, ite_v, ite_o, ite_t, tup_v, tup_o, lst_v, lst_o, oOf_eq, tOf_eq, tstV_eq, vOp, evOs, evRs, evDs, vChain, rds, rd, SV.data, SV.isScr, oVar, vVar, sSl, vSl, evP, vRev, revD, List.filterMap_cons, vCallP, vCall, evAs, callA_def, apart, Arg.ix, passAs, passA, backA, reown, permL, BOp.f, BOp.st, COp.f, BF.f, isaD, typeD, isNoneD, putR, putAll, storable, asgS_name, asgS_sub, asgS_tup, asgSs_nil, asgSs_cons, itemsM, asgT, asgTs, putS, vApp, seqD, atD, L2.atI, L2.ixN]
                      exact hS3
                    | cons c cs =>
                      by_cases cl : (cs.length : Int) = r.length
                      · have cn : cs.length = r.length := by omega
                        simp [sizeLine, cl, k__law_is_trial_7, k__law_is_trial_11, k__law_is_trial_13, gl_0, gl_1, gl_2, S.den, E.den, Es.den, Ds.den, OE.den, Gs.den, So.den, TI'.den, TIs.den, mSeq, mRet, mRetVar, mSet, mPar, mAsg, mExpr, mIf, mNx, mFl, mStuck, andL, orL, var_v, var_o, var_t, sop_v, sop_o, sop_t, cmp_v, cmp_o, cmp_t, chain_v, chain_o, chain_t, and_v, and_o, and_t, or_v, or_o, or_t, not_v, not_o, not_t, ite_v, ite_o, ite_t, tup_v, tup_o, lst_v, lst_o, oOf_eq, tOf_eq, tstV_eq, vOp, evOs, evRs, evDs, vChain, rds, rd, SV.data, SV.isScr, oVar, vVar, sSl, vSl, evP, vRev, revD, List.filterMap_cons, vCallP, vCall, evAs, callA_def, apart, Arg.ix, passAs, passA, backA, reown, permL, BOp.f, BOp.st, COp.f, BF.f, isaD, typeD, isNoneD, putR, putAll, storable, asgS_name, asgS_sub, asgS_tup, asgSs_nil, asgSs_cons, itemsM, asgT, asgTs, putS, vApp, seqD, atD, L2.atI, L2.ixN]
                        refine tot_nil (nxt_nx (tot_cons ?_))
                        have q3 := q3 (by simp; omega)
                        simp [q3, cl, areBl, Function.comp_def, hR, allPos, k__law_is_trial_7, k__law_is_trial_11, k__law_is_trial_13, gl_0, gl_1, gl_2, S.den, E.den, Es.den, Ds.den, OE.den, Gs.den, So.den, TI'.den, TIs.den, mSeq, mRet, mRetVar, mSet, mPar, mAsg, mExpr, mIf, mNx, mFl, mStuck, andL, orL, var_v, var_o, var_t, sop_v, sop_o, sop_t, cmp_v, cmp_o, cmp_t, chain_v, chain_o, chain_t, and_v, and_o, and_t, or_v, or_o, or_t, not_v, not_o, not_t, ite_v, ite_o, ite_t, tup_v, tup_o, lst_v, lst_o, oOf_eq, tOf_eq, tstV_eq, vOp, evOs, evRs, evDs, vChain, rds, rd, SV.data, SV.isScr, oVar, vVar, sSl, vSl, evP, vRev, revD, List.filterMap_cons, vCallP, vCall, evAs, callA_def, apart, Arg.ix, passAs, passA, backA, reown, permL, BOp.f, BOp.st, COp.f, BF.f, isaD, typeD, isNoneD, putR, putAll, storable, asgS_name, asgS_sub, asgS_tup, asgSs_nil, asgSs_cons, itemsM, asgT, asgTs, putS, vApp, seqD, atD, L2.atI, L2.ixN]
                        exact fun _ _ => hS3
                      · have cl2 : ¬ cs.length = r.length := by omega
                        have cl3 : ¬ (cs.length : Int) + 1 = (r.length : Int) + 1 := by omega
                        simp [sizeLine, cl, cl2, cl3, areBl, k__law_is_trial_7, k__law_is_trial_11, k__law_is_trial_13, gl_0, gl_1, gl_2, S.den, E.den, Es.den, Ds.den, OE.den, Gs.den, So.den, TI'.den, TIs.den, mSeq, mRet, mRetVar, mSet, mPar, mAsg, mExpr, mIf, mNx, mFl, mStuck, andL, orL, var_v, var_o, var_t, sop_v, sop_o, sop_t, cmp_v, cmp_o, cmp_t, chain_v, chain_o, chain_t, and_v, and_o, and_t, or_v, or_o, or_t, not_v, not_o, not_t, ite_v, ite_o, ite_t, tup_v, tup_o, lst_v, lst_o, oOf_eq, tOf_eq, tstV_eq, vOp, evOs, evRs, evDs, vChain, rds, rd, SV.data, SV.isScr, oVar, vVar, sSl, vSl, evP, vRev, revD, List.filterMap_cons, vCallP, vCall, evAs, callA_def, apart, Arg.ix, passAs, passA, backA, reown, permL, BOp.f, BOp.st, COp.f, BF.f, isaD, typeD, isNoneD, putR, putAll, storable, asgS_name, asgS_sub, asgS_tup, asgSs_nil, asgSs_cons, itemsM, asgT, asgTs, putS, vApp, seqD, atD, L2.atI, L2.ixN]
                        refine tot_cons ?_
                        simp [sizeLine, cl, cl2, cl3, areBl, k__law_is_trial_7, k__law_is_trial_11, k__law_is_trial_13, gl_0, gl_1, gl_2, S.den, E.den, Es.den, Ds.den, OE.den, Gs.den, So.den, TI'.den, TIs.den, mSeq, mRet, mRetVar, mSet, mPar, mAsg, mExpr, mIf, mNx, mFl, mStuck, andL, orL, var_v, var_o, var_t, sop_v, sop_o, sop_t, cmp_v, cmp_o, cmp_t, chain_v, chain_o, chain_t, and_v, and_o, and_t, or_v, or_o, or_t, not_v, not_o, not_t, ite_v, ite_o, ite_t, tup_v, tup_o, lst_v, lst_o, oOf_eq, tOf_eq, tstV_eq, vOp, evOs, evRs, evDs, vChain, rds, rd, SV.data, SV.isScr, oVar, vVar, sSl, vSl, evP, vRev, revD, List.filterMap_cons, vCallP, vCall, evAs, callA_def, apart, Arg.ix, passAs, passA, backA, reown, permL, BOp.f, BOp.st, COp.f, BF.f, isaD, typeD, isNoneD, putR, putAll, storable, asgS_name, asgS_sub, asgS_tup, asgSs_nil, asgSs_cons, itemsM, asgT, asgTs, putS, vApp, seqD, atD, L2.atI, L2.ixN]
                  | _ =>
                    simp [q2, Function.comp_def, hS2, allPos, hS, areBl, k__law_is_trial_7, k__law_is_trial_11, k__law_is_trial_13, gl_0, gl_1, gl_2, S.den, E.den, Es.den, Ds.den, OE.den, Gs.den, So.den, TI'.den, TIs.den, mSeq, mRet, mRetVar, mSet, mPar, mAsg, mExpr, mIf, mNx, mFl, mStuck, andL, orL, var_v, var_o, var_t, sop_v, sop_o, sop_t, cmp_v, cmp_o, cmp_t, chain_v, chain_o, chain_t, and_v, and_o, and_t, or_v, or_o, or_t, not_v, not_o, not_t, ite_v, ite_o, ite_t, tup_v, tup_o, lst_v, lst_o, oOf_eq, tOf_eq, tstV_eq, vOp, evOs, evRs, evDs, vChain, rds, rd, SV.data, SV.isScr, oVar, vVar, sSl, vSl, evP, vRev, revD, List.filterMap_cons, vCallP, vCall, evAs, callA_def, apart, Arg.ix, passAs, passA, backA, reown, permL, BOp.f, BOp.st, COp.f, BF.f, isaD, typeD, isNoneD, putR, putAll, storable, asgS_name, asgS_sub, asgS_tup, asgSs_nil, asgSs_cons, itemsM, asgT, asgTs, putS, vApp, seqD, atD, L2.atI, L2.ixN]
                    refine tot_cons ?_
                    simp [q2, Function.comp_def, hS2, allPos, hS, areBl, k__law_is_trial_7, k__law_is_trial_11, k__law_is_trial_13, gl_0, gl_1, gl_2, S.den, E.den, Es.den, Ds.den, OE.den, Gs.den, So.den, TI'.den, TIs.den, mSeq, mRet, mRetVar, mSet, mPar, mAsg, mExpr, mIf, mNx, mFl, mStuck, andL, orL, var_v, var_o, var_t, sop_v, sop_o, sop_t, cmp_v, cmp_o, cmp_t, chain_v, chain_o, chain_t, and_v, and_o, and_t, or_v, or_o, or_t, not_v, not_o, not_t, ite_v, ite_o, ite_t, tup_v, tup_o, lst_v, lst_o, oOf_eq, tOf_eq, tstV_eq, vOp, evOs, evRs, evDs, vChain, rds, rd, SV.data, SV.isScr, oVar, vVar, sSl, vSl, evP, vRev, revD, List.filterMap_cons, vCallP, vCall, evAs, callA_def, apart, Arg.ix, passAs, passA, backA, reown, permL, BOp.f, BOp.st, COp.f, BF.f, isaD, typeD, isNoneD, putR, putAll, storable, asgS_name, asgS_sub, asgS_tup, asgSs_nil, asgSs_cons, itemsM, asgT, asgTs, putS, vApp, seqD, atD, L2.atI, L2.ixN]
          · have z : arePl (.tuple (.tuple r0 :: r)) = false := by
              simp [arePl]
              intro _ u v
              omega
            by_cases l3 : (1 : Int) ≤ r0.length
            · have l4 : ¬ (r0.length : Int) ≤ 5 := fun q => l2 ⟨l3, q⟩
              simp [p1, l3, l4, z, k__law_is_trial_7, k__law_is_trial_11, k__law_is_trial_13, gl_0, gl_1, gl_2, S.den, E.den, Es.den, Ds.den, OE.den, Gs.den, So.den, TI'.den, TIs.den, mSeq, mRet, mRetVar, mSet, mPar, mAsg, mExpr, mIf, mNx, mFl, mStuck, andL, orL, var_v, var_o, var_t, sop_v, sop_o, sop_t, cmp_v, cmp_o, cmp_t, chain_v, chain_o, chain_t, and_v, and_o, and_t, or_v, or_o, or_t, not_v, not_o, not_t, ite_v, ite_o, ite_t, tup_v, tup_o, lst_v, lst_o, oOf_eq, tOf_eq, tstV_eq, vOp, evOs, evRs, evDs, vChain, rds, rd, SV.data, SV.isScr, oVar, vVar, sSl, vSl, evP, vRev, revD, List.filterMap_cons, vCallP, vCall, evAs, callA_def, apart, Arg.ix, passAs, passA, backA, reown, permL, BOp.f, BOp.st, COp.f, BF.f, isaD, typeD, isNoneD, putR, putAll, storable, asgS_name, asgS_sub, asgS_tup, asgSs_nil, asgSs_cons, itemsM, asgT, asgTs, putS, vApp, seqD, atD, L2.atI, L2.ixN]
              refine tot_cons ?_
              simp [p1, l3, l4, z, k__law_is_trial_7, k__law_is_trial_11, k__law_is_trial_13, gl_0, gl_1, gl_2, S.den, E.den, Es.den, Ds.den, OE.den, Gs.den, So.den, TI'.den, TIs.den, mSeq, mRet, mRetVar, mSet, mPar, mAsg, mExpr, mIf, mNx, mFl, mStuck, andL, orL, var_v, var_o, var_t, sop_v, sop_o, sop_t, cmp_v, cmp_o, cmp_t, chain_v, chain_o, chain_t, and_v, and_o, and_t, or_v, or_o, or_t, not_v, not_o, not_t, ite_v, ite_o, ite_t, tup_v, tup_o, lst_v, lst_o, oOf_eq, tOf_eq, tstV_eq, vOp, evOs, evRs, evDs, vChain, rds, rd, SV.data, SV.isScr, oVar, vVar, sSl, vSl, evP, vRev, revD, List.filterMap_cons, vCallP, vCall, evAs, callA_def, apart, Arg.ix, passAs, passA, backA, reown, permL, BOp.f, BOp.st, COp.f, BF.f, isaD, typeD, isNoneD, putR, putAll, storable, asgS_name, asgS_sub, asgS_tup, asgSs_nil, asgSs_cons, itemsM, asgT, asgTs, putS, vApp, seqD, atD, L2.atI, L2.ixN]
            · simp [p1, l3, z, k__law_is_trial_7, k__law_is_trial_11, k__law_is_trial_13, gl_0, gl_1, gl_2, S.den, E.den, Es.den, Ds.den, OE.den, Gs.den, So.den, TI'.den, TIs.den, mSeq, mRet, mRetVar, mSet, mPar, mAsg, mExpr, mIf, mNx, mFl, mStuck, andL, orL, var_v, var_o, var_t, sop_v, sop_o, sop_t, cmp_v, cmp_o, cmp_t, chain_v, chain_o, chain_t, and_v, and_o, and_t, or_v, or_o, or_t, not_v, not_o, not_t, ite_v, ite_o, ite_t, tup_v, tup_o, lst_v, lst_o, oOf_eq, tOf_eq, tstV_eq, vOp, evOs, evRs, evDs, vChain, rds, rd, SV.data, SV.isScr, oVar, vVar, sSl, vSl, evP, vRev, revD, List.filterMap_cons, vCallP, vCall, evAs, callA_def, apart, Arg.ix, passAs, passA, backA, reown, permL, BOp.f, BOp.st, COp.f, BF.f, isaD, typeD, isNoneD, putR, putAll, storable, asgS_name, asgS_sub, asgS_tup, asgSs_nil, asgSs_cons, itemsM, asgT, asgTs, putS, vApp, seqD, atD, L2.atI, L2.ixN]
              refine tot_cons ?_
              simp [p1, l3, z, k__law_is_trial_7, k__law_is_trial_11, k__law_is_trial_13, gl_0, gl_1, gl_2, S.den, E.den, Es.den, Ds.den, OE.den, Gs.den, So.den, TI'.den, TIs.den, mSeq, mRet, mRetVar, mSet, mPar, mAsg, mExpr, mIf, mNx, mFl, mStuck, andL, orL, var_v, var_o, var_t, sop_v, sop_o, sop_t, cmp_v, cmp_o, cmp_t, chain_v, chain_o, chain_t, and_v, and_o, and_t, or_v, or_o, or_t, not_v, not_o, not_t, ite_v, ite_o, ite_t, tup_v, tup_o, lst_v, lst_o, oOf_eq, tOf_eq, tstV_eq, vOp, evOs, evRs, evDs, vChain, rds, rd, SV.data, SV.isScr, oVar, vVar, sSl, vSl, evP, vRev, revD, List.filterMap_cons, vCallP, vCall, evAs, callA_def, apart, Arg.ix, passAs, passA, backA, reown, permL, BOp.f, BOp.st, COp.f, BF.f, isaD, typeD, isNoneD, putR, putAll, storable, asgS_name, asgS_sub, asgS_tup, asgSs_nil, asgSs_cons, itemsM, asgT, asgTs, putS, vApp, seqD, atD, L2.atI, L2.ixN]
        | _ =>
          simp [p1, arePl, k__law_is_trial_7, k__law_is_trial_11, k__law_is_trial_13, gl_0, gl_1, gl_2, S.den, E.den, Es.den, Ds.den, OE.den, Gs.den, So.den, TI'.den, TIs.den, mSeq, mRet, mRetVar, mSet, mPar, mAsg, mExpr, mIf, mNx, mFl, mStuck, andL, orL, var_v, var_o, var_t, sop_v, sop_o, sop_t, cmp_v, cmp_o, cmp_t, chain_v, chain_o, chain_t, and_v, and_o, and_t, or_v, or_o, or_t, not_v, not_o, not_t, ite_v, ite_o, ite_t, tup_v, tup_o, lst_v, lst_o, oOf_eq, tOf_eq, tstV_eq, vOp, evOs, evRs, evDs, vChain, rds, rd, SV.data, SV.isScr, oVar, vVar, sSl, vSl, evP, vRev, revD, List.filterMap_cons, vCallP, vCall, evAs, callA_def, apart, Arg.ix, passAs, passA, backA, reown, permL, BOp.f, BOp.st, COp.f, BF.f, isaD, typeD, isNoneD, putR, putAll, storable, asgS_name, asgS_sub, asgS_tup, asgSs_nil, asgSs_cons, itemsM, asgT, asgTs, putS, vApp, seqD, atD, L2.atI, L2.ixN]
          refine tot_cons ?_
          simp [p1, arePl, k__law_is_trial_7, k__law_is_trial_11, k__law_is_trial_13, gl_0, gl_1, gl_2, S.den, E.den, Es.den, Ds.den, OE.den, Gs.den, So.den, TI'.den, TIs.den, mSeq, mRet, mRetVar, mSet, mPar, mAsg, mExpr, mIf, mNx, mFl, mStuck, andL, orL, var_v, var_o, var_t, sop_v, sop_o, sop_t, cmp_v, cmp_o, cmp_t, chain_v, chain_o, chain_t, and_v, and_o, and_t, or_v, or_o, or_t, not_v, not_o, not_t, ite_v, ite_o, ite_t, tup_v, tup_o, lst_v, lst_o, oOf_eq, tOf_eq, tstV_eq, vOp, evOs, evRs, evDs, vChain, rds, rd, SV.data, SV.isScr, oVar, vVar, sSl, vSl, evP, vRev, revD, List.filterMap_cons, vCallP, vCall, evAs, callA_def, apart, Arg.ix, passAs, passA, backA, reown, permL, BOp.f, BOp.st, COp.f, BF.f, isaD, typeD, isNoneD, putR, putAll, storable, asgS_name, asgS_sub, asgS_tup, asgSs_nil, asgSs_cons, itemsM, asgT, asgTs, putS, vApp, seqD, atD, L2.atI, L2.ixN]
      · have z : arePl (.tuple ds) = false := by
          unfold arePl
          split
          · rename_i e
            cases e
            simp at l1 ⊢
            omega
          · rfl
        by_cases l2 : (1 : Int) ≤ ds.length
        · have l3 : ¬ (ds.length : Int) ≤ 10 := fun q => l1 ⟨l2, q⟩
          simp [s__law_is_tuple, h, l2, l3, z, k__law_is_trial_7, k__law_is_trial_11, k__law_is_trial_13, gl_0, gl_1, gl_2, S.den, E.den, Es.den, Ds.den, OE.den, Gs.den, So.den, TI'.den, TIs.den, mSeq, mRet, mRetVar, mSet, mPar, mAsg, mExpr, mIf, mNx, mFl, mStuck, andL, orL, var_v, var_o, var_t, sop_v, sop_o, sop_t, cmp_v, cmp_o, cmp_t, chain_v, chain_o, chain_t, and_v, and_o, and_t, or_v, or_o, or_t, not_v, not_o, not_t, ite_v, ite_o, ite_t, tup_v, tup_o, lst_v, lst_o, oOf_eq, tOf_eq, tstV_eq, vOp, evOs, evRs, evDs, vChain, rds, rd, SV.data, SV.isScr, oVar, vVar, sSl, vSl, evP, vRev, revD, List.filterMap_cons, vCallP, vCall, evAs, callA_def, apart, Arg.ix, passAs, passA, backA, reown, permL, BOp.f, BOp.st, COp.f, BF.f, isaD, typeD, isNoneD, putR, putAll, storable, asgS_name, asgS_sub, asgS_tup, asgSs_nil, asgSs_cons, itemsM, asgT, asgTs, putS, vApp, seqD, atD, L2.atI, L2.ixN]
          refine tot_cons ?_
          simp [s__law_is_tuple, h, l2, l3, z, k__law_is_trial_7, k__law_is_trial_11, k__law_is_trial_13, gl_0, gl_1, gl_2, S.den, E.den, Es.den, Ds.den, OE.den, Gs.den, So.den, TI'.den, TIs.den, mSeq, mRet, mRetVar, mSet, mPar, mAsg, mExpr, mIf, mNx, mFl, mStuck, andL, orL, var_v, var_o, var_t, sop_v, sop_o, sop_t, cmp_v, cmp_o, cmp_t, chain_v, chain_o, chain_t, and_v, and_o, and_t, or_v, or_o, or_t, not_v, not_o, not_t, ite_v, ite_o, ite_t, tup_v, tup_o, lst_v, lst_o, oOf_eq, tOf_eq, tstV_eq, vOp, evOs, evRs, evDs, vChain, rds, rd, SV.data, SV.isScr, oVar, vVar, sSl, vSl, evP, vRev, revD, List.filterMap_cons, vCallP, vCall, evAs, callA_def, apart, Arg.ix, passAs, passA, backA, reown, permL, BOp.f, BOp.st, COp.f, BF.f, isaD, typeD, isNoneD, putR, putAll, storable, asgS_name, asgS_sub, asgS_tup, asgSs_nil, asgSs_cons, itemsM, asgT, asgTs, putS, vApp, seqD, atD, L2.atI, L2.ixN]
        · simp [s__law_is_tuple, h, l2, z, k__law_is_trial_7, k__law_is_trial_11, k__law_is_trial_13, gl_0, gl_1, gl_2, S.den, E.den, Es.den, Ds.den, OE.den, Gs.den, So.den, TI'.den, TIs.den, mSeq, mRet, mRetVar, mSet, mPar, mAsg, mExpr, mIf, mNx, mFl, mStuck, andL, orL, var_v, var_o, var_t, sop_v, sop_o, sop_t, cmp_v, cmp_o, cmp_t, chain_v, chain_o, chain_t, and_v, and_o, and_t, or_v, or_o, or_t, not_v, not_o, not_t, ite_v, ite_o, ite_t, tup_v, tup_o, lst_v, lst_o, oOf_eq, tOf_eq, tstV_eq, vOp, evOs, evRs, evDs, vChain, rds, rd, SV.data, SV.isScr, oVar, vVar, sSl, vSl, evP, vRev, revD, List.filterMap_cons, vCallP, vCall, evAs, callA_def, apart, Arg.ix, passAs, passA, backA, reown, permL, BOp.f, BOp.st, COp.f, BF.f, isaD, typeD, isNoneD, putR, putAll, storable, asgS_name, asgS_sub, asgS_tup, asgSs_nil, asgSs_cons, itemsM, asgT, asgTs, putS, vApp, seqD, atD, L2.atI, L2.ixN]
          refine tot_cons ?_
          simp [s__law_is_tuple, h, l2, z, k__law_is_trial_7, k__law_is_trial_11, k__law_is_trial_13, gl_0, gl_1, gl_2, S.den, E.den, Es.den, Ds.den, OE.den, Gs.den, So.den, TI'.den, TIs.den, mSeq, mRet, mRetVar, mSet, mPar, mAsg, mExpr, mIf, mNx, mFl, mStuck, andL, orL, var_v, var_o, var_t, sop_v, sop_o, sop_t, cmp_v, cmp_o, cmp_t, chain_v, chain_o, chain_t, and_v, and_o, and_t, or_v, or_o, or_t, not_v, not_o, not_t, ite_v, ite_o, ite_t, tup_v, tup_o, lst_v, lst_o, oOf_eq, tOf_eq, tstV_eq, vOp, evOs, evRs, evDs, vChain, rds, rd, SV.data, SV.isScr, oVar, vVar, sSl, vSl, evP, vRev, revD, List.filterMap_cons, vCallP, vCall, evAs, callA_def, apart, Arg.ix, passAs, passA, backA, reown, permL, BOp.f, BOp.st, COp.f, BF.f, isaD, typeD, isNoneD, putR, putAll, storable, asgS_name, asgS_sub, asgS_tup, asgSs_nil, asgSs_cons, itemsM, asgT, asgTs, putS, vApp, seqD, atD, L2.atI, L2.ixN]
    | _ =>
      simp [s__law_is_tuple, h, arePl, k__law_is_trial_7, k__law_is_trial_11, k__law_is_trial_13, gl_0, gl_1, gl_2, S.den, E.den, Es.den, Ds.den, OE.den, Gs.den, So.den, TI'.den, TIs.den, mSeq, mRet, mRetVar, mSet, mPar, mAsg, mExpr, mIf, mNx, mFl, mStuck, andL, orL, var_v, var_o, var_t, sop_v, sop_o, sop_t, cmp_v, cmp_o, cmp_t, chain_v, chain_o, chain_t, and_v, and_o, and_t, or_v, or_o, or_t, not_v, not_o, not_t, ite_v, ite_o, ite_t, tup_v, tup_o, lst_v, lst_o, oOf_eq, tOf_eq, tstV_eq, vOp, evOs, evRs, evDs, vChain, rds, rd, SV.data, SV.isScr, oVar, vVar, sSl, vSl, evP, vRev, revD, List.filterMap_cons, vCallP, vCall, evAs, callA_def, apart, Arg.ix, passAs, passA, backA, reown, permL, BOp.f, BOp.st, COp.f, BF.f, isaD, typeD, isNoneD, putR, putAll, storable, asgS_name, asgS_sub, asgS_tup, asgSs_nil, asgSs_cons, itemsM, asgT, asgTs, putS, vApp, seqD, atD, L2.atI, L2.ixN]
      refine tot_cons ?_
      simp [s__law_is_tuple, h, arePl, k__law_is_trial_7, k__law_is_trial_11, k__law_is_trial_13, gl_0, gl_1, gl_2, S.den, E.den, Es.den, Ds.den, OE.den, Gs.den, So.den, TI'.den, TIs.den, mSeq, mRet, mRetVar, mSet, mPar, mAsg, mExpr, mIf, mNx, mFl, mStuck, andL, orL, var_v, var_o, var_t, sop_v, sop_o, sop_t, cmp_v, cmp_o, cmp_t, chain_v, chain_o, chain_t, and_v, and_o, and_t, or_v, or_o, or_t, not_v, not_o, not_t, ite_v, ite_o, ite_t, tup_v, tup_o, lst_v, lst_o, oOf_eq, tOf_eq, tstV_eq, vOp, evOs, evRs, evDs, vChain, rds, rd, SV.data, SV.isScr, oVar, vVar, sSl, vSl, evP, vRev, revD, List.filterMap_cons, vCallP, vCall, evAs, callA_def, apart, Arg.ix, passAs, passA, backA, reown, permL, BOp.f, BOp.st, COp.f, BF.f, isaD, typeD, isNoneD, putR, putAll, storable, asgS_name, asgS_sub, asgS_tup, asgSs_nil, asgSs_cons, itemsM, asgT, asgTs, putS, vApp, seqD, atD, L2.atI, L2.ixN]
end K02
end SP11

section SP12
namespace K02
open PySem Tw
theorem s__law_levels (d : PyData) (h : isTri d = true) : c__law_levels [.frz d] = some (.ok (.frz (.int (lev d))) [some (.frz d)]) := by
  obtain ⟨r0, rows, sp, is, rfl, _⟩ := tri_shape h
  rw [e__law_levels]
  refine tot_eq (tot_defC ?_)
  cases is with
  | nil => simp [lev, maxI, intsD, b__law_levels, gl_0, gl_1, gl_2, Ss.den, S.den, E.den, Es.den, Ds.den, OE.den, Gs.den, So.den, TI'.den, TIs.den, mSeq, mRet, mRetVar, mSet, mPar, mAsg, mExpr, mIf, mNx, mFl, mStuck, andL, orL, var_v, var_o, var_t, sop_v, sop_o, sop_t, cmp_v, cmp_o, cmp_t, chain_v, chain_o, chain_t, and_v, and_o, and_t, or_v, or_o, or_t, not_v, not_o, not_t, ite_v, ite_o, ite_t, tup_v, tup_o, lst_v, lst_o, oOf_eq, tOf_eq, tstV_eq, vOp, evOs, evRs, evDs, vChain, rds, rd, SV.data, SV.isScr, oVar, vVar, sSl, vSl, evP, vRev, revD, List.filterMap_cons, vCallP, vCall, evAs, callA_def, apart, Arg.ix, passAs, passA, backA, reown, permL, BOp.f, BOp.st, COp.f, BF.f, isaD, typeD, isNoneD, putR, putAll, storable, asgS_name, asgS_sub, asgS_tup, asgSs_nil, asgSs_cons, itemsM, asgT, asgTs, putS, vApp, seqD, atD, L2.atI, L2.ixN]
  | cons i r => simp [lev, maxI, dMax_tup, intsD, b__law_levels, gl_0, gl_1, gl_2, Ss.den, S.den, E.den, Es.den, Ds.den, OE.den, Gs.den, So.den, TI'.den, TIs.den, mSeq, mRet, mRetVar, mSet, mPar, mAsg, mExpr, mIf, mNx, mFl, mStuck, andL, orL, var_v, var_o, var_t, sop_v, sop_o, sop_t, cmp_v, cmp_o, cmp_t, chain_v, chain_o, chain_t, and_v, and_o, and_t, or_v, or_o, or_t, not_v, not_o, not_t, ite_v, ite_o, ite_t, tup_v, tup_o, lst_v, lst_o, oOf_eq, tOf_eq, tstV_eq, vOp, evOs, evRs, evDs, vChain, rds, rd, SV.data, SV.isScr, oVar, vVar, sSl, vSl, evP, vRev, revD, List.filterMap_cons, vCallP, vCall, evAs, callA_def, apart, Arg.ix, passAs, passA, backA, reown, permL, BOp.f, BOp.st, COp.f, BF.f, isaD, typeD, isNoneD, putR, putAll, storable, asgS_name, asgS_sub, asgS_tup, asgSs_nil, asgSs_cons, itemsM, asgT, asgTs, putS, vApp, seqD, atD, L2.atI, L2.ixN]
theorem GenT.isTri {m : Int} (h : m ≤ 10) {d : PyData} : GenT m d → isTri d = true := by
  rintro ⟨few, rows, sp, is, rfl, f1, f2, r1, r2, hr, sl, hs, hi, il⟩
  have R (r : PyData) (h : r ∈ rows) : ∃ ds, r = .tuple ds ∧ ds.length = few ∧ isRow r few = true := by
    obtain ⟨ds, rfl, l, f⟩ := hr r h
    refine ⟨ds, rfl, l, ?_⟩
    simp only [isRow, Bool.and_eq_true, List.all_eq_true]
    exact ⟨by simp [l], fun x hx => (f x hx).isR⟩
  cases rows with
  | nil => simp at r1
  | cons x rows =>
    obtain ⟨r0, rfl, l0, _⟩ := R x List.mem_cons_self
    subst l0
    have a : arePl (.tuple (.tuple r0 :: rows)) = true := by
      have e1 : rows.length + 1 ≤ 10 := by simp at r2; omega
      simp only [arePl, e1, f1, f2, decide_true, Bool.true_and, List.all_eq_true]
      intro r hr2
      obtain ⟨_, _, _, z⟩ := R r hr2
      exact z
    have b : isRow (.tuple sp) (lenT (.tuple (.tuple r0 :: rows))) = true := by
      simp only [isRow, lenT, Bool.and_eq_true, List.all_eq_true]
      exact ⟨by simp [sl], fun x hx => (hs x hx).1.isR⟩
    have c : allPos (.tuple sp) = true := by
      simp only [allPos, List.all_eq_true]
      exact fun x hx => (hs x hx).2
    have e : areBl (.tuple (is.map .int)) (lenT (.tuple (.tuple r0 :: rows))) = true := by
      cases is with
      | nil => rfl
      | cons i is =>
        rcases il with z | z
        · cases z
        · simp only [areBl, lenT, List.map_cons, Bool.and_eq_true, List.all_eq_true]
          refine ⟨by simp at z ⊢; omega, fun x hx => ?_⟩
          rw [← List.map_cons] at hx
          obtain ⟨j, hj, rfl⟩ := List.mem_map.mp hx
          simp [isBt, hi j hj]
    show (arePl _ && isRow _ _ && allPos _ && areBl _ _) = true
    rw [a, b, c, e]; rfl
theorem s__law_is_world {L : Nat} (t d : PyData) (ht : isTri t = true) (hs : Sm Big L d) : c__law_is_world [.frz t, .frz d] = some (.ok (.frz (.bool (isWor t d))) [some (.frz t), some (.frz d)]) := by
  obtain ⟨b1, b2, _⟩ := tri_bounds ht
  rw [e__law_is_world]
  refine tot_eq (tot_defC ?_)
  cases q : isTup d 2 with
  | false => simp [s__law_is_tuple, q, isWor_tup q, b__law_is_world, k__law_is_world_11, k__law_is_world_13, k__law_is_world_15, gl_0, gl_1, gl_2, Ss.den, S.den, E.den, Es.den, Ds.den, OE.den, Gs.den, So.den, TI'.den, TIs.den, mSeq, mRet, mRetVar, mSet, mPar, mAsg, mExpr, mIf, mNx, mFl, mStuck, andL, orL, var_v, var_o, var_t, sop_v, sop_o, sop_t, cmp_v, cmp_o, cmp_t, chain_v, chain_o, chain_t, and_v, and_o, and_t, or_v, or_o, or_t, not_v, not_o, not_t, ite_v, ite_o, ite_t, tup_v, tup_o, lst_v, lst_o, oOf_eq, tOf_eq, tstV_eq, vOp, evOs, evRs, evDs, vChain, rds, rd, SV.data, SV.isScr, oVar, vVar, sSl, vSl, evP, vRev, revD, List.filterMap_cons, vCallP, vCall, evAs, callA_def, apart, Arg.ix, passAs, passA, backA, reown, permL, BOp.f, BOp.st, COp.f, BF.f, isaD, typeD, isNoneD, putR, putAll, storable, asgS_name, asgS_sub, asgS_tup, asgSs_nil, asgSs_cons, itemsM, asgT, asgTs, putS, vApp, seqD, atD, L2.atI, L2.ixN]
  | true =>
    obtain ⟨x, y, rfl⟩ := isTup_2 q
    obtain ⟨_, hx, hy, _⟩ := hs
    have lv := s__law_levels t ht
    obtain ⟨r0, rows, sp, is, rfl, _⟩ := tri_shape ht
    have p1 : (0 : Int) < (rows.length : Int) + 1 := by omega
    have b1 : (r0.length : Int) ≤ 1000 := b1
    cases q2 : isRow x r0.length <;> simp [s__law_is_tuple, q, lv, s__law_is_row _ hx, s__law_is_row _ hy, b1, b2, p1, q2, isWor, unk, b__law_is_world, k__law_is_world_11, k__law_is_world_13, k__law_is_world_15, gl_0, gl_1, gl_2, Ss.den, S.den, E.den, Es.den, Ds.den, OE.den, Gs.den, So.den, TI'.den, TIs.den, mSeq, mRet, mRetVar, mSet, mPar, mAsg, mExpr, mIf, mNx, mFl, mStuck, andL, orL, var_v, var_o, var_t, sop_v, sop_o, sop_t, cmp_v, cmp_o, cmp_t, chain_v, chain_o, chain_t, and_v, and_o, and_t, or_v, or_o, or_t, not_v, not_o, not_t, ite_v, ite_o, ite_t, tup_v, tup_o, lst_v, lst_o, oOf_eq, tOf_eq, tstV_eq, vOp, evOs, evRs, evDs, vChain, rds, rd, SV.data, SV.isScr, oVar, vVar, sSl, vSl, evP, vRev, revD, List.filterMap_cons, vCallP, vCall, evAs, callA_def, apart, Arg.ix, passAs, passA, backA, reown, permL, BOp.f, BOp.st, COp.f, BF.f, isaD, typeD, isNoneD, putR, putAll, storable, asgS_name, asgS_sub, asgS_tup, asgSs_nil, asgSs_cons, itemsM, asgT, asgTs, putS, vApp, seqD, atD, L2.atI, L2.ixN]
end K02
end SP12

section SP13
namespace K02
open PySem Tw
set_option maxHeartbeats 2000000 in
theorem s__law_odd {N L : Nat} (hN : 10 ^ 20 ≤ N) (hL : 5 ≤ L) {w : List PyData} (hw : Well w) : tot (c__law_odd [.io w]) (Io [] (Sm N L)) := by
  rw [e__law_odd]
  refine tot_defC ?_
  unfold b__law_odd
  refine tot_cons ?_
  simp [sizeLine, k__law_odd_1, gl_0, gl_1, gl_2, S.den, E.den, Es.den, Ds.den, OE.den, Gs.den, So.den, TI'.den, TIs.den, mSeq, mRet, mRetVar, mSet, mPar, mAsg, mExpr, mIf, mNx, mFl, mStuck, andL, orL, var_v, var_o, var_t, sop_v, sop_o, sop_t, cmp_v, cmp_o, cmp_t, chain_v, chain_o, chain_t, and_v, and_o, and_t, or_v, or_o, or_t, not_v, not_o, not_t, ite_v, ite_o, ite_t, tup_v, tup_o, lst_v, lst_o, oOf_eq, tOf_eq, tstV_eq, vOp, evOs, evRs, evDs, vChain, rds, rd, SV.data, SV.isScr, oVar, vVar, sSl, vSl, evP, vRev, revD, List.filterMap_cons, vCallP, vCall, evAs, callA_def, apart, Arg.ix, passAs, passA, backA, reown, permL, BOp.f, BOp.st, COp.f, BF.f, isaD, typeD, isNoneD, putR, putAll, storable, asgS_name, asgS_sub, asgS_tup, asgSs_nil, asgSs_cons, itemsM, asgT, asgTs, putS, vApp, seqD, atD, L2.atI, L2.ixN]
  refine nxt_nx (tot_cons ?_)
  simp [sizeLine, k__law_odd_1, gl_0, gl_1, gl_2, S.den, E.den, Es.den, Ds.den, OE.den, Gs.den, So.den, TI'.den, TIs.den, mSeq, mRet, mRetVar, mSet, mPar, mAsg, mExpr, mIf, mNx, mFl, mStuck, andL, orL, var_v, var_o, var_t, sop_v, sop_o, sop_t, cmp_v, cmp_o, cmp_t, chain_v, chain_o, chain_t, and_v, and_o, and_t, or_v, or_o, or_t, not_v, not_o, not_t, ite_v, ite_o, ite_t, tup_v, tup_o, lst_v, lst_o, oOf_eq, tOf_eq, tstV_eq, vOp, evOs, evRs, evDs, vChain, rds, rd, SV.data, SV.isScr, oVar, vVar, sSl, vSl, evP, vRev, revD, List.filterMap_cons, vCallP, vCall, evAs, callA_def, apart, Arg.ix, passAs, passA, backA, reown, permL, BOp.f, BOp.st, COp.f, BF.f, isaD, typeD, isNoneD, putR, putAll, storable, asgS_name, asgS_sub, asgS_tup, asgSs_nil, asgSs_cons, itemsM, asgT, asgTs, putS, vApp, seqD, atD, L2.atI, L2.ixN]
  refine nxt_nx (tot_cons ?_)
  simp [sizeLine, powOk, k__law_odd_1, gl_0, gl_1, gl_2, S.den, E.den, Es.den, Ds.den, OE.den, Gs.den, So.den, TI'.den, TIs.den, mSeq, mRet, mRetVar, mSet, mPar, mAsg, mExpr, mIf, mNx, mFl, mStuck, andL, orL, var_v, var_o, var_t, sop_v, sop_o, sop_t, cmp_v, cmp_o, cmp_t, chain_v, chain_o, chain_t, and_v, and_o, and_t, or_v, or_o, or_t, not_v, not_o, not_t, ite_v, ite_o, ite_t, tup_v, tup_o, lst_v, lst_o, oOf_eq, tOf_eq, tstV_eq, vOp, evOs, evRs, evDs, vChain, rds, rd, SV.data, SV.isScr, oVar, vVar, sSl, vSl, evP, vRev, revD, List.filterMap_cons, vCallP, vCall, evAs, callA_def, apart, Arg.ix, passAs, passA, backA, reown, permL, BOp.f, BOp.st, COp.f, BF.f, isaD, typeD, isNoneD, putR, putAll, storable, asgS_name, asgS_sub, asgS_tup, asgSs_nil, asgSs_cons, itemsM, asgT, asgTs, putS, vApp, seqD, atD, L2.atI, L2.ixN]
  refine nxt_nx (tot_cons ?_)
  simp [sizeLine, k__law_odd_1, gl_0, gl_1, gl_2, S.den, E.den, Es.den, Ds.den, OE.den, Gs.den, So.den, TI'.den, TIs.den, mSeq, mRet, mRetVar, mSet, mPar, mAsg, mExpr, mIf, mNx, mFl, mStuck, andL, orL, var_v, var_o, var_t, sop_v, sop_o, sop_t, cmp_v, cmp_o, cmp_t, chain_v, chain_o, chain_t, and_v, and_o, and_t, or_v, or_o, or_t, not_v, not_o, not_t, ite_v, ite_o, ite_t, tup_v, tup_o, lst_v, lst_o, oOf_eq, tOf_eq, tstV_eq, vOp, evOs, evRs, evDs, vChain, rds, rd, SV.data, SV.isScr, oVar, vVar, sSl, vSl, evP, vRev, revD, List.filterMap_cons, vCallP, vCall, evAs, callA_def, apart, Arg.ix, passAs, passA, backA, reown, permL, BOp.f, BOp.st, COp.f, BF.f, isaD, typeD, isNoneD, putR, putAll, storable, asgS_name, asgS_sub, asgS_tup, asgSs_nil, asgSs_cons, itemsM, asgT, asgTs, putS, vApp, seqD, atD, L2.atI, L2.ixN]
  refine tot_io (s__law_one hw _ _ (.inl rfl) (by simp) (by decide)) ?_
  rintro d w hd hw
  refine ⟨_, rfl, ?_⟩
  simp
  refine ⟨_, _, rfl, ?_, hw, rfl⟩
  have hN' : 100000000000000000000 ≤ N := hN
  simp at hd
  rcases hd with rfl | rfl | rfl | rfl | rfl | rfl | rfl | rfl | rfl | rfl | rfl | rfl | rfl | rfl | rfl | rfl | rfl | rfl | rfl | rfl | rfl | rfl | rfl | rfl | rfl | rfl | rfl | rfl | rfl | rfl | rfl | rfl | rfl | rfl | rfl | rfl | rfl | rfl <;> (simp [Sm, SmA] <;> omega)
end K02
end SP13

section SP14
namespace K02
open PySem Tw
/-! ## bent data -/
theorem Sm.up {N L : Nat} : ∀ {d : PyData}, Sm N L d → Sm (N + 1) (L + 1) d := by
  have H : ∀ (n : Nat) (d : PyData), sizeOf d ≤ n → Sm N L d → Sm (N + 1) (L + 1) d := by
    intro n
    induction n with
    | zero => intro d h; cases d <;> simp at h <;> omega
    | succ n ih =>
      intro d h hs
      have go : ∀ xs : List PyData, sizeOf xs ≤ n → SmA N L xs → SmA (N + 1) (L + 1) xs := by
        intro xs hn h
        refine SmA_of fun x hx => ih x ?_ (SmA_mem h x hx)
        have := List.sizeOf_lt_of_mem hx
        omega
      cases d with
      | int i => exact Nat.le_succ_of_le hs
      | list xs => exact ⟨Nat.le_succ_of_le hs.1, go xs (by simp at h; omega) hs.2⟩
      | tuple xs => exact ⟨Nat.le_succ_of_le hs.1, go xs (by simp at h; omega) hs.2⟩
      | _ => trivial
  exact fun {d} h => H _ d (Nat.le_refl _) h
theorem cutL_len {ds : List PyData} {a b : Option Int} : (cutL ds a b).length ≤ ds.length := by
  unfold cutL
  rw [List.length_take, List.length_drop]
  omega
theorem cutL_mem {ds : List PyData} {a b : Option Int} {x : PyData} (h : x ∈ cutL ds a b) : x ∈ ds := List.mem_of_mem_drop (List.mem_of_mem_take h)
theorem Sm.sub {N L : Nat} {ds es : List PyData} (h : Sm N L (.tuple ds)) (l : es.length ≤ L) (m : ∀ x ∈ es, x ∈ ds) : Sm N L (.tuple es) := ⟨l, SmA_of fun x hx => SmA_mem h.2 x (m x hx)⟩
theorem Sm.cut {N L : Nat} {ds : List PyData} {a b : Option Int} (h : Sm N L (.tuple ds)) : Sm N L (.tuple (cutL ds a b)) := h.sub (Nat.le_trans cutL_len h.1) fun _ hx => cutL_mem hx
theorem cutL_1 {ds : List PyData} : (cutL ds none (some 1)).length ≤ 1 := by
  unfold cutL
  rw [List.length_take]
  show min (min 1 ds.length - 0) _ ≤ 1
  omega
/-- what lies on the path: a tuple and a place in it -/
def PathE (N L : Nat) (d : PyData) : Prop := ∃ (ds : List PyData) (k : Nat), d = .tuple [.tuple ds, .int k] ∧ k < ds.length ∧ Sm N L (.tuple ds)
theorem cutL_to {ds : List PyData} {j : Nat} (h : j ≤ ds.length) : cutL ds none (some (j : Int)) = ds.take j := by
  unfold cutL
  rw [HT.sIx_nat, HT.sIx_none, Nat.min_eq_left h]
  simp
theorem cutL_from {ds : List PyData} {j : Nat} (h : j ≤ ds.length) : cutL ds (some (j : Int)) none = ds.drop j := by
  unfold cutL
  rw [HT.sIx_nat, HT.sIx_none, Nat.min_eq_left h]
  exact List.take_of_length_le (by simp)
def Pl (x : Option SV) : Prop := x = none ∨ ∃ d, x = some (.frz d)
theorem Pl.io {x : Option SV} (h : Pl x) (es : List PyData) : x ≠ some (.io es) := by rcases h with rfl | ⟨d, rfl⟩ <;> simp
theorem Pl.frz {d : PyData} : Pl (some (.frz d)) := .inr ⟨d, rfl⟩
theorem Pl.non : Pl none := .inl rfl
def BJ (N L : Nat) (thing : PyData) (i : Nat) (env : EV) : Prop := ∃ (w : List PyData) (x2 x6 : Option SV) (path : List PyData) (here : PyData), env = [some (.io w), some (.frz thing), x2, none, some (.own path), some (.frz here), x6, none] ∧ Well w ∧ path.length ≤ i ∧ (∀ d ∈ path, PathE N L d) ∧ Sm N L here ∧ (∀ es, x2 ≠ some (.io es)) ∧ Pl x6
set_option maxHeartbeats 4000000 in
theorem s__law_bent {N L : Nat} (hN : 10 ^ 20 ≤ N) (hL : 5 ≤ L) (hL2 : L ≤ 1000) {w : List PyData} (hw : Well w) (thing : PyData) (ht : Sm N L thing) : tot (c__law_bent [.io w, .frz thing]) (Io [.frz thing] (Sm (N + 1) (L + 1))) := by
  rw [e__law_bent]
  refine tot_defC ?_
  unfold b__law_bent
  refine tot_cons ?_
  simp [sizeLine, k__law_bent_0, k__law_bent_7, k__law_bent_8, gl_0, gl_1, gl_2, S.den, E.den, Es.den, Ds.den, OE.den, Gs.den, So.den, TI'.den, TIs.den, mSeq, mRet, mRetVar, mSet, mPar, mAsg, mExpr, mIf, mNx, mFl, mStuck, andL, orL, var_v, var_o, var_t, sop_v, sop_o, sop_t, cmp_v, cmp_o, cmp_t, chain_v, chain_o, chain_t, and_v, and_o, and_t, or_v, or_o, or_t, not_v, not_o, not_t, ite_v, ite_o, ite_t, tup_v, tup_o, lst_v, lst_o, oOf_eq, tOf_eq, tstV_eq, vOp, evOs, evRs, evDs, vChain, rds, rd, SV.data, SV.isScr, oVar, vVar, sSl, vSl, evP, vRev, revD, List.filterMap_cons, vCallP, vCall, evAs, callA_def, apart, Arg.ix, passAs, passA, backA, reown, permL, BOp.f, BOp.st, COp.f, BF.f, isaD, typeD, isNoneD, putR, putAll, storable, asgS_name, asgS_sub, asgS_tup, asgSs_nil, asgSs_cons, itemsM, asgT, asgTs, putS, vApp, seqD, atD, L2.atI, L2.ixN]
  refine nxt_nx (tot_cons (tot_imp (Q := fun f e => f = .nx ∧ BJ N L thing 4 e) (tot_forT ?_) ?_))
  · simp [vRng1, k__law_bent_0, k__law_bent_7, k__law_bent_8, gl_0, gl_1, gl_2, S.den, E.den, Es.den, Ds.den, OE.den, Gs.den, So.den, TI'.den, TIs.den, mSeq, mRet, mRetVar, mSet, mPar, mAsg, mExpr, mIf, mNx, mFl, mStuck, andL, orL, var_v, var_o, var_t, sop_v, sop_o, sop_t, cmp_v, cmp_o, cmp_t, chain_v, chain_o, chain_t, and_v, and_o, and_t, or_v, or_o, or_t, not_v, not_o, not_t, ite_v, ite_o, ite_t, tup_v, tup_o, lst_v, lst_o, oOf_eq, tOf_eq, tstV_eq, vOp, evOs, evRs, evDs, vChain, rds, rd, SV.data, SV.isScr, oVar, vVar, sSl, vSl, evP, vRev, revD, List.filterMap_cons, vCallP, vCall, evAs, callA_def, apart, Arg.ix, passAs, passA, backA, reown, permL, BOp.f, BOp.st, COp.f, BF.f, isaD, typeD, isNoneD, putR, putAll, storable, asgS_name, asgS_sub, asgS_tup, asgSs_nil, asgSs_cons, itemsM, asgT, asgTs, putS, vApp, seqD, atD, L2.atI, L2.ixN]
    refine tot_io (s__law_draw hw 5 (by omega) (by omega)) ?_
    rintro _ w ⟨k, rfl, k0, k1⟩ hw
    refine ⟨_, rfl, ?_⟩
    have ro : rngOk k = true := by simp [rngOk]; omega
    simp [ro, lendS, k__law_bent_0, k__law_bent_7, k__law_bent_8, gl_0, gl_1, gl_2, S.den, E.den, Es.den, Ds.den, OE.den, Gs.den, So.den, TI'.den, TIs.den, mSeq, mRet, mRetVar, mSet, mPar, mAsg, mExpr, mIf, mNx, mFl, mStuck, andL, orL, var_v, var_o, var_t, sop_v, sop_o, sop_t, cmp_v, cmp_o, cmp_t, chain_v, chain_o, chain_t, and_v, and_o, and_t, or_v, or_o, or_t, not_v, not_o, not_t, ite_v, ite_o, ite_t, tup_v, tup_o, lst_v, lst_o, oOf_eq, tOf_eq, tstV_eq, vOp, evOs, evRs, evDs, vChain, rds, rd, SV.data, SV.isScr, oVar, vVar, sSl, vSl, evP, vRev, revD, List.filterMap_cons, vCallP, vCall, evAs, callA_def, apart, Arg.ix, passAs, passA, backA, reown, permL, BOp.f, BOp.st, COp.f, BF.f, isaD, typeD, isNoneD, putR, putAll, storable, asgS_name, asgS_sub, asgS_tup, asgSs_nil, asgSs_cons, itemsM, asgT, asgTs, putS, vApp, seqD, atD, L2.atI, L2.ixN]
    refine tot_for (BJ N L thing) ⟨w, none, none, [], thing, rfl, hw, by simp, fun _ h => (by cases h), ht, fun _ => (by simp), .non⟩ ?_ ?_
    · rintro i d _ hi ⟨w, x2, x6, path, here, rfl, hw, pl, hp, hh, nx2, p6⟩
      have nx6 := p6.io
      obtain ⟨hi, rfl⟩ := rngL_at hi
      refine ⟨[some (.io w), some (.frz thing), some (.frz (.int i)), none, some (.own path), some (.frz here), x6, none], by simp [asgT, nx2, Ss.den, S.den, E.den, Es.den, Ds.den, OE.den, Gs.den, So.den, TI'.den, TIs.den, mSeq, mRet, mRetVar, mSet, mPar, mAsg, mExpr, mIf, mNx, mFl, mStuck, andL, orL, var_v, var_o, var_t, sop_v, sop_o, sop_t, cmp_v, cmp_o, cmp_t, chain_v, chain_o, chain_t, and_v, and_o, and_t, or_v, or_o, or_t, not_v, not_o, not_t, ite_v, ite_o, ite_t, tup_v, tup_o, lst_v, lst_o, oOf_eq, tOf_eq, tstV_eq, vOp, evOs, evRs, evDs, vChain, rds, rd, SV.data, SV.isScr, oVar, vVar, sSl, vSl, evP, vRev, revD, List.filterMap_cons, vCallP, vCall, evAs, callA_def, apart, Arg.ix, passAs, passA, backA, reown, permL, BOp.f, BOp.st, COp.f, BF.f, isaD, typeD, isNoneD, putR, putAll, storable, asgS_name, asgS_sub, asgS_tup, asgSs_nil, asgSs_cons, itemsM, asgT, asgTs, putS, vApp, seqD, atD, L2.atI, L2.ixN], tot_cons ?_⟩
      have brk : BJ N L thing 4 [some (.io w), some (.frz thing), some (.frz (.int i)), none, some (.own path), some (.frz here), x6, none] := ⟨w, _, _, path, here, rfl, hw, by omega, hp, hh, fun _ => (by simp), p6⟩
      cases here with
      | tuple ds =>
        cases ds with
        | nil =>
          simp [k__law_bent_0, k__law_bent_7, k__law_bent_8, gl_0, gl_1, gl_2, S.den, E.den, Es.den, Ds.den, OE.den, Gs.den, So.den, TI'.den, TIs.den, mSeq, mRet, mRetVar, mSet, mPar, mAsg, mExpr, mIf, mNx, mFl, mStuck, andL, orL, var_v, var_o, var_t, sop_v, sop_o, sop_t, cmp_v, cmp_o, cmp_t, chain_v, chain_o, chain_t, and_v, and_o, and_t, or_v, or_o, or_t, not_v, not_o, not_t, ite_v, ite_o, ite_t, tup_v, tup_o, lst_v, lst_o, oOf_eq, tOf_eq, tstV_eq, vOp, evOs, evRs, evDs, vChain, rds, rd, SV.data, SV.isScr, oVar, vVar, sSl, vSl, evP, vRev, revD, List.filterMap_cons, vCallP, vCall, evAs, callA_def, apart, Arg.ix, passAs, passA, backA, reown, permL, BOp.f, BOp.st, COp.f, BF.f, isaD, typeD, isNoneD, putR, putAll, storable, asgS_name, asgS_sub, asgS_tup, asgSs_nil, asgSs_cons, itemsM, asgT, asgTs, putS, vApp, seqD, atD, L2.atI, L2.ixN]
          refine tot_cons ?_
          simp [restS, mergeS, k__law_bent_0, k__law_bent_7, k__law_bent_8, gl_0, gl_1, gl_2, S.den, E.den, Es.den, Ds.den, OE.den, Gs.den, So.den, TI'.den, TIs.den, mSeq, mRet, mRetVar, mSet, mPar, mAsg, mExpr, mIf, mNx, mFl, mStuck, andL, orL, var_v, var_o, var_t, sop_v, sop_o, sop_t, cmp_v, cmp_o, cmp_t, chain_v, chain_o, chain_t, and_v, and_o, and_t, or_v, or_o, or_t, not_v, not_o, not_t, ite_v, ite_o, ite_t, tup_v, tup_o, lst_v, lst_o, oOf_eq, tOf_eq, tstV_eq, vOp, evOs, evRs, evDs, vChain, rds, rd, SV.data, SV.isScr, oVar, vVar, sSl, vSl, evP, vRev, revD, List.filterMap_cons, vCallP, vCall, evAs, callA_def, apart, Arg.ix, passAs, passA, backA, reown, permL, BOp.f, BOp.st, COp.f, BF.f, isaD, typeD, isNoneD, putR, putAll, storable, asgS_name, asgS_sub, asgS_tup, asgSs_nil, asgSs_cons, itemsM, asgT, asgTs, putS, vApp, seqD, atD, L2.atI, L2.ixN]
          exact brk
        | cons c cs =>
          have hl : cs.length < 1000 := by have := hh.1; simp at this; omega
          simp [k__law_bent_0, k__law_bent_7, k__law_bent_8, gl_0, gl_1, gl_2, S.den, E.den, Es.den, Ds.den, OE.den, Gs.den, So.den, TI'.den, TIs.den, mSeq, mRet, mRetVar, mSet, mPar, mAsg, mExpr, mIf, mNx, mFl, mStuck, andL, orL, var_v, var_o, var_t, sop_v, sop_o, sop_t, cmp_v, cmp_o, cmp_t, chain_v, chain_o, chain_t, and_v, and_o, and_t, or_v, or_o, or_t, not_v, not_o, not_t, ite_v, ite_o, ite_t, tup_v, tup_o, lst_v, lst_o, oOf_eq, tOf_eq, tstV_eq, vOp, evOs, evRs, evDs, vChain, rds, rd, SV.data, SV.isScr, oVar, vVar, sSl, vSl, evP, vRev, revD, List.filterMap_cons, vCallP, vCall, evAs, callA_def, apart, Arg.ix, passAs, passA, backA, reown, permL, BOp.f, BOp.st, COp.f, BF.f, isaD, typeD, isNoneD, putR, putAll, storable, asgS_name, asgS_sub, asgS_tup, asgSs_nil, asgSs_cons, itemsM, asgT, asgTs, putS, vApp, seqD, atD, L2.atI, L2.ixN]
          refine tot_nil (nxt_nx (tot_cons ?_))
          simp [k__law_bent_0, k__law_bent_7, k__law_bent_8, gl_0, gl_1, gl_2, S.den, E.den, Es.den, Ds.den, OE.den, Gs.den, So.den, TI'.den, TIs.den, mSeq, mRet, mRetVar, mSet, mPar, mAsg, mExpr, mIf, mNx, mFl, mStuck, andL, orL, var_v, var_o, var_t, sop_v, sop_o, sop_t, cmp_v, cmp_o, cmp_t, chain_v, chain_o, chain_t, and_v, and_o, and_t, or_v, or_o, or_t, not_v, not_o, not_t, ite_v, ite_o, ite_t, tup_v, tup_o, lst_v, lst_o, oOf_eq, tOf_eq, tstV_eq, vOp, evOs, evRs, evDs, vChain, rds, rd, SV.data, SV.isScr, oVar, vVar, sSl, vSl, evP, vRev, revD, List.filterMap_cons, vCallP, vCall, evAs, callA_def, apart, Arg.ix, passAs, passA, backA, reown, permL, BOp.f, BOp.st, COp.f, BF.f, isaD, typeD, isNoneD, putR, putAll, storable, asgS_name, asgS_sub, asgS_tup, asgSs_nil, asgSs_cons, itemsM, asgT, asgTs, putS, vApp, seqD, atD, L2.atI, L2.ixN]
          refine tot_io (s__law_draw hw ((cs.length : Int) + 1) (by omega) (by omega)) ?_
          rintro _ w ⟨j, rfl, j0, j1⟩ hw
          refine ⟨_, rfl, ?_⟩
          obtain ⟨j, rfl⟩ := Int.eq_ofNat_of_zero_le j0
          have hj : j < cs.length + 1 := by omega
          have pz : path.length < 16777216 := by omega
          simp [nx6, k__law_bent_0, k__law_bent_7, k__law_bent_8, gl_0, gl_1, gl_2, S.den, E.den, Es.den, Ds.den, OE.den, Gs.den, So.den, TI'.den, TIs.den, mSeq, mRet, mRetVar, mSet, mPar, mAsg, mExpr, mIf, mNx, mFl, mStuck, andL, orL, var_v, var_o, var_t, sop_v, sop_o, sop_t, cmp_v, cmp_o, cmp_t, chain_v, chain_o, chain_t, and_v, and_o, and_t, or_v, or_o, or_t, not_v, not_o, not_t, ite_v, ite_o, ite_t, tup_v, tup_o, lst_v, lst_o, oOf_eq, tOf_eq, tstV_eq, vOp, evOs, evRs, evDs, vChain, rds, rd, SV.data, SV.isScr, oVar, vVar, sSl, vSl, evP, vRev, revD, List.filterMap_cons, vCallP, vCall, evAs, callA_def, apart, Arg.ix, passAs, passA, backA, reown, permL, BOp.f, BOp.st, COp.f, BF.f, isaD, typeD, isNoneD, putR, putAll, storable, asgS_name, asgS_sub, asgS_tup, asgSs_nil, asgSs_cons, itemsM, asgT, asgTs, putS, vApp, seqD, atD, L2.atI, L2.ixN]
          refine nxt_nx (tot_cons ?_)
          simp [sizeLine, pz, k__law_bent_0, k__law_bent_7, k__law_bent_8, gl_0, gl_1, gl_2, S.den, E.den, Es.den, Ds.den, OE.den, Gs.den, So.den, TI'.den, TIs.den, mSeq, mRet, mRetVar, mSet, mPar, mAsg, mExpr, mIf, mNx, mFl, mStuck, andL, orL, var_v, var_o, var_t, sop_v, sop_o, sop_t, cmp_v, cmp_o, cmp_t, chain_v, chain_o, chain_t, and_v, and_o, and_t, or_v, or_o, or_t, not_v, not_o, not_t, ite_v, ite_o, ite_t, tup_v, tup_o, lst_v, lst_o, oOf_eq, tOf_eq, tstV_eq, vOp, evOs, evRs, evDs, vChain, rds, rd, SV.data, SV.isScr, oVar, vVar, sSl, vSl, evP, vRev, revD, List.filterMap_cons, vCallP, vCall, evAs, callA_def, apart, Arg.ix, passAs, passA, backA, reown, permL, BOp.f, BOp.st, COp.f, BF.f, isaD, typeD, isNoneD, putR, putAll, storable, asgS_name, asgS_sub, asgS_tup, asgSs_nil, asgSs_cons, itemsM, asgT, asgTs, putS, vApp, seqD, atD, L2.atI, L2.ixN]
          refine nxt_nx (tot_cons ?_)
          simp [hj, j1, k__law_bent_0, k__law_bent_7, k__law_bent_8, gl_0, gl_1, gl_2, S.den, E.den, Es.den, Ds.den, OE.den, Gs.den, So.den, TI'.den, TIs.den, mSeq, mRet, mRetVar, mSet, mPar, mAsg, mExpr, mIf, mNx, mFl, mStuck, andL, orL, var_v, var_o, var_t, sop_v, sop_o, sop_t, cmp_v, cmp_o, cmp_t, chain_v, chain_o, chain_t, and_v, and_o, and_t, or_v, or_o, or_t, not_v, not_o, not_t, ite_v, ite_o, ite_t, tup_v, tup_o, lst_v, lst_o, oOf_eq, tOf_eq, tstV_eq, vOp, evOs, evRs, evDs, vChain, rds, rd, SV.data, SV.isScr, oVar, vVar, sSl, vSl, evP, vRev, revD, List.filterMap_cons, vCallP, vCall, evAs, callA_def, apart, Arg.ix, passAs, passA, backA, reown, permL, BOp.f, BOp.st, COp.f, BF.f, isaD, typeD, isNoneD, putR, putAll, storable, asgS_name, asgS_sub, asgS_tup, asgSs_nil, asgSs_cons, itemsM, asgT, asgTs, putS, vApp, seqD, atD, L2.atI, L2.ixN]
          refine nxt_nx (tot_nil ⟨w, _, _, path ++ [.tuple [.tuple (c :: cs), .int j]], (c :: cs)[j], rfl, hw, by simp; omega, ?_, SmA_mem hh.2 _ (List.getElem_mem _), fun _ => (by simp), .frz⟩)
          intro d hd
          rcases List.mem_append.mp hd with hd | hd
          · exact hp d hd
          · rw [List.mem_singleton.mp hd]; exact ⟨c :: cs, j, rfl, by simp; omega, hh⟩
      | _ =>
        simp [k__law_bent_0, k__law_bent_7, k__law_bent_8, gl_0, gl_1, gl_2, S.den, E.den, Es.den, Ds.den, OE.den, Gs.den, So.den, TI'.den, TIs.den, mSeq, mRet, mRetVar, mSet, mPar, mAsg, mExpr, mIf, mNx, mFl, mStuck, andL, orL, var_v, var_o, var_t, sop_v, sop_o, sop_t, cmp_v, cmp_o, cmp_t, chain_v, chain_o, chain_t, and_v, and_o, and_t, or_v, or_o, or_t, not_v, not_o, not_t, ite_v, ite_o, ite_t, tup_v, tup_o, lst_v, lst_o, oOf_eq, tOf_eq, tstV_eq, vOp, evOs, evRs, evDs, vChain, rds, rd, SV.data, SV.isScr, oVar, vVar, sSl, vSl, evP, vRev, revD, List.filterMap_cons, vCallP, vCall, evAs, callA_def, apart, Arg.ix, passAs, passA, backA, reown, permL, BOp.f, BOp.st, COp.f, BF.f, isaD, typeD, isNoneD, putR, putAll, storable, asgS_name, asgS_sub, asgS_tup, asgSs_nil, asgSs_cons, itemsM, asgT, asgTs, putS, vApp, seqD, atD, L2.atI, L2.ixN]
        refine tot_cons ?_
        simp [restS, mergeS, k__law_bent_0, k__law_bent_7, k__law_bent_8, gl_0, gl_1, gl_2, S.den, E.den, Es.den, Ds.den, OE.den, Gs.den, So.den, TI'.den, TIs.den, mSeq, mRet, mRetVar, mSet, mPar, mAsg, mExpr, mIf, mNx, mFl, mStuck, andL, orL, var_v, var_o, var_t, sop_v, sop_o, sop_t, cmp_v, cmp_o, cmp_t, chain_v, chain_o, chain_t, and_v, and_o, and_t, or_v, or_o, or_t, not_v, not_o, not_t, ite_v, ite_o, ite_t, tup_v, tup_o, lst_v, lst_o, oOf_eq, tOf_eq, tstV_eq, vOp, evOs, evRs, evDs, vChain, rds, rd, SV.data, SV.isScr, oVar, vVar, sSl, vSl, evP, vRev, revD, List.filterMap_cons, vCallP, vCall, evAs, callA_def, apart, Arg.ix, passAs, passA, backA, reown, permL, BOp.f, BOp.st, COp.f, BF.f, isaD, typeD, isNoneD, putR, putAll, storable, asgS_name, asgS_sub, asgS_tup, asgSs_nil, asgSs_cons, itemsM, asgT, asgTs, putS, vApp, seqD, atD, L2.atI, L2.ixN]
        exact brk
    · rintro _ ⟨w, x2, x6, path, here, rfl, hw, pl, hp, hh, nx2, nx6⟩
      rw [rngL_len] at pl
      simp [restS, mergeS]
      exact ⟨w, x2, x6, path, here, rfl, hw, by omega, hp, hh, nx2, nx6⟩
  · rintro _ _ ⟨rfl, w, x2, x6, path, here, rfl, hw, pl, hp, hh, nx2, nx6⟩
    refine nxt_nx (tot_cons ?_)
    simp [k__law_bent_0, k__law_bent_7, k__law_bent_8, gl_0, gl_1, gl_2, S.den, E.den, Es.den, Ds.den, OE.den, Gs.den, So.den, TI'.den, TIs.den, mSeq, mRet, mRetVar, mSet, mPar, mAsg, mExpr, mIf, mNx, mFl, mStuck, andL, orL, var_v, var_o, var_t, sop_v, sop_o, sop_t, cmp_v, cmp_o, cmp_t, chain_v, chain_o, chain_t, and_v, and_o, and_t, or_v, or_o, or_t, not_v, not_o, not_t, ite_v, ite_o, ite_t, tup_v, tup_o, lst_v, lst_o, oOf_eq, tOf_eq, tstV_eq, vOp, evOs, evRs, evDs, vChain, rds, rd, SV.data, SV.isScr, oVar, vVar, sSl, vSl, evP, vRev, revD, List.filterMap_cons, vCallP, vCall, evAs, callA_def, apart, Arg.ix, passAs, passA, backA, reown, permL, BOp.f, BOp.st, COp.f, BF.f, isaD, typeD, isNoneD, putR, putAll, storable, asgS_name, asgS_sub, asgS_tup, asgSs_nil, asgSs_cons, itemsM, asgT, asgTs, putS, vApp, seqD, atD, L2.atI, L2.ixN]
    refine tot_io (s__law_draw hw 8 (by omega) (by omega)) ?_
    rintro _ w ⟨k, rfl, k0, k1⟩ hw
    refine ⟨_, rfl, ?_⟩
    simp [k__law_bent_0, k__law_bent_7, k__law_bent_8, gl_0, gl_1, gl_2, S.den, E.den, Es.den, Ds.den, OE.den, Gs.den, So.den, TI'.den, TIs.den, mSeq, mRet, mRetVar, mSet, mPar, mAsg, mExpr, mIf, mNx, mFl, mStuck, andL, orL, var_v, var_o, var_t, sop_v, sop_o, sop_t, cmp_v, cmp_o, cmp_t, chain_v, chain_o, chain_t, and_v, and_o, and_t, or_v, or_o, or_t, not_v, not_o, not_t, ite_v, ite_o, ite_t, tup_v, tup_o, lst_v, lst_o, oOf_eq, tOf_eq, tstV_eq, vOp, evOs, evRs, evDs, vChain, rds, rd, SV.data, SV.isScr, oVar, vVar, sSl, vSl, evP, vRev, revD, List.filterMap_cons, vCallP, vCall, evAs, callA_def, apart, Arg.ix, passAs, passA, backA, reown, permL, BOp.f, BOp.st, COp.f, BF.f, isaD, typeD, isNoneD, putR, putAll, storable, asgS_name, asgS_sub, asgS_tup, asgSs_nil, asgSs_cons, itemsM, asgT, asgTs, putS, vApp, seqD, atD, L2.atI, L2.ixN]
    refine nxt_nx (tot_cons (tot_imp (Q := fun f e => f = .nx ∧ ∃ (w : List PyData) (here : PyData), e = [some (.io w), some (.frz thing), x2, some (.frz (.int k)), some (.own path), some (.frz here), x6, none] ∧ Well w ∧ Sm (N + 1) (L + 1) here) ?_ ?_))
    · have odd : ∀ (here : PyData), tot ((Ss.cons (S.set 5 (E.call 8 (Gs.give 0 Gs.nil))) Ss.nil).den (look A_9) γ [some (.io w), some (.frz thing), x2, some (.frz (.int k)), some (.own path), some (.frz here), x6, none]) (fun f e => f = .nx ∧ ∃ (w : List PyData) (here : PyData), e = [some (.io w), some (.frz thing), x2, some (.frz (.int k)), some (.own path), some (.frz here), x6, none] ∧ Well w ∧ Sm (N + 1) (L + 1) here) := by
        intro here
        refine tot_cons ?_
        simp [k__law_bent_0, k__law_bent_7, k__law_bent_8, gl_0, gl_1, gl_2, S.den, E.den, Es.den, Ds.den, OE.den, Gs.den, So.den, TI'.den, TIs.den, mSeq, mRet, mRetVar, mSet, mPar, mAsg, mExpr, mIf, mNx, mFl, mStuck, andL, orL, var_v, var_o, var_t, sop_v, sop_o, sop_t, cmp_v, cmp_o, cmp_t, chain_v, chain_o, chain_t, and_v, and_o, and_t, or_v, or_o, or_t, not_v, not_o, not_t, ite_v, ite_o, ite_t, tup_v, tup_o, lst_v, lst_o, oOf_eq, tOf_eq, tstV_eq, vOp, evOs, evRs, evDs, vChain, rds, rd, SV.data, SV.isScr, oVar, vVar, sSl, vSl, evP, vRev, revD, List.filterMap_cons, vCallP, vCall, evAs, callA_def, apart, Arg.ix, passAs, passA, backA, reown, permL, BOp.f, BOp.st, COp.f, BF.f, isaD, typeD, isNoneD, putR, putAll, storable, asgS_name, asgS_sub, asgS_tup, asgSs_nil, asgSs_cons, itemsM, asgT, asgTs, putS, vApp, seqD, atD, L2.atI, L2.ixN]
        refine tot_io (s__law_odd (N := N + 1) (L := L + 1) (by omega) (by omega) hw) ?_
        rintro d w hd hw
        refine ⟨_, rfl, ?_⟩
        simp [k__law_bent_0, k__law_bent_7, k__law_bent_8, gl_0, gl_1, gl_2, S.den, E.den, Es.den, Ds.den, OE.den, Gs.den, So.den, TI'.den, TIs.den, mSeq, mRet, mRetVar, mSet, mPar, mAsg, mExpr, mIf, mNx, mFl, mStuck, andL, orL, var_v, var_o, var_t, sop_v, sop_o, sop_t, cmp_v, cmp_o, cmp_t, chain_v, chain_o, chain_t, and_v, and_o, and_t, or_v, or_o, or_t, not_v, not_o, not_t, ite_v, ite_o, ite_t, tup_v, tup_o, lst_v, lst_o, oOf_eq, tOf_eq, tstV_eq, vOp, evOs, evRs, evDs, vChain, rds, rd, SV.data, SV.isScr, oVar, vVar, sSl, vSl, evP, vRev, revD, List.filterMap_cons, vCallP, vCall, evAs, callA_def, apart, Arg.ix, passAs, passA, backA, reown, permL, BOp.f, BOp.st, COp.f, BF.f, isaD, typeD, isNoneD, putR, putAll, storable, asgS_name, asgS_sub, asgS_tup, asgSs_nil, asgSs_cons, itemsM, asgT, asgTs, putS, vApp, seqD, atD, L2.atI, L2.ixN]
        exact nxt_nx (tot_nil ⟨rfl, w, d, rfl, hw, hd⟩)
      have odd2 : ∀ here : PyData, tot ((Ss.cons (S.set 5 (E.call 8 (Gs.give 0 Gs.nil))) Ss.nil).den (look A_9) γ [some (.io w), some (.frz thing), x2, some (.frz (.int k)), some (.own path), some (.frz here), x6, none]) (Nxt (Ss.den (look A_9) γ Ss.nil) fun f e => f = .nx ∧ ∃ (w : List PyData) (here : PyData), e = [some (.io w), some (.frz thing), x2, some (.frz (.int k)), some (.own path), some (.frz here), x6, none] ∧ Well w ∧ Sm (N + 1) (L + 1) here) := fun here => tot_imp (odd here) fun f e h => by
        obtain ⟨rfl, h⟩ := h
        exact nxt_nx (tot_nil ⟨rfl, h⟩)
      have done : ∀ here : PyData, Sm (N + 1) (L + 1) here → (fun f e => f = Fl.nx ∧ ∃ (w : List PyData) (here : PyData), e = [some (.io w), some (.frz thing), x2, some (.frz (.int k)), some (.own path), some (.frz here), x6, none] ∧ Well w ∧ Sm (N + 1) (L + 1) here) Fl.nx [some (.io w), some (.frz thing), x2, some (.frz (.int k)), some (.own path), some (.frz here), x6, none] := fun here h => ⟨rfl, w, here, rfl, hw, h⟩
      by_cases k5 : k < 5
      · have kk : k = 0 ∨ k = 1 ∨ k = 2 ∨ k = 3 ∨ k = 4 := by omega
        cases here with
        | tuple ds =>
          have hl : ds.length ≤ 1000 := Nat.le_trans hh.1 hL2
          have e1 : ds.length + (cutL ds none (some 1)).length ≤ 16777216 := by
            have := cutL_1 (ds := ds)
            omega
          simp [k5, k__law_bent_0, k__law_bent_7, k__law_bent_8, gl_0, gl_1, gl_2, S.den, E.den, Es.den, Ds.den, OE.den, Gs.den, So.den, TI'.den, TIs.den, mSeq, mRet, mRetVar, mSet, mPar, mAsg, mExpr, mIf, mNx, mFl, mStuck, andL, orL, var_v, var_o, var_t, sop_v, sop_o, sop_t, cmp_v, cmp_o, cmp_t, chain_v, chain_o, chain_t, and_v, and_o, and_t, or_v, or_o, or_t, not_v, not_o, not_t, ite_v, ite_o, ite_t, tup_v, tup_o, lst_v, lst_o, oOf_eq, tOf_eq, tstV_eq, vOp, evOs, evRs, evDs, vChain, rds, rd, SV.data, SV.isScr, oVar, vVar, sSl, vSl, evP, vRev, revD, List.filterMap_cons, vCallP, vCall, evAs, callA_def, apart, Arg.ix, passAs, passA, backA, reown, permL, BOp.f, BOp.st, COp.f, BF.f, isaD, typeD, isNoneD, putR, putAll, storable, asgS_name, asgS_sub, asgS_tup, asgSs_nil, asgSs_cons, itemsM, asgT, asgTs, putS, vApp, seqD, atD, L2.atI, L2.ixN]
          refine tot_cons ?_
          have hd : ∀ x ∈ [PyData.list ds, .tuple (cutL ds none (some (-1))), .tuple (ds ++ cutL ds none (some 1)), .tuple (cutL ds (some 1) none), .tuple ds.reverse], Sm (N + 1) (L + 1) x := by
            intro x hx
            simp at hx
            rcases hx with rfl | rfl | rfl | rfl | rfl
            · exact (show Sm N L (.list ds) from hh).up
            · exact hh.cut.up
            · refine hh.up.sub ?_ ?_
              · have := cutL_1 (ds := ds)
                have := hh.1
                rw [List.length_append]; omega
              · intro x hx
                rcases List.mem_append.mp hx with h | h
                · exact h
                · exact cutL_mem h
            · exact hh.cut.up
            · exact (hh.sub (by simpa using hh.1) fun x hx => List.mem_reverse.mp hx).up
          rcases kk with rfl | rfl | rfl | rfl | rfl <;> simp [evP, cutD, e1, sizeLine, k__law_bent_0, k__law_bent_7, k__law_bent_8, gl_0, gl_1, gl_2, S.den, E.den, Es.den, Ds.den, OE.den, Gs.den, So.den, TI'.den, TIs.den, mSeq, mRet, mRetVar, mSet, mPar, mAsg, mExpr, mIf, mNx, mFl, mStuck, andL, orL, var_v, var_o, var_t, sop_v, sop_o, sop_t, cmp_v, cmp_o, cmp_t, chain_v, chain_o, chain_t, and_v, and_o, and_t, or_v, or_o, or_t, not_v, not_o, not_t, ite_v, ite_o, ite_t, tup_v, tup_o, lst_v, lst_o, oOf_eq, tOf_eq, tstV_eq, vOp, evOs, evRs, evDs, vChain, rds, rd, SV.data, SV.isScr, oVar, vVar, sSl, vSl, evP, vRev, revD, List.filterMap_cons, vCallP, vCall, evAs, callA_def, apart, Arg.ix, passAs, passA, backA, reown, permL, BOp.f, BOp.st, COp.f, BF.f, isaD, typeD, isNoneD, putR, putAll, storable, asgS_name, asgS_sub, asgS_tup, asgSs_nil, asgSs_cons, itemsM, asgT, asgTs, putS, vApp, seqD, atD, L2.atI, L2.ixN] <;> exact nxt_nx (tot_nil ⟨rfl, w, _, rfl, hw, hd _ (by simp)⟩)
        | int i =>
          simp [k5, k__law_bent_0, k__law_bent_7, k__law_bent_8, gl_0, gl_1, gl_2, S.den, E.den, Es.den, Ds.den, OE.den, Gs.den, So.den, TI'.den, TIs.den, mSeq, mRet, mRetVar, mSet, mPar, mAsg, mExpr, mIf, mNx, mFl, mStuck, andL, orL, var_v, var_o, var_t, sop_v, sop_o, sop_t, cmp_v, cmp_o, cmp_t, chain_v, chain_o, chain_t, and_v, and_o, and_t, or_v, or_o, or_t, not_v, not_o, not_t, ite_v, ite_o, ite_t, tup_v, tup_o, lst_v, lst_o, oOf_eq, tOf_eq, tstV_eq, vOp, evOs, evRs, evDs, vChain, rds, rd, SV.data, SV.isScr, oVar, vVar, sSl, vSl, evP, vRev, revD, List.filterMap_cons, vCallP, vCall, evAs, callA_def, apart, Arg.ix, passAs, passA, backA, reown, permL, BOp.f, BOp.st, COp.f, BF.f, isaD, typeD, isNoneD, putR, putAll, storable, asgS_name, asgS_sub, asgS_tup, asgSs_nil, asgSs_cons, itemsM, asgT, asgTs, putS, vApp, seqD, atD, L2.atI, L2.ixN]
          refine tot_cons ?_
          simp [k5, s__law_is_whole, isW, k__law_bent_0, k__law_bent_7, k__law_bent_8, gl_0, gl_1, gl_2, S.den, E.den, Es.den, Ds.den, OE.den, Gs.den, So.den, TI'.den, TIs.den, mSeq, mRet, mRetVar, mSet, mPar, mAsg, mExpr, mIf, mNx, mFl, mStuck, andL, orL, var_v, var_o, var_t, sop_v, sop_o, sop_t, cmp_v, cmp_o, cmp_t, chain_v, chain_o, chain_t, and_v, and_o, and_t, or_v, or_o, or_t, not_v, not_o, not_t, ite_v, ite_o, ite_t, tup_v, tup_o, lst_v, lst_o, oOf_eq, tOf_eq, tstV_eq, vOp, evOs, evRs, evDs, vChain, rds, rd, SV.data, SV.isScr, oVar, vVar, sSl, vSl, evP, vRev, revD, List.filterMap_cons, vCallP, vCall, evAs, callA_def, apart, Arg.ix, passAs, passA, backA, reown, permL, BOp.f, BOp.st, COp.f, BF.f, isaD, typeD, isNoneD, putR, putAll, storable, asgS_name, asgS_sub, asgS_tup, asgSs_nil, asgSs_cons, itemsM, asgT, asgTs, putS, vApp, seqD, atD, L2.atI, L2.ixN]
          refine tot_cons ?_
          have hi : i.natAbs ≤ N := hh
          rcases kk with rfl | rfl | rfl | rfl | rfl <;> simp [sizeLine, k__law_bent_0, k__law_bent_7, k__law_bent_8, gl_0, gl_1, gl_2, S.den, E.den, Es.den, Ds.den, OE.den, Gs.den, So.den, TI'.den, TIs.den, mSeq, mRet, mRetVar, mSet, mPar, mAsg, mExpr, mIf, mNx, mFl, mStuck, andL, orL, var_v, var_o, var_t, sop_v, sop_o, sop_t, cmp_v, cmp_o, cmp_t, chain_v, chain_o, chain_t, and_v, and_o, and_t, or_v, or_o, or_t, not_v, not_o, not_t, ite_v, ite_o, ite_t, tup_v, tup_o, lst_v, lst_o, oOf_eq, tOf_eq, tstV_eq, vOp, evOs, evRs, evDs, vChain, rds, rd, SV.data, SV.isScr, oVar, vVar, sSl, vSl, evP, vRev, revD, List.filterMap_cons, vCallP, vCall, evAs, callA_def, apart, Arg.ix, passAs, passA, backA, reown, permL, BOp.f, BOp.st, COp.f, BF.f, isaD, typeD, isNoneD, putR, putAll, storable, asgS_name, asgS_sub, asgS_tup, asgSs_nil, asgSs_cons, itemsM, asgT, asgTs, putS, vApp, seqD, atD, L2.atI, L2.ixN] <;> refine nxt_nx (tot_nil ⟨rfl, w, _, rfl, hw, ?_⟩) <;> (try exact trivial) <;> (show Int.natAbs _ ≤ N + 1) <;> omega
        | _ =>
          simp [k5, k__law_bent_0, k__law_bent_7, k__law_bent_8, gl_0, gl_1, gl_2, S.den, E.den, Es.den, Ds.den, OE.den, Gs.den, So.den, TI'.den, TIs.den, mSeq, mRet, mRetVar, mSet, mPar, mAsg, mExpr, mIf, mNx, mFl, mStuck, andL, orL, var_v, var_o, var_t, sop_v, sop_o, sop_t, cmp_v, cmp_o, cmp_t, chain_v, chain_o, chain_t, and_v, and_o, and_t, or_v, or_o, or_t, not_v, not_o, not_t, ite_v, ite_o, ite_t, tup_v, tup_o, lst_v, lst_o, oOf_eq, tOf_eq, tstV_eq, vOp, evOs, evRs, evDs, vChain, rds, rd, SV.data, SV.isScr, oVar, vVar, sSl, vSl, evP, vRev, revD, List.filterMap_cons, vCallP, vCall, evAs, callA_def, apart, Arg.ix, passAs, passA, backA, reown, permL, BOp.f, BOp.st, COp.f, BF.f, isaD, typeD, isNoneD, putR, putAll, storable, asgS_name, asgS_sub, asgS_tup, asgSs_nil, asgSs_cons, itemsM, asgT, asgTs, putS, vApp, seqD, atD, L2.atI, L2.ixN]
          refine tot_cons ?_
          simp [k5, s__law_is_whole, isW, k__law_bent_0, k__law_bent_7, k__law_bent_8, gl_0, gl_1, gl_2, S.den, E.den, Es.den, Ds.den, OE.den, Gs.den, So.den, TI'.den, TIs.den, mSeq, mRet, mRetVar, mSet, mPar, mAsg, mExpr, mIf, mNx, mFl, mStuck, andL, orL, var_v, var_o, var_t, sop_v, sop_o, sop_t, cmp_v, cmp_o, cmp_t, chain_v, chain_o, chain_t, and_v, and_o, and_t, or_v, or_o, or_t, not_v, not_o, not_t, ite_v, ite_o, ite_t, tup_v, tup_o, lst_v, lst_o, oOf_eq, tOf_eq, tstV_eq, vOp, evOs, evRs, evDs, vChain, rds, rd, SV.data, SV.isScr, oVar, vVar, sSl, vSl, evP, vRev, revD, List.filterMap_cons, vCallP, vCall, evAs, callA_def, apart, Arg.ix, passAs, passA, backA, reown, permL, BOp.f, BOp.st, COp.f, BF.f, isaD, typeD, isNoneD, putR, putAll, storable, asgS_name, asgS_sub, asgS_tup, asgSs_nil, asgSs_cons, itemsM, asgT, asgTs, putS, vApp, seqD, atD, L2.atI, L2.ixN]
          exact odd2 _
      · have e0 : tot ((Ss.cons (S.ite (E.and (Es.cons (E.call 7 (Gs.lend 5 Gs.nil)) (Es.cons (E.cmp COp.lt (E.var 3) (E.int 5)) Es.nil))) (Ss.cons (S.set 5 ((E.tup (Ds.cons false (E.bin BOp.add (E.var 5) (E.int 1)) (Ds.cons false (E.bin BOp.sub (E.var 5) (E.int 1)) (Ds.cons false (E.bin BOp.sub (E.int 0) (E.var 5)) (Ds.cons false (E.cmp COp.gt (E.var 5) (E.int 0)) (Ds.cons false (E.bin BOp.sub (E.int 1) (E.var 5)) Ds.nil)))))).idx (E.var 3))) Ss.nil) (Ss.cons (S.set 5 (E.call 8 (Gs.give 0 Gs.nil))) Ss.nil)) Ss.nil).den (look A_9) γ [some (.io w), some (.frz thing), x2, some (.frz (.int k)), some (.own path), some (.frz here), x6, none]) (fun f e => f = .nx ∧ ∃ (w : List PyData) (here : PyData), e = [some (.io w), some (.frz thing), x2, some (.frz (.int k)), some (.own path), some (.frz here), x6, none] ∧ Well w ∧ Sm (N + 1) (L + 1) here) := by
          refine tot_cons ?_
          cases h : isW here <;> simp [k5, s__law_is_whole, h, k__law_bent_0, k__law_bent_7, k__law_bent_8, gl_0, gl_1, gl_2, S.den, E.den, Es.den, Ds.den, OE.den, Gs.den, So.den, TI'.den, TIs.den, mSeq, mRet, mRetVar, mSet, mPar, mAsg, mExpr, mIf, mNx, mFl, mStuck, andL, orL, var_v, var_o, var_t, sop_v, sop_o, sop_t, cmp_v, cmp_o, cmp_t, chain_v, chain_o, chain_t, and_v, and_o, and_t, or_v, or_o, or_t, not_v, not_o, not_t, ite_v, ite_o, ite_t, tup_v, tup_o, lst_v, lst_o, oOf_eq, tOf_eq, tstV_eq, vOp, evOs, evRs, evDs, vChain, rds, rd, SV.data, SV.isScr, oVar, vVar, sSl, vSl, evP, vRev, revD, List.filterMap_cons, vCallP, vCall, evAs, callA_def, apart, Arg.ix, passAs, passA, backA, reown, permL, BOp.f, BOp.st, COp.f, BF.f, isaD, typeD, isNoneD, putR, putAll, storable, asgS_name, asgS_sub, asgS_tup, asgSs_nil, asgSs_cons, itemsM, asgT, asgTs, putS, vApp, seqD, atD, L2.atI, L2.ixN] <;> exact odd2 _
        cases here <;> simp [k5, k__law_bent_0, k__law_bent_7, k__law_bent_8, gl_0, gl_1, gl_2, S.den, E.den, Es.den, Ds.den, OE.den, Gs.den, So.den, TI'.den, TIs.den, mSeq, mRet, mRetVar, mSet, mPar, mAsg, mExpr, mIf, mNx, mFl, mStuck, andL, orL, var_v, var_o, var_t, sop_v, sop_o, sop_t, cmp_v, cmp_o, cmp_t, chain_v, chain_o, chain_t, and_v, and_o, and_t, or_v, or_o, or_t, not_v, not_o, not_t, ite_v, ite_o, ite_t, tup_v, tup_o, lst_v, lst_o, oOf_eq, tOf_eq, tstV_eq, vOp, evOs, evRs, evDs, vChain, rds, rd, SV.data, SV.isScr, oVar, vVar, sSl, vSl, evP, vRev, revD, List.filterMap_cons, vCallP, vCall, evAs, callA_def, apart, Arg.ix, passAs, passA, backA, reown, permL, BOp.f, BOp.st, COp.f, BF.f, isaD, typeD, isNoneD, putR, putAll, storable, asgS_name, asgS_sub, asgS_tup, asgSs_nil, asgSs_cons, itemsM, asgT, asgTs, putS, vApp, seqD, atD, L2.atI, L2.ixN] <;> exact e0
    · rintro _ _ ⟨rfl, w, here, rfl, hw, hh⟩
      refine nxt_nx (tot_cons (tot_imp (Q := fun f e => f = .nx ∧ ∃ (w : List PyData) (x6 x7 : Option SV) (here : PyData), e = [some (.io w), some (.frz thing), x2, some (.frz (.int k)), some (.own path), some (.frz here), x6, x7] ∧ Well w ∧ Sm (N + 1) (L + 1) here ∧ Pl x6 ∧ Pl x7) ?_ ?_))
      · refine tot_forS (items := path.reverse) (ls := []) (env1 := [some (.io w), some (.frz thing), x2, some (.frz (.int k)), some (.own path), some (.frz here), x6, none]) ?_ (tot_for (fun _ e => ∃ (w : List PyData) (x6 x7 : Option SV) (here : PyData), e = [some (.io w), some (.frz thing), x2, some (.frz (.int k)), some (.own path), some (.frz here), x6, x7] ∧ Well w ∧ Sm (N + 1) (L + 1) here ∧ Pl x6 ∧ Pl x7) ?_ ?_ ?_)
        · simp [vSeq, srcO, Ss.den, S.den, E.den, Es.den, Ds.den, OE.den, Gs.den, So.den, TI'.den, TIs.den, mSeq, mRet, mRetVar, mSet, mPar, mAsg, mExpr, mIf, mNx, mFl, mStuck, andL, orL, var_v, var_o, var_t, sop_v, sop_o, sop_t, cmp_v, cmp_o, cmp_t, chain_v, chain_o, chain_t, and_v, and_o, and_t, or_v, or_o, or_t, not_v, not_o, not_t, ite_v, ite_o, ite_t, tup_v, tup_o, lst_v, lst_o, oOf_eq, tOf_eq, tstV_eq, vOp, evOs, evRs, evDs, vChain, rds, rd, SV.data, SV.isScr, oVar, vVar, sSl, vSl, evP, vRev, revD, List.filterMap_cons, vCallP, vCall, evAs, callA_def, apart, Arg.ix, passAs, passA, backA, reown, permL, BOp.f, BOp.st, COp.f, BF.f, isaD, typeD, isNoneD, putR, putAll, storable, asgS_name, asgS_sub, asgS_tup, asgSs_nil, asgSs_cons, itemsM, asgT, asgTs, putS, vApp, seqD, atD, L2.atI, L2.ixN]
        · exact ⟨w, x6, none, here, by simp [lendS], hw, hh, nx6, .non⟩
        · rintro i d _ hi ⟨w, x6, x7, here, rfl, hw, hh, p6, p7⟩
          obtain ⟨ds, j, rfl, hj, hs⟩ := hp d (List.mem_reverse.mp (List.mem_of_getElem? hi))
          have n6 := p6.io
          have n7 := p7.io
          have hl : ds.length ≤ 1000 := Nat.le_trans hs.1 hL2
          refine ⟨[some (.io w), some (.frz thing), x2, some (.frz (.int k)), some (.own path), some (.frz here), some (.frz (.int j)), some (.frz (.tuple ds))], by simp [asgT, asgTs, putS, storable, n6, n7], tot_cons ?_⟩
          have c1 := cutL_to (ds := ds) (j := j) (by omega)
          have c2 : cutL ds (some ((j : Int) + 1)) none = ds.drop (j + 1) := cutL_from (ds := ds) (j := j + 1) (by omega)
          have z1 : j ≤ 16777215 := by omega
          have z2 : min j ds.length = j := by omega
          have z3 : j + 1 + (ds.length - (j + 1)) ≤ 16777216 := by omega
          simp [evP, cutD, sizeLine, c1, c2, z1, z2, z3, k__law_bent_0, k__law_bent_7, k__law_bent_8, gl_0, gl_1, gl_2, S.den, E.den, Es.den, Ds.den, OE.den, Gs.den, So.den, TI'.den, TIs.den, mSeq, mRet, mRetVar, mSet, mPar, mAsg, mExpr, mIf, mNx, mFl, mStuck, andL, orL, var_v, var_o, var_t, sop_v, sop_o, sop_t, cmp_v, cmp_o, cmp_t, chain_v, chain_o, chain_t, and_v, and_o, and_t, or_v, or_o, or_t, not_v, not_o, not_t, ite_v, ite_o, ite_t, tup_v, tup_o, lst_v, lst_o, oOf_eq, tOf_eq, tstV_eq, vOp, evOs, evRs, evDs, vChain, rds, rd, SV.data, SV.isScr, oVar, vVar, sSl, vSl, evP, vRev, revD, List.filterMap_cons, vCallP, vCall, evAs, callA_def, apart, Arg.ix, passAs, passA, backA, reown, permL, BOp.f, BOp.st, COp.f, BF.f, isaD, typeD, isNoneD, putR, putAll, storable, asgS_name, asgS_sub, asgS_tup, asgSs_nil, asgSs_cons, itemsM, asgT, asgTs, putS, vApp, seqD, atD, L2.atI, L2.ixN]
          refine nxt_nx (tot_nil ⟨w, _, _, _, rfl, hw, ⟨?_, SmA_of fun x hx => ?_⟩, .frz, .frz⟩)
          · have := hs.1
            simp
            omega
          · simp at hx
            rcases hx with hx | rfl | hx
            · exact (SmA_mem hs.2 x (List.mem_of_mem_take hx)).up
            · exact hh
            · exact (SmA_mem hs.2 x (List.mem_of_mem_drop hx)).up
        · rintro _ ⟨w, x6, x7, here, rfl, hw, hh, p6, p7⟩
          refine ⟨rfl, w, x6, x7, here, ?_, hw, hh, p6, p7⟩
          rcases p6 with rfl | ⟨_, rfl⟩ <;> rcases p7 with rfl | ⟨_, rfl⟩ <;> simp [restS, mergeS]
      · rintro _ _ ⟨rfl, w, x6, x7, here, rfl, hw, hh, nx6, nx7⟩
        refine nxt_nx (tot_cons ?_)
        simp [k__law_bent_0, k__law_bent_7, k__law_bent_8, gl_0, gl_1, gl_2, S.den, E.den, Es.den, Ds.den, OE.den, Gs.den, So.den, TI'.den, TIs.den, mSeq, mRet, mRetVar, mSet, mPar, mAsg, mExpr, mIf, mNx, mFl, mStuck, andL, orL, var_v, var_o, var_t, sop_v, sop_o, sop_t, cmp_v, cmp_o, cmp_t, chain_v, chain_o, chain_t, and_v, and_o, and_t, or_v, or_o, or_t, not_v, not_o, not_t, ite_v, ite_o, ite_t, tup_v, tup_o, lst_v, lst_o, oOf_eq, tOf_eq, tstV_eq, vOp, evOs, evRs, evDs, vChain, rds, rd, SV.data, SV.isScr, oVar, vVar, sSl, vSl, evP, vRev, revD, List.filterMap_cons, vCallP, vCall, evAs, callA_def, apart, Arg.ix, passAs, passA, backA, reown, permL, BOp.f, BOp.st, COp.f, BF.f, isaD, typeD, isNoneD, putR, putAll, storable, asgS_name, asgS_sub, asgS_tup, asgSs_nil, asgSs_cons, itemsM, asgT, asgTs, putS, vApp, seqD, atD, L2.atI, L2.ixN]
        exact ⟨_, _, rfl, hh, hw, rfl⟩
end K02
end SP14

section SP15
set_option exponentiation.threshold 20000
namespace K02
open PySem Tw
theorem Sm.mono {N L N' L' : Nat} (hN : N ≤ N') (hL : L ≤ L') : ∀ {d : PyData}, Sm N L d → Sm N' L' d := by
  have H : ∀ (n : Nat) (d : PyData), sizeOf d ≤ n → Sm N L d → Sm N' L' d := by
    intro n
    induction n with
    | zero => intro d h; cases d <;> simp at h <;> omega
    | succ n ih =>
      intro d h hs
      have go : ∀ xs : List PyData, sizeOf xs ≤ n → SmA N L xs → SmA N' L' xs := by
        intro xs hn h
        refine SmA_of fun x hx => ih x ?_ (SmA_mem h x hx)
        have := List.sizeOf_lt_of_mem hx
        omega
      cases d with
      | int i => exact Nat.le_trans hs hN
      | list xs => exact ⟨Nat.le_trans hs.1 hL, go xs (by simp at h; omega) hs.2⟩
      | tuple xs => exact ⟨Nat.le_trans hs.1 hL, go xs (by simp at h; omega) hs.2⟩
      | _ => trivial
  exact fun {d} h => H _ d (Nat.le_refl _) h
/-- the sizes of what is drawn -/
def N0 : Nat := 2 ^ 6000
theorem N0_ge : 10 ^ 20 ≤ N0 := by
  unfold N0
  exact Nat.le_trans (show 10 ^ 20 ≤ 2 ^ 100 by decide) (Nat.pow_le_pow_right (by decide) (by decide))
theorem N0_big : N0 + 2 ≤ Big := by
  have h1 : N0 + 2 ≤ 2 * N0 := by have := N0_ge; omega
  have h2 : 2 * N0 = 2 ^ 6001 := by unfold N0; rw [Nat.mul_comm, ← Nat.pow_succ]
  rw [h2] at h1
  exact Nat.le_trans h1 (by unfold Big; exact Nat.pow_le_pow_right (by decide) (by decide))
theorem Fr.sm {n : Nat} (hn : n ≤ 6000) {d : PyData} (h : Fr n d) : Sm N0 20 d := by
  obtain ⟨p, q, rfl, _, _, h1, h2⟩ := h
  have := Nat.pow_le_pow_right (show 0 < 2 by decide) hn
  exact ⟨by simp, by show _ ≤ 2 ^ 6000; omega, by show _ ≤ 2 ^ 6000; omega, trivial⟩
theorem Row.sm {n k : Nat} (hn : n ≤ 6000) (hk : k ≤ 20) {d : PyData} (h : Row n k d) : Sm N0 20 d := by
  obtain ⟨ds, rfl, l, f⟩ := h
  exact ⟨by omega, SmA_of fun x hx => (f x hx).sm hn⟩
theorem sm_small {i : Int} (h : i.natAbs ≤ 10 ^ 20) : Sm N0 20 (.int i) := by
  have := N0_ge
  show i.natAbs ≤ N0
  omega
theorem GenT.sm {m : Int} (hm : m ≤ 20) {d : PyData} (h : GenT m d) : Sm N0 20 d := by
  obtain ⟨few, rows, sp, is, rfl, f1, f2, r1, r2, hr, sl, hs, hi, il⟩ := h
  refine ⟨by simp, ⟨by omega, SmA_of fun x hx => (hr x hx).sm (by omega) (by omega)⟩, ⟨by omega, SmA_of fun x hx => (hs x hx).1.sm (by omega)⟩, ⟨?_, SmA_of fun x hx => ?_⟩, trivial⟩
  · rcases il with rfl | il
    · simp
    · rw [List.length_map]; omega
  · obtain ⟨i, h, rfl⟩ := List.mem_map.mp hx
    have := hi i h
    exact sm_small (by omega)
theorem s__law_maybe {N L : Nat} (hN : 10 ^ 20 ≤ N) (hL : 5 ≤ L) (hL2 : L ≤ 1000) {w : List PyData} (hw : Well w) (thing : PyData) (ht : Sm N L thing) : tot (c__law_maybe [.io w, .frz thing]) (Io [.frz thing] (Sm (N + 1) (L + 1))) := by
  rw [e__law_maybe]
  refine tot_defC ?_
  unfold b__law_maybe
  refine tot_cons ?_
  simp [sizeLine, k__law_maybe_0, k__law_maybe_8, k__law_maybe_9, gl_0, gl_1, gl_2, S.den, E.den, Es.den, Ds.den, OE.den, Gs.den, So.den, TI'.den, TIs.den, mSeq, mRet, mRetVar, mSet, mPar, mAsg, mExpr, mIf, mNx, mFl, mStuck, andL, orL, var_v, var_o, var_t, sop_v, sop_o, sop_t, cmp_v, cmp_o, cmp_t, chain_v, chain_o, chain_t, and_v, and_o, and_t, or_v, or_o, or_t, not_v, not_o, not_t, ite_v, ite_o, ite_t, tup_v, tup_o, lst_v, lst_o, oOf_eq, tOf_eq, tstV_eq, vOp, evOs, evRs, evDs, vChain, rds, rd, SV.data, SV.isScr, oVar, vVar, sSl, vSl, evP, vRev, revD, List.filterMap_cons, vCallP, vCall, evAs, callA_def, apart, Arg.ix, passAs, passA, backA, reown, permL, BOp.f, BOp.st, COp.f, BF.f, isaD, typeD, isNoneD, putR, putAll, storable, asgS_name, asgS_sub, asgS_tup, asgSs_nil, asgSs_cons, itemsM, asgT, asgTs, putS, vApp, seqD, atD, L2.atI, L2.ixN]
  refine tot_io (s__law_draw hw 10 (by omega) (by omega)) ?_
  rintro _ w ⟨k, rfl, k0, k1⟩ hw
  refine ⟨_, rfl, ?_⟩
  simp [k__law_maybe_0, k__law_maybe_8, k__law_maybe_9, gl_0, gl_1, gl_2, S.den, E.den, Es.den, Ds.den, OE.den, Gs.den, So.den, TI'.den, TIs.den, mSeq, mRet, mRetVar, mSet, mPar, mAsg, mExpr, mIf, mNx, mFl, mStuck, andL, orL, var_v, var_o, var_t, sop_v, sop_o, sop_t, cmp_v, cmp_o, cmp_t, chain_v, chain_o, chain_t, and_v, and_o, and_t, or_v, or_o, or_t, not_v, not_o, not_t, ite_v, ite_o, ite_t, tup_v, tup_o, lst_v, lst_o, oOf_eq, tOf_eq, tstV_eq, vOp, evOs, evRs, evDs, vChain, rds, rd, SV.data, SV.isScr, oVar, vVar, sSl, vSl, evP, vRev, revD, List.filterMap_cons, vCallP, vCall, evAs, callA_def, apart, Arg.ix, passAs, passA, backA, reown, permL, BOp.f, BOp.st, COp.f, BF.f, isaD, typeD, isNoneD, putR, putAll, storable, asgS_name, asgS_sub, asgS_tup, asgSs_nil, asgSs_cons, itemsM, asgT, asgTs, putS, vApp, seqD, atD, L2.atI, L2.ixN]
  refine nxt_nx (tot_cons ?_)
  by_cases h : k < 5
  · simp [h, k__law_maybe_0, k__law_maybe_8, k__law_maybe_9, gl_0, gl_1, gl_2, S.den, E.den, Es.den, Ds.den, OE.den, Gs.den, So.den, TI'.den, TIs.den, mSeq, mRet, mRetVar, mSet, mPar, mAsg, mExpr, mIf, mNx, mFl, mStuck, andL, orL, var_v, var_o, var_t, sop_v, sop_o, sop_t, cmp_v, cmp_o, cmp_t, chain_v, chain_o, chain_t, and_v, and_o, and_t, or_v, or_o, or_t, not_v, not_o, not_t, ite_v, ite_o, ite_t, tup_v, tup_o, lst_v, lst_o, oOf_eq, tOf_eq, tstV_eq, vOp, evOs, evRs, evDs, vChain, rds, rd, SV.data, SV.isScr, oVar, vVar, sSl, vSl, evP, vRev, revD, List.filterMap_cons, vCallP, vCall, evAs, callA_def, apart, Arg.ix, passAs, passA, backA, reown, permL, BOp.f, BOp.st, COp.f, BF.f, isaD, typeD, isNoneD, putR, putAll, storable, asgS_name, asgS_sub, asgS_tup, asgSs_nil, asgSs_cons, itemsM, asgT, asgTs, putS, vApp, seqD, atD, L2.atI, L2.ixN]
    refine tot_cons ?_
    simp [h, k__law_maybe_0, k__law_maybe_8, k__law_maybe_9, gl_0, gl_1, gl_2, S.den, E.den, Es.den, Ds.den, OE.den, Gs.den, So.den, TI'.den, TIs.den, mSeq, mRet, mRetVar, mSet, mPar, mAsg, mExpr, mIf, mNx, mFl, mStuck, andL, orL, var_v, var_o, var_t, sop_v, sop_o, sop_t, cmp_v, cmp_o, cmp_t, chain_v, chain_o, chain_t, and_v, and_o, and_t, or_v, or_o, or_t, not_v, not_o, not_t, ite_v, ite_o, ite_t, tup_v, tup_o, lst_v, lst_o, oOf_eq, tOf_eq, tstV_eq, vOp, evOs, evRs, evDs, vChain, rds, rd, SV.data, SV.isScr, oVar, vVar, sSl, vSl, evP, vRev, revD, List.filterMap_cons, vCallP, vCall, evAs, callA_def, apart, Arg.ix, passAs, passA, backA, reown, permL, BOp.f, BOp.st, COp.f, BF.f, isaD, typeD, isNoneD, putR, putAll, storable, asgS_name, asgS_sub, asgS_tup, asgSs_nil, asgSs_cons, itemsM, asgT, asgTs, putS, vApp, seqD, atD, L2.atI, L2.ixN]
    exact ⟨_, _, rfl, ht.up, hw, rfl⟩
  · simp [h, k__law_maybe_0, k__law_maybe_8, k__law_maybe_9, gl_0, gl_1, gl_2, S.den, E.den, Es.den, Ds.den, OE.den, Gs.den, So.den, TI'.den, TIs.den, mSeq, mRet, mRetVar, mSet, mPar, mAsg, mExpr, mIf, mNx, mFl, mStuck, andL, orL, var_v, var_o, var_t, sop_v, sop_o, sop_t, cmp_v, cmp_o, cmp_t, chain_v, chain_o, chain_t, and_v, and_o, and_t, or_v, or_o, or_t, not_v, not_o, not_t, ite_v, ite_o, ite_t, tup_v, tup_o, lst_v, lst_o, oOf_eq, tOf_eq, tstV_eq, vOp, evOs, evRs, evDs, vChain, rds, rd, SV.data, SV.isScr, oVar, vVar, sSl, vSl, evP, vRev, revD, List.filterMap_cons, vCallP, vCall, evAs, callA_def, apart, Arg.ix, passAs, passA, backA, reown, permL, BOp.f, BOp.st, COp.f, BF.f, isaD, typeD, isNoneD, putR, putAll, storable, asgS_name, asgS_sub, asgS_tup, asgSs_nil, asgSs_cons, itemsM, asgT, asgTs, putS, vApp, seqD, atD, L2.atI, L2.ixN]
    refine tot_nil (nxt_nx (tot_cons ?_))
    by_cases h2 : k < 9
    · simp [h2, k__law_maybe_0, k__law_maybe_8, k__law_maybe_9, gl_0, gl_1, gl_2, S.den, E.den, Es.den, Ds.den, OE.den, Gs.den, So.den, TI'.den, TIs.den, mSeq, mRet, mRetVar, mSet, mPar, mAsg, mExpr, mIf, mNx, mFl, mStuck, andL, orL, var_v, var_o, var_t, sop_v, sop_o, sop_t, cmp_v, cmp_o, cmp_t, chain_v, chain_o, chain_t, and_v, and_o, and_t, or_v, or_o, or_t, not_v, not_o, not_t, ite_v, ite_o, ite_t, tup_v, tup_o, lst_v, lst_o, oOf_eq, tOf_eq, tstV_eq, vOp, evOs, evRs, evDs, vChain, rds, rd, SV.data, SV.isScr, oVar, vVar, sSl, vSl, evP, vRev, revD, List.filterMap_cons, vCallP, vCall, evAs, callA_def, apart, Arg.ix, passAs, passA, backA, reown, permL, BOp.f, BOp.st, COp.f, BF.f, isaD, typeD, isNoneD, putR, putAll, storable, asgS_name, asgS_sub, asgS_tup, asgSs_nil, asgSs_cons, itemsM, asgT, asgTs, putS, vApp, seqD, atD, L2.atI, L2.ixN]
      refine tot_io (s__law_bent hN hL hL2 hw thing ht) ?_
      rintro d w hd hw
      refine ⟨_, rfl, ?_⟩
      simp [k__law_maybe_0, k__law_maybe_8, k__law_maybe_9, gl_0, gl_1, gl_2, S.den, E.den, Es.den, Ds.den, OE.den, Gs.den, So.den, TI'.den, TIs.den, mSeq, mRet, mRetVar, mSet, mPar, mAsg, mExpr, mIf, mNx, mFl, mStuck, andL, orL, var_v, var_o, var_t, sop_v, sop_o, sop_t, cmp_v, cmp_o, cmp_t, chain_v, chain_o, chain_t, and_v, and_o, and_t, or_v, or_o, or_t, not_v, not_o, not_t, ite_v, ite_o, ite_t, tup_v, tup_o, lst_v, lst_o, oOf_eq, tOf_eq, tstV_eq, vOp, evOs, evRs, evDs, vChain, rds, rd, SV.data, SV.isScr, oVar, vVar, sSl, vSl, evP, vRev, revD, List.filterMap_cons, vCallP, vCall, evAs, callA_def, apart, Arg.ix, passAs, passA, backA, reown, permL, BOp.f, BOp.st, COp.f, BF.f, isaD, typeD, isNoneD, putR, putAll, storable, asgS_name, asgS_sub, asgS_tup, asgSs_nil, asgSs_cons, itemsM, asgT, asgTs, putS, vApp, seqD, atD, L2.atI, L2.ixN]
      exact ⟨_, _, rfl, hd, hw, rfl⟩
    · simp [h2, k__law_maybe_0, k__law_maybe_8, k__law_maybe_9, gl_0, gl_1, gl_2, S.den, E.den, Es.den, Ds.den, OE.den, Gs.den, So.den, TI'.den, TIs.den, mSeq, mRet, mRetVar, mSet, mPar, mAsg, mExpr, mIf, mNx, mFl, mStuck, andL, orL, var_v, var_o, var_t, sop_v, sop_o, sop_t, cmp_v, cmp_o, cmp_t, chain_v, chain_o, chain_t, and_v, and_o, and_t, or_v, or_o, or_t, not_v, not_o, not_t, ite_v, ite_o, ite_t, tup_v, tup_o, lst_v, lst_o, oOf_eq, tOf_eq, tstV_eq, vOp, evOs, evRs, evDs, vChain, rds, rd, SV.data, SV.isScr, oVar, vVar, sSl, vSl, evP, vRev, revD, List.filterMap_cons, vCallP, vCall, evAs, callA_def, apart, Arg.ix, passAs, passA, backA, reown, permL, BOp.f, BOp.st, COp.f, BF.f, isaD, typeD, isNoneD, putR, putAll, storable, asgS_name, asgS_sub, asgS_tup, asgSs_nil, asgSs_cons, itemsM, asgT, asgTs, putS, vApp, seqD, atD, L2.atI, L2.ixN]
      refine tot_io (s__law_odd (N := N + 1) (L := L + 1) (by omega) (by omega) hw) ?_
      rintro d w hd hw
      refine ⟨_, rfl, ?_⟩
      simp [k__law_maybe_0, k__law_maybe_8, k__law_maybe_9, gl_0, gl_1, gl_2, S.den, E.den, Es.den, Ds.den, OE.den, Gs.den, So.den, TI'.den, TIs.den, mSeq, mRet, mRetVar, mSet, mPar, mAsg, mExpr, mIf, mNx, mFl, mStuck, andL, orL, var_v, var_o, var_t, sop_v, sop_o, sop_t, cmp_v, cmp_o, cmp_t, chain_v, chain_o, chain_t, and_v, and_o, and_t, or_v, or_o, or_t, not_v, not_o, not_t, ite_v, ite_o, ite_t, tup_v, tup_o, lst_v, lst_o, oOf_eq, tOf_eq, tstV_eq, vOp, evOs, evRs, evDs, vChain, rds, rd, SV.data, SV.isScr, oVar, vVar, sSl, vSl, evP, vRev, revD, List.filterMap_cons, vCallP, vCall, evAs, callA_def, apart, Arg.ix, passAs, passA, backA, reown, permL, BOp.f, BOp.st, COp.f, BF.f, isaD, typeD, isNoneD, putR, putAll, storable, asgS_name, asgS_sub, asgS_tup, asgSs_nil, asgSs_cons, itemsM, asgT, asgTs, putS, vApp, seqD, atD, L2.atI, L2.ixN]
      exact ⟨_, _, rfl, hd, hw, rfl⟩
def GenW (d : PyData) : Prop := ∃ a b : List PyData, d = .tuple [.tuple a, .tuple b] ∧ a.length ≤ 5 ∧ b.length ≤ 5 ∧ (∀ x ∈ a, Fr 20 x) ∧ ∀ x ∈ b, Fr 20 x
theorem GenW.sm {d : PyData} (h : GenW d) : Sm N0 20 d := by
  obtain ⟨a, b, rfl, la, lb, fa, fb⟩ := h
  exact ⟨by simp, ⟨by omega, SmA_of fun x hx => (fa x hx).sm (by omega)⟩, ⟨by omega, SmA_of fun x hx => (fb x hx).sm (by omega)⟩, trivial⟩
theorem s__law_world {w : List PyData} (hw : Well w) (t : PyData) (ht : isTri t = true) : tot (c__law_world [.io w, .frz t]) (Io [.frz t] GenW) := by
  obtain ⟨b1, b2, b3, b4, b5, b6⟩ := tri_bounds ht
  have lv := s__law_levels t ht
  generalize lev t = l at *
  rw [e__law_world]
  refine tot_defC ?_
  unfold b__law_world
  refine tot_cons ?_
  obtain ⟨r0, rows, sp, is, rfl, _⟩ := tri_shape ht
  have b4 : (r0.length : Int) ≤ 5 := b4
  have p1 : (0 : Int) < (rows.length : Int) + 1 := by omega
  simp [p1, k__law_world_4, k__law_world_15, gl_0, gl_1, gl_2, S.den, E.den, Es.den, Ds.den, OE.den, Gs.den, So.den, TI'.den, TIs.den, mSeq, mRet, mRetVar, mSet, mPar, mAsg, mExpr, mIf, mNx, mFl, mStuck, andL, orL, var_v, var_o, var_t, sop_v, sop_o, sop_t, cmp_v, cmp_o, cmp_t, chain_v, chain_o, chain_t, and_v, and_o, and_t, or_v, or_o, or_t, not_v, not_o, not_t, ite_v, ite_o, ite_t, tup_v, tup_o, lst_v, lst_o, oOf_eq, tOf_eq, tstV_eq, vOp, evOs, evRs, evDs, vChain, rds, rd, SV.data, SV.isScr, oVar, vVar, sSl, vSl, evP, vRev, revD, List.filterMap_cons, vCallP, vCall, evAs, callA_def, apart, Arg.ix, passAs, passA, backA, reown, permL, BOp.f, BOp.st, COp.f, BF.f, isaD, typeD, isNoneD, putR, putAll, storable, asgS_name, asgS_sub, asgS_tup, asgSs_nil, asgSs_cons, itemsM, asgT, asgTs, putS, vApp, seqD, atD, L2.atI, L2.ixN]
  have b40 : (0 : Int) ≤ (r0.length : Int) := by omega
  have b41 : (r0.length : Int) ≤ 1000 := by omega
  generalize (r0.length : Int) = n at *
  have D := @s__law_numbers w hw n b40 b41
  refine tot_io D ?_
  rintro _ w ⟨a, rfl, a1, a2⟩ hw
  refine ⟨_, rfl, ?_⟩
  simp [lv, k__law_world_4, k__law_world_15, gl_0, gl_1, gl_2, S.den, E.den, Es.den, Ds.den, OE.den, Gs.den, So.den, TI'.den, TIs.den, mSeq, mRet, mRetVar, mSet, mPar, mAsg, mExpr, mIf, mNx, mFl, mStuck, andL, orL, var_v, var_o, var_t, sop_v, sop_o, sop_t, cmp_v, cmp_o, cmp_t, chain_v, chain_o, chain_t, and_v, and_o, and_t, or_v, or_o, or_t, not_v, not_o, not_t, ite_v, ite_o, ite_t, tup_v, tup_o, lst_v, lst_o, oOf_eq, tOf_eq, tstV_eq, vOp, evOs, evRs, evDs, vChain, rds, rd, SV.data, SV.isScr, oVar, vVar, sSl, vSl, evP, vRev, revD, List.filterMap_cons, vCallP, vCall, evAs, callA_def, apart, Arg.ix, passAs, passA, backA, reown, permL, BOp.f, BOp.st, COp.f, BF.f, isaD, typeD, isNoneD, putR, putAll, storable, asgS_name, asgS_sub, asgS_tup, asgSs_nil, asgSs_cons, itemsM, asgT, asgTs, putS, vApp, seqD, atD, L2.atI, L2.ixN]
  refine tot_io (s__law_numbers hw l b5 (by omega)) ?_
  rintro _ w ⟨b, rfl, c1, c2⟩ hw
  refine ⟨_, rfl, ?_⟩
  simp [sizeLine, k__law_world_4, k__law_world_15, gl_0, gl_1, gl_2, S.den, E.den, Es.den, Ds.den, OE.den, Gs.den, So.den, TI'.den, TIs.den, mSeq, mRet, mRetVar, mSet, mPar, mAsg, mExpr, mIf, mNx, mFl, mStuck, andL, orL, var_v, var_o, var_t, sop_v, sop_o, sop_t, cmp_v, cmp_o, cmp_t, chain_v, chain_o, chain_t, and_v, and_o, and_t, or_v, or_o, or_t, not_v, not_o, not_t, ite_v, ite_o, ite_t, tup_v, tup_o, lst_v, lst_o, oOf_eq, tOf_eq, tstV_eq, vOp, evOs, evRs, evDs, vChain, rds, rd, SV.data, SV.isScr, oVar, vVar, sSl, vSl, evP, vRev, revD, List.filterMap_cons, vCallP, vCall, evAs, callA_def, apart, Arg.ix, passAs, passA, backA, reown, permL, BOp.f, BOp.st, COp.f, BF.f, isaD, typeD, isNoneD, putR, putAll, storable, asgS_name, asgS_sub, asgS_tup, asgSs_nil, asgSs_cons, itemsM, asgT, asgTs, putS, vApp, seqD, atD, L2.atI, L2.ixN]
  exact ⟨_, _, rfl, ⟨a, b, rfl, by omega, by omega, a2, c2⟩, hw, rfl⟩
theorem rep1 {n : Nat} {d : PyData} : (List.replicate n [d]).flatten = List.replicate n d := by
  induction n with
  | zero => rfl
  | succ n ih => rw [List.replicate_succ, List.flatten_cons, ih, List.replicate_succ]; rfl
theorem rep_mem {n : Nat} {xs : List PyData} {d : PyData} (h : d ∈ (List.replicate n xs).flatten) : d ∈ xs := by
  obtain ⟨l, h1, h2⟩ := List.mem_flatten.mp h
  rw [(List.mem_replicate.mp h1).2] at h2
  exact h2
theorem rep_len {n : Nat} {xs : List PyData} : ((List.replicate n xs).flatten).length = n * xs.length := by
  induction n with
  | zero => simp
  | succ n ih => rw [List.replicate_succ, List.flatten_cons, List.length_append, ih, Nat.succ_mul, Nat.add_comm]
theorem fr_mk {p q : Int} (h1 : 0 < q) (h2 : Int.gcd p q = 1) (h3 : p.natAbs < 2 ^ 20) (h4 : q.natAbs < 2 ^ 20) : Fr 20 (.tuple [.int p, .int q]) := ⟨p, q, rfl, h1, h2, h3, h4⟩
set_option maxHeartbeats 4000000 in
theorem s__law_planted {w : List PyData} (hw : Well w) (t : PyData) (ht : GenT 10 t) : tot (c__law_planted [.io w, .frz t]) (Io [.frz t] (Sm N0 20)) := by
  obtain ⟨few, rows, sp, is, rfl, f1, f2, r1, r2, hr, sl, hs, hi, il⟩ := ht
  rw [e__law_planted]
  refine tot_defC ?_
  unfold b__law_planted
  refine tot_cons ?_
  simp [k__law_planted_0, gl_0, gl_1, gl_2, S.den, E.den, Es.den, Ds.den, OE.den, Gs.den, So.den, TI'.den, TIs.den, mSeq, mRet, mRetVar, mSet, mPar, mAsg, mExpr, mIf, mNx, mFl, mStuck, andL, orL, var_v, var_o, var_t, sop_v, sop_o, sop_t, cmp_v, cmp_o, cmp_t, chain_v, chain_o, chain_t, and_v, and_o, and_t, or_v, or_o, or_t, not_v, not_o, not_t, ite_v, ite_o, ite_t, tup_v, tup_o, lst_v, lst_o, oOf_eq, tOf_eq, tstV_eq, vOp, evOs, evRs, evDs, vChain, rds, rd, SV.data, SV.isScr, oVar, vVar, sSl, vSl, evP, vRev, revD, List.filterMap_cons, vCallP, vCall, evAs, callA_def, apart, Arg.ix, passAs, passA, backA, reown, permL, BOp.f, BOp.st, COp.f, BF.f, isaD, typeD, isNoneD, putR, putAll, storable, asgS_name, asgS_sub, asgS_tup, asgSs_nil, asgSs_cons, itemsM, asgT, asgTs, putS, vApp, seqD, atD, L2.atI, L2.ixN]
  refine nxt_nx (tot_cons ?_)
  simp [k__law_planted_0, gl_0, gl_1, gl_2, S.den, E.den, Es.den, Ds.den, OE.den, Gs.den, So.den, TI'.den, TIs.den, mSeq, mRet, mRetVar, mSet, mPar, mAsg, mExpr, mIf, mNx, mFl, mStuck, andL, orL, var_v, var_o, var_t, sop_v, sop_o, sop_t, cmp_v, cmp_o, cmp_t, chain_v, chain_o, chain_t, and_v, and_o, and_t, or_v, or_o, or_t, not_v, not_o, not_t, ite_v, ite_o, ite_t, tup_v, tup_o, lst_v, lst_o, oOf_eq, tOf_eq, tstV_eq, vOp, evOs, evRs, evDs, vChain, rds, rd, SV.data, SV.isScr, oVar, vVar, sSl, vSl, evP, vRev, revD, List.filterMap_cons, vCallP, vCall, evAs, callA_def, apart, Arg.ix, passAs, passA, backA, reown, permL, BOp.f, BOp.st, COp.f, BF.f, isaD, typeD, isNoneD, putR, putAll, storable, asgS_name, asgS_sub, asgS_tup, asgSs_nil, asgSs_cons, itemsM, asgT, asgTs, putS, vApp, seqD, atD, L2.atI, L2.ixN]
  refine tot_io (s__law_draw hw 5 (by omega) (by omega)) ?_
  rintro _ w ⟨k, rfl, k0, k1⟩ hw
  refine ⟨_, rfl, ?_⟩
  simp [k__law_planted_0, gl_0, gl_1, gl_2, S.den, E.den, Es.den, Ds.den, OE.den, Gs.den, So.den, TI'.den, TIs.den, mSeq, mRet, mRetVar, mSet, mPar, mAsg, mExpr, mIf, mNx, mFl, mStuck, andL, orL, var_v, var_o, var_t, sop_v, sop_o, sop_t, cmp_v, cmp_o, cmp_t, chain_v, chain_o, chain_t, and_v, and_o, and_t, or_v, or_o, or_t, not_v, not_o, not_t, ite_v, ite_o, ite_t, tup_v, tup_o, lst_v, lst_o, oOf_eq, tOf_eq, tstV_eq, vOp, evOs, evRs, evDs, vChain, rds, rd, SV.data, SV.isScr, oVar, vVar, sSl, vSl, evP, vRev, revD, List.filterMap_cons, vCallP, vCall, evAs, callA_def, apart, Arg.ix, passAs, passA, backA, reown, permL, BOp.f, BOp.st, COp.f, BF.f, isaD, typeD, isNoneD, putR, putAll, storable, asgS_name, asgS_sub, asgS_tup, asgSs_nil, asgSs_cons, itemsM, asgT, asgTs, putS, vApp, seqD, atD, L2.atI, L2.ixN]
  refine tot_io (s__law_draw hw 2 (by omega) (by omega)) ?_
  rintro _ w ⟨m, rfl, m0, m1⟩ hw
  refine ⟨_, rfl, ?_⟩
  simp [k__law_planted_0, gl_0, gl_1, gl_2, S.den, E.den, Es.den, Ds.den, OE.den, Gs.den, So.den, TI'.den, TIs.den, mSeq, mRet, mRetVar, mSet, mPar, mAsg, mExpr, mIf, mNx, mFl, mStuck, andL, orL, var_v, var_o, var_t, sop_v, sop_o, sop_t, cmp_v, cmp_o, cmp_t, chain_v, chain_o, chain_t, and_v, and_o, and_t, or_v, or_o, or_t, not_v, not_o, not_t, ite_v, ite_o, ite_t, tup_v, tup_o, lst_v, lst_o, oOf_eq, tOf_eq, tstV_eq, vOp, evOs, evRs, evDs, vChain, rds, rd, SV.data, SV.isScr, oVar, vVar, sSl, vSl, evP, vRev, revD, List.filterMap_cons, vCallP, vCall, evAs, callA_def, apart, Arg.ix, passAs, passA, backA, reown, permL, BOp.f, BOp.st, COp.f, BF.f, isaD, typeD, isNoneD, putR, putAll, storable, asgS_name, asgS_sub, asgS_tup, asgSs_nil, asgSs_cons, itemsM, asgT, asgTs, putS, vApp, seqD, atD, L2.atI, L2.ixN]
  refine nxt_nx (tot_cons ?_)
  have SR : ∀ r ∈ rows, Sm N0 20 r := fun r h => (hr r h).sm (by omega) (by omega)
  have SS : ∀ r ∈ sp, Sm N0 20 r := fun r h => (hs r h).1.sm (by omega)
  have SB : ∀ r ∈ is.map PyData.int, Sm N0 20 r := fun r h => by
    obtain ⟨i, h2, rfl⟩ := List.mem_map.mp h
    have := hi i h2
    exact sm_small (by omega)
  have TR : Sm N0 20 (.tuple rows) := ⟨by omega, SmA_of SR⟩
  have TS : Sm N0 20 (.tuple sp) := ⟨by omega, SmA_of SS⟩
  have one : ∀ p q : Int, p.natAbs ≤ 10 → q.natAbs ≤ 10 → Sm N0 20 (.tuple [.int p, .int q]) := fun p q h1 h2 => ⟨by simp, sm_small (by omega), sm_small (by omega), trivial⟩
  have lb : is.length ≤ 10 := by
    rcases il with rfl | il
    · simp
    · omega
  have TB : Sm N0 20 (.tuple (is.map .int)) := ⟨by simp; omega, SmA_of SB⟩
  have tri : ∀ a b c : PyData, Sm N0 20 a → Sm N0 20 b → Sm N0 20 c → Sm N0 20 (.tuple [a, b, c]) := fun a b c h1 h2 h3 => ⟨by simp, h1, h2, h3, trivial⟩
  have nil : Sm N0 20 (.tuple []) := ⟨by simp, trivial⟩
  have mm : m = 0 ∨ m = 1 := by omega
  by_cases z : k = 0
  · have c1 := cutL_1 (ds := rows)
    have e1 : 10 + m ≤ 1000 := by omega
    have e2 : -1000 ≤ 10 + m := by omega
    have e3 : (cutL rows none (some 1)).length ≤ 1000 := by omega
    simp [z, evP, cutD, sizeLine, e1, e2, e3, k__law_planted_0, gl_0, gl_1, gl_2, S.den, E.den, Es.den, Ds.den, OE.den, Gs.den, So.den, TI'.den, TIs.den, mSeq, mRet, mRetVar, mSet, mPar, mAsg, mExpr, mIf, mNx, mFl, mStuck, andL, orL, var_v, var_o, var_t, sop_v, sop_o, sop_t, cmp_v, cmp_o, cmp_t, chain_v, chain_o, chain_t, and_v, and_o, and_t, or_v, or_o, or_t, not_v, not_o, not_t, ite_v, ite_o, ite_t, tup_v, tup_o, lst_v, lst_o, oOf_eq, tOf_eq, tstV_eq, vOp, evOs, evRs, evDs, vChain, rds, rd, SV.data, SV.isScr, oVar, vVar, sSl, vSl, evP, vRev, revD, List.filterMap_cons, vCallP, vCall, evAs, callA_def, apart, Arg.ix, passAs, passA, backA, reown, permL, BOp.f, BOp.st, COp.f, BF.f, isaD, typeD, isNoneD, putR, putAll, storable, asgS_name, asgS_sub, asgS_tup, asgSs_nil, asgSs_cons, itemsM, asgT, asgTs, putS, vApp, seqD, atD, L2.atI, L2.ixN]
    refine tot_cons ?_
    simp [z, evP, cutD, sizeLine, e1, e2, e3, k__law_planted_0, gl_0, gl_1, gl_2, S.den, E.den, Es.den, Ds.den, OE.den, Gs.den, So.den, TI'.den, TIs.den, mSeq, mRet, mRetVar, mSet, mPar, mAsg, mExpr, mIf, mNx, mFl, mStuck, andL, orL, var_v, var_o, var_t, sop_v, sop_o, sop_t, cmp_v, cmp_o, cmp_t, chain_v, chain_o, chain_t, and_v, and_o, and_t, or_v, or_o, or_t, not_v, not_o, not_t, ite_v, ite_o, ite_t, tup_v, tup_o, lst_v, lst_o, oOf_eq, tOf_eq, tstV_eq, vOp, evOs, evRs, evDs, vChain, rds, rd, SV.data, SV.isScr, oVar, vVar, sSl, vSl, evP, vRev, revD, List.filterMap_cons, vCallP, vCall, evAs, callA_def, apart, Arg.ix, passAs, passA, backA, reown, permL, BOp.f, BOp.st, COp.f, BF.f, isaD, typeD, isNoneD, putR, putAll, storable, asgS_name, asgS_sub, asgS_tup, asgSs_nil, asgSs_cons, itemsM, asgT, asgTs, putS, vApp, seqD, atD, L2.atI, L2.ixN]
    refine ⟨_, _, rfl, tri _ _ _ ⟨?_, SmA_of fun x hx => SR x (cutL_mem (rep_mem hx))⟩ ⟨?_, SmA_of fun x hx => ?_⟩ nil, hw, rfl⟩
    · rw [rep_len]
      rcases mm with rfl | rfl <;> simp <;> omega
    · rcases mm with rfl | rfl <;> simp
    · rw [(List.mem_replicate.mp hx).2]
      exact one 1 1 (by decide) (by decide)
  · simp [z, k__law_planted_0, gl_0, gl_1, gl_2, S.den, E.den, Es.den, Ds.den, OE.den, Gs.den, So.den, TI'.den, TIs.den, mSeq, mRet, mRetVar, mSet, mPar, mAsg, mExpr, mIf, mNx, mFl, mStuck, andL, orL, var_v, var_o, var_t, sop_v, sop_o, sop_t, cmp_v, cmp_o, cmp_t, chain_v, chain_o, chain_t, and_v, and_o, and_t, or_v, or_o, or_t, not_v, not_o, not_t, ite_v, ite_o, ite_t, tup_v, tup_o, lst_v, lst_o, oOf_eq, tOf_eq, tstV_eq, vOp, evOs, evRs, evDs, vChain, rds, rd, SV.data, SV.isScr, oVar, vVar, sSl, vSl, evP, vRev, revD, List.filterMap_cons, vCallP, vCall, evAs, callA_def, apart, Arg.ix, passAs, passA, backA, reown, permL, BOp.f, BOp.st, COp.f, BF.f, isaD, typeD, isNoneD, putR, putAll, storable, asgS_name, asgS_sub, asgS_tup, asgSs_nil, asgSs_cons, itemsM, asgT, asgTs, putS, vApp, seqD, atD, L2.atI, L2.ixN]
    refine tot_nil (nxt_nx (tot_cons ?_))
    by_cases z1 : k = 1
    · have e1 : 5 + m ≤ 1000 := by omega
      have e2 : -1000 ≤ 5 + m := by omega
      simp [z1, k__law_planted_0, gl_0, gl_1, gl_2, S.den, E.den, Es.den, Ds.den, OE.den, Gs.den, So.den, TI'.den, TIs.den, mSeq, mRet, mRetVar, mSet, mPar, mAsg, mExpr, mIf, mNx, mFl, mStuck, andL, orL, var_v, var_o, var_t, sop_v, sop_o, sop_t, cmp_v, cmp_o, cmp_t, chain_v, chain_o, chain_t, and_v, and_o, and_t, or_v, or_o, or_t, not_v, not_o, not_t, ite_v, ite_o, ite_t, tup_v, tup_o, lst_v, lst_o, oOf_eq, tOf_eq, tstV_eq, vOp, evOs, evRs, evDs, vChain, rds, rd, SV.data, SV.isScr, oVar, vVar, sSl, vSl, evP, vRev, revD, List.filterMap_cons, vCallP, vCall, evAs, callA_def, apart, Arg.ix, passAs, passA, backA, reown, permL, BOp.f, BOp.st, COp.f, BF.f, isaD, typeD, isNoneD, putR, putAll, storable, asgS_name, asgS_sub, asgS_tup, asgSs_nil, asgSs_cons, itemsM, asgT, asgTs, putS, vApp, seqD, atD, L2.atI, L2.ixN]
      refine tot_cons ?_
      simp [sizeLine, e1, e2, k__law_planted_0, gl_0, gl_1, gl_2, S.den, E.den, Es.den, Ds.den, OE.den, Gs.den, So.den, TI'.den, TIs.den, mSeq, mRet, mRetVar, mSet, mPar, mAsg, mExpr, mIf, mNx, mFl, mStuck, andL, orL, var_v, var_o, var_t, sop_v, sop_o, sop_t, cmp_v, cmp_o, cmp_t, chain_v, chain_o, chain_t, and_v, and_o, and_t, or_v, or_o, or_t, not_v, not_o, not_t, ite_v, ite_o, ite_t, tup_v, tup_o, lst_v, lst_o, oOf_eq, tOf_eq, tstV_eq, vOp, evOs, evRs, evDs, vChain, rds, rd, SV.data, SV.isScr, oVar, vVar, sSl, vSl, evP, vRev, revD, List.filterMap_cons, vCallP, vCall, evAs, callA_def, apart, Arg.ix, passAs, passA, backA, reown, permL, BOp.f, BOp.st, COp.f, BF.f, isaD, typeD, isNoneD, putR, putAll, storable, asgS_name, asgS_sub, asgS_tup, asgSs_nil, asgSs_cons, itemsM, asgT, asgTs, putS, vApp, seqD, atD, L2.atI, L2.ixN]
      refine ⟨_, _, rfl, tri _ _ _ ⟨by simp, ⟨?_, SmA_of fun x hx => ?_⟩, trivial⟩ ⟨by simp, one 2 1 (by decide) (by decide), trivial⟩ nil, hw, rfl⟩
      · rcases mm with rfl | rfl <;> simp
      · rw [(List.mem_replicate.mp hx).2]
        exact one 1 2 (by decide) (by decide)
    · simp [z1, k__law_planted_0, gl_0, gl_1, gl_2, S.den, E.den, Es.den, Ds.den, OE.den, Gs.den, So.den, TI'.den, TIs.den, mSeq, mRet, mRetVar, mSet, mPar, mAsg, mExpr, mIf, mNx, mFl, mStuck, andL, orL, var_v, var_o, var_t, sop_v, sop_o, sop_t, cmp_v, cmp_o, cmp_t, chain_v, chain_o, chain_t, and_v, and_o, and_t, or_v, or_o, or_t, not_v, not_o, not_t, ite_v, ite_o, ite_t, tup_v, tup_o, lst_v, lst_o, oOf_eq, tOf_eq, tstV_eq, vOp, evOs, evRs, evDs, vChain, rds, rd, SV.data, SV.isScr, oVar, vVar, sSl, vSl, evP, vRev, revD, List.filterMap_cons, vCallP, vCall, evAs, callA_def, apart, Arg.ix, passAs, passA, backA, reown, permL, BOp.f, BOp.st, COp.f, BF.f, isaD, typeD, isNoneD, putR, putAll, storable, asgS_name, asgS_sub, asgS_tup, asgSs_nil, asgSs_cons, itemsM, asgT, asgTs, putS, vApp, seqD, atD, L2.atI, L2.ixN]
      refine tot_nil (nxt_nx (tot_cons ?_))
      by_cases z2 : k = 2
      · simp [z2, k__law_planted_0, gl_0, gl_1, gl_2, S.den, E.den, Es.den, Ds.den, OE.den, Gs.den, So.den, TI'.den, TIs.den, mSeq, mRet, mRetVar, mSet, mPar, mAsg, mExpr, mIf, mNx, mFl, mStuck, andL, orL, var_v, var_o, var_t, sop_v, sop_o, sop_t, cmp_v, cmp_o, cmp_t, chain_v, chain_o, chain_t, and_v, and_o, and_t, or_v, or_o, or_t, not_v, not_o, not_t, ite_v, ite_o, ite_t, tup_v, tup_o, lst_v, lst_o, oOf_eq, tOf_eq, tstV_eq, vOp, evOs, evRs, evDs, vChain, rds, rd, SV.data, SV.isScr, oVar, vVar, sSl, vSl, evP, vRev, revD, List.filterMap_cons, vCallP, vCall, evAs, callA_def, apart, Arg.ix, passAs, passA, backA, reown, permL, BOp.f, BOp.st, COp.f, BF.f, isaD, typeD, isNoneD, putR, putAll, storable, asgS_name, asgS_sub, asgS_tup, asgSs_nil, asgSs_cons, itemsM, asgT, asgTs, putS, vApp, seqD, atD, L2.atI, L2.ixN]
        refine tot_cons ?_
        have e1 : (rows.length : Int) - 1 ≤ 1000 := by omega
        have e2 : -1000 ≤ (rows.length : Int) - 1 := by omega
        have e3 : rows.length ≤ 16777216 := by omega
        simp [sizeLine, e1, e2, rep1, e3, k__law_planted_0, gl_0, gl_1, gl_2, S.den, E.den, Es.den, Ds.den, OE.den, Gs.den, So.den, TI'.den, TIs.den, mSeq, mRet, mRetVar, mSet, mPar, mAsg, mExpr, mIf, mNx, mFl, mStuck, andL, orL, var_v, var_o, var_t, sop_v, sop_o, sop_t, cmp_v, cmp_o, cmp_t, chain_v, chain_o, chain_t, and_v, and_o, and_t, or_v, or_o, or_t, not_v, not_o, not_t, ite_v, ite_o, ite_t, tup_v, tup_o, lst_v, lst_o, oOf_eq, tOf_eq, tstV_eq, vOp, evOs, evRs, evDs, vChain, rds, rd, SV.data, SV.isScr, oVar, vVar, sSl, vSl, evP, vRev, revD, List.filterMap_cons, vCallP, vCall, evAs, callA_def, apart, Arg.ix, passAs, passA, backA, reown, permL, BOp.f, BOp.st, COp.f, BF.f, isaD, typeD, isNoneD, putR, putAll, storable, asgS_name, asgS_sub, asgS_tup, asgSs_nil, asgSs_cons, itemsM, asgT, asgTs, putS, vApp, seqD, atD, L2.atI, L2.ixN]
        refine ⟨_, _, rfl, tri _ _ _ TR TS ⟨by simp; omega, SmA_of fun x hx => ?_⟩, hw, rfl⟩
        rcases List.mem_append.mp hx with hx | hx
        · rw [(List.mem_replicate.mp hx).2]; exact sm_small (by decide)
        · rw [List.mem_singleton.mp hx]; exact sm_small (by omega)
      · simp [z2, k__law_planted_0, gl_0, gl_1, gl_2, S.den, E.den, Es.den, Ds.den, OE.den, Gs.den, So.den, TI'.den, TIs.den, mSeq, mRet, mRetVar, mSet, mPar, mAsg, mExpr, mIf, mNx, mFl, mStuck, andL, orL, var_v, var_o, var_t, sop_v, sop_o, sop_t, cmp_v, cmp_o, cmp_t, chain_v, chain_o, chain_t, and_v, and_o, and_t, or_v, or_o, or_t, not_v, not_o, not_t, ite_v, ite_o, ite_t, tup_v, tup_o, lst_v, lst_o, oOf_eq, tOf_eq, tstV_eq, vOp, evOs, evRs, evDs, vChain, rds, rd, SV.data, SV.isScr, oVar, vVar, sSl, vSl, evP, vRev, revD, List.filterMap_cons, vCallP, vCall, evAs, callA_def, apart, Arg.ix, passAs, passA, backA, reown, permL, BOp.f, BOp.st, COp.f, BF.f, isaD, typeD, isNoneD, putR, putAll, storable, asgS_name, asgS_sub, asgS_tup, asgSs_nil, asgSs_cons, itemsM, asgT, asgTs, putS, vApp, seqD, atD, L2.atI, L2.ixN]
        refine tot_nil (nxt_nx (tot_cons ?_))
        by_cases z3 : k = 3
        · simp [z3, k__law_planted_0, gl_0, gl_1, gl_2, S.den, E.den, Es.den, Ds.den, OE.den, Gs.den, So.den, TI'.den, TIs.den, mSeq, mRet, mRetVar, mSet, mPar, mAsg, mExpr, mIf, mNx, mFl, mStuck, andL, orL, var_v, var_o, var_t, sop_v, sop_o, sop_t, cmp_v, cmp_o, cmp_t, chain_v, chain_o, chain_t, and_v, and_o, and_t, or_v, or_o, or_t, not_v, not_o, not_t, ite_v, ite_o, ite_t, tup_v, tup_o, lst_v, lst_o, oOf_eq, tOf_eq, tstV_eq, vOp, evOs, evRs, evDs, vChain, rds, rd, SV.data, SV.isScr, oVar, vVar, sSl, vSl, evP, vRev, revD, List.filterMap_cons, vCallP, vCall, evAs, callA_def, apart, Arg.ix, passAs, passA, backA, reown, permL, BOp.f, BOp.st, COp.f, BF.f, isaD, typeD, isNoneD, putR, putAll, storable, asgS_name, asgS_sub, asgS_tup, asgSs_nil, asgSs_cons, itemsM, asgT, asgTs, putS, vApp, seqD, atD, L2.atI, L2.ixN]
          refine tot_cons ?_
          have c1 := cutL_len (ds := sp) (a := none) (b := some (-1))
          have e3 : (cutL sp none (some (-1))).length ≤ 16777215 := by omega
          simp [evP, cutD, sizeLine, e3, k__law_planted_0, gl_0, gl_1, gl_2, S.den, E.den, Es.den, Ds.den, OE.den, Gs.den, So.den, TI'.den, TIs.den, mSeq, mRet, mRetVar, mSet, mPar, mAsg, mExpr, mIf, mNx, mFl, mStuck, andL, orL, var_v, var_o, var_t, sop_v, sop_o, sop_t, cmp_v, cmp_o, cmp_t, chain_v, chain_o, chain_t, and_v, and_o, and_t, or_v, or_o, or_t, not_v, not_o, not_t, ite_v, ite_o, ite_t, tup_v, tup_o, lst_v, lst_o, oOf_eq, tOf_eq, tstV_eq, vOp, evOs, evRs, evDs, vChain, rds, rd, SV.data, SV.isScr, oVar, vVar, sSl, vSl, evP, vRev, revD, List.filterMap_cons, vCallP, vCall, evAs, callA_def, apart, Arg.ix, passAs, passA, backA, reown, permL, BOp.f, BOp.st, COp.f, BF.f, isaD, typeD, isNoneD, putR, putAll, storable, asgS_name, asgS_sub, asgS_tup, asgSs_nil, asgSs_cons, itemsM, asgT, asgTs, putS, vApp, seqD, atD, L2.atI, L2.ixN]
          refine ⟨_, _, rfl, tri _ _ _ TR ⟨by simp; omega, SmA_of fun x hx => ?_⟩ TB, hw, rfl⟩
          rcases List.mem_append.mp hx with hx | hx
          · exact SS x (cutL_mem hx)
          · rw [List.mem_singleton.mp hx]; exact one m 1 (by omega) (by decide)
        · simp [z3, k__law_planted_0, gl_0, gl_1, gl_2, S.den, E.den, Es.den, Ds.den, OE.den, Gs.den, So.den, TI'.den, TIs.den, mSeq, mRet, mRetVar, mSet, mPar, mAsg, mExpr, mIf, mNx, mFl, mStuck, andL, orL, var_v, var_o, var_t, sop_v, sop_o, sop_t, cmp_v, cmp_o, cmp_t, chain_v, chain_o, chain_t, and_v, and_o, and_t, or_v, or_o, or_t, not_v, not_o, not_t, ite_v, ite_o, ite_t, tup_v, tup_o, lst_v, lst_o, oOf_eq, tOf_eq, tstV_eq, vOp, evOs, evRs, evDs, vChain, rds, rd, SV.data, SV.isScr, oVar, vVar, sSl, vSl, evP, vRev, revD, List.filterMap_cons, vCallP, vCall, evAs, callA_def, apart, Arg.ix, passAs, passA, backA, reown, permL, BOp.f, BOp.st, COp.f, BF.f, isaD, typeD, isNoneD, putR, putAll, storable, asgS_name, asgS_sub, asgS_tup, asgSs_nil, asgSs_cons, itemsM, asgT, asgTs, putS, vApp, seqD, atD, L2.atI, L2.ixN]
          refine tot_nil (nxt_nx (tot_cons ?_))
          have e1 : (rows.length : Int) + m ≤ 1000 := by omega
          have e2 : -1000 ≤ (rows.length : Int) + m := by omega
          simp [sizeLine, e1, e2, rep1, k__law_planted_0, gl_0, gl_1, gl_2, S.den, E.den, Es.den, Ds.den, OE.den, Gs.den, So.den, TI'.den, TIs.den, mSeq, mRet, mRetVar, mSet, mPar, mAsg, mExpr, mIf, mNx, mFl, mStuck, andL, orL, var_v, var_o, var_t, sop_v, sop_o, sop_t, cmp_v, cmp_o, cmp_t, chain_v, chain_o, chain_t, and_v, and_o, and_t, or_v, or_o, or_t, not_v, not_o, not_t, ite_v, ite_o, ite_t, tup_v, tup_o, lst_v, lst_o, oOf_eq, tOf_eq, tstV_eq, vOp, evOs, evRs, evDs, vChain, rds, rd, SV.data, SV.isScr, oVar, vVar, sSl, vSl, evP, vRev, revD, List.filterMap_cons, vCallP, vCall, evAs, callA_def, apart, Arg.ix, passAs, passA, backA, reown, permL, BOp.f, BOp.st, COp.f, BF.f, isaD, typeD, isNoneD, putR, putAll, storable, asgS_name, asgS_sub, asgS_tup, asgSs_nil, asgSs_cons, itemsM, asgT, asgTs, putS, vApp, seqD, atD, L2.atI, L2.ixN]
          refine ⟨_, _, rfl, tri _ _ _ TR TS ⟨by simp; omega, SmA_of fun x hx => ?_⟩, hw, rfl⟩
          rw [(List.mem_replicate.mp hx).2]; exact sm_small (by decide)
end K02
end SP15

section SP16
namespace K02
open PySem Tw
theorem rb (b : Bool) : dRepr [.list [.bool b, .bool b]] = some (.frz (.str (PyData.shown (.list [.bool b, .bool b])))) := by cases b <;> rfl
theorem dNe_str (x : Str) (o : PyData.strOk x = true) : dNe [.str x, .str x] = some (.frz (.bool false)) := by
  have h : eqOk (.str x) (.str x) = true := by simp [eqOk, PyData.canLay0, PyData.depth, o]
  have e : PyData.eqv (.str x) (.str x) = true := by simp [PyData.eqv]
  rw [dNe_eq]
  unfold eqD
  rw [if_pos h, e]
  rfl
theorem rb2 (b : Bool) : dNe [.str (PyData.shown (.list [.bool b, .bool b])), .str (PyData.shown (.list [.bool b, .bool b]))] = some (.frz (.bool false)) := dNe_str _ (by cases b <;> decide +kernel)
theorem int6 {i : Int} (h0 : 0 ≤ i) (h1 : i ≤ 5) : i = 0 ∨ i = 1 ∨ i = 2 ∨ i = 3 ∨ i = 4 ∨ i = 5 := by omega
theorem ri {i : Int} (h0 : 0 ≤ i) (h1 : i ≤ 5) : dRepr [.list [.int i, .int i]] = some (.frz (.str (PyData.shown (.list [.int i, .int i])))) := by
  rcases int6 h0 h1 with rfl | rfl | rfl | rfl | rfl | rfl <;> rfl
theorem ri2 {i : Int} (h0 : 0 ≤ i) (h1 : i ≤ 5) : dNe [.str (PyData.shown (.list [.int i, .int i])), .str (PyData.shown (.list [.int i, .int i]))] = some (.frz (.bool false)) := dNe_str _ (by
  rcases int6 h0 h1 with rfl | rfl | rfl | rfl | rfl | rfl <;> decide +kernel)
def body1 : Ss := .cons (.set 5 (.call 14 (.val (.var 4) (.nil)))) (.cons (.ite (.cmp .ne (.blt .repr (.cons (.lst (.cons false (.call 27 (.lend 4 (.nil))) (.cons false (.kcall 27 (.nil) (.lend 4 (.nil)) ["value"] [0]) (.nil)))) (.nil))) (.blt .repr (.cons (.lst (.cons false (.var 5) (.cons false (.var 5) (.nil)))) (.nil)))) (.cons (.ret (.bool false)) (.nil)) (.nil)) (.cons (.ite (.and (.cons (.var 5) (.cons (.cmp .ne (.blt .repr (.cons (.lst (.cons false (.call 35 (.lend 4 (.nil))) (.cons false (.kcall 35 (.nil) (.lend 4 (.nil)) ["trial"] [0]) (.nil)))) (.nil))) (.blt .repr (.cons (.bin .mul (.lst (.cons false (.call 15 (.lend 4 (.nil))) (.nil))) (.int 2)) (.nil)))) (.nil)))) (.cons (.ret (.bool false)) (.nil)) (.nil)) (.nil)))
theorem body1_ok {L : Nat} {w some4 : List PyData} {x1 x2 x5 x6 x7 : Option SV} {d : PyData} (h5 : ∀ es, x5 ≠ some (.io es)) (hd : Sm Big L d) : tot (body1.den (look A_36) γ [some (.io w), x1, x2, some (.own some4), some (.frz d), x5, x6, x7]) fun f e => f = .nx ∧ e = [some (.io w), x1, x2, some (.own some4), some (.frz d), some (.frz (.bool (isTri d))), x6, x7] := by
  unfold body1
  refine tot_cons ?_
  simp [s__law_is_trial d hd, h5, k__law_right_4, k__law_right_6, k__law_right_8, k__law_right_9, k__law_right_10, k__law_right_13, k__law_right_14, k__law_right_15, k__law_right_16, k__law_right_17, k__law_right_18, k__law_right_27, k__law_right_32, k__law_right_34, k__law_right_35, gl_0, gl_1, gl_2, S.den, E.den, Es.den, Ds.den, OE.den, Gs.den, So.den, TI'.den, TIs.den, mSeq, mRet, mRetVar, mSet, mPar, mAsg, mExpr, mIf, mNx, mFl, mStuck, andL, orL, var_v, var_o, var_t, sop_v, sop_o, sop_t, cmp_v, cmp_o, cmp_t, chain_v, chain_o, chain_t, and_v, and_o, and_t, or_v, or_o, or_t, not_v, not_o, not_t, ite_v, ite_o, ite_t, tup_v, tup_o, lst_v, lst_o, oOf_eq, tOf_eq, tstV_eq, vOp, evOs, evRs, evDs, vChain, rds, rd, SV.data, SV.isScr, oVar, vVar, sSl, vSl, evP, vRev, revD, List.filterMap_cons, vCallP, vCall, evAs, callA_def, apart, Arg.ix, passAs, passA, backA, reown, permL, BOp.f, BOp.st, COp.f, BF.f, isaD, typeD, isNoneD, putR, putAll, storable, asgS_name, asgS_sub, asgS_tup, asgSs_nil, asgSs_cons, itemsM, asgT, asgTs, putS, vApp, seqD, atD, L2.atI, L2.ixN]
  refine nxt_nx (tot_cons ?_)
  simp [s_is_trial, sizeLine, k__law_right_4, k__law_right_6, k__law_right_8, k__law_right_9, k__law_right_10, k__law_right_13, k__law_right_14, k__law_right_15, k__law_right_16, k__law_right_17, k__law_right_18, k__law_right_27, k__law_right_32, k__law_right_34, k__law_right_35, gl_0, gl_1, gl_2, S.den, E.den, Es.den, Ds.den, OE.den, Gs.den, So.den, TI'.den, TIs.den, mSeq, mRet, mRetVar, mSet, mPar, mAsg, mExpr, mIf, mNx, mFl, mStuck, andL, orL, var_v, var_o, var_t, sop_v, sop_o, sop_t, cmp_v, cmp_o, cmp_t, chain_v, chain_o, chain_t, and_v, and_o, and_t, or_v, or_o, or_t, not_v, not_o, not_t, ite_v, ite_o, ite_t, tup_v, tup_o, lst_v, lst_o, oOf_eq, tOf_eq, tstV_eq, vOp, evOs, evRs, evDs, vChain, rds, rd, SV.data, SV.isScr, oVar, vVar, sSl, vSl, evP, vRev, revD, List.filterMap_cons, vCallP, vCall, evAs, callA_def, apart, Arg.ix, passAs, passA, backA, reown, permL, BOp.f, BOp.st, COp.f, BF.f, isaD, typeD, isNoneD, putR, putAll, storable, asgS_name, asgS_sub, asgS_tup, asgSs_nil, asgSs_cons, itemsM, asgT, asgTs, putS, vApp, seqD, atD, L2.atI, L2.ixN]
  simp [rb, rb2, sizeLine, -dNe_eq, k__law_right_4, k__law_right_6, k__law_right_8, k__law_right_9, k__law_right_10, k__law_right_13, k__law_right_14, k__law_right_15, k__law_right_16, k__law_right_17, k__law_right_18, k__law_right_27, k__law_right_32, k__law_right_34, k__law_right_35, gl_0, gl_1, gl_2, S.den, E.den, Es.den, Ds.den, OE.den, Gs.den, So.den, TI'.den, TIs.den, mSeq, mRet, mRetVar, mSet, mPar, mAsg, mExpr, mIf, mNx, mFl, mStuck, andL, orL, var_v, var_o, var_t, sop_v, sop_o, sop_t, cmp_v, cmp_o, cmp_t, chain_v, chain_o, chain_t, and_v, and_o, and_t, or_v, or_o, or_t, not_v, not_o, not_t, ite_v, ite_o, ite_t, tup_v, tup_o, lst_v, lst_o, oOf_eq, tOf_eq, tstV_eq, vOp, evOs, evRs, evDs, vChain, rds, rd, SV.data, SV.isScr, oVar, vVar, sSl, vSl, evP, vRev, revD, List.filterMap_cons, vCallP, vCall, evAs, callA_def, apart, Arg.ix, passAs, passA, backA, reown, permL, BOp.f, BOp.st, COp.f, BF.f, isaD, typeD, isNoneD, putR, putAll, storable, asgS_name, asgS_sub, asgS_tup, asgSs_nil, asgSs_cons, itemsM, asgT, asgTs, putS, vApp, seqD, atD, L2.atI, L2.ixN]
  refine tot_nil (nxt_nx (tot_cons ?_))
  cases h : isTri d with
  | false =>
    simp [k__law_right_4, k__law_right_6, k__law_right_8, k__law_right_9, k__law_right_10, k__law_right_13, k__law_right_14, k__law_right_15, k__law_right_16, k__law_right_17, k__law_right_18, k__law_right_27, k__law_right_32, k__law_right_34, k__law_right_35, gl_0, gl_1, gl_2, S.den, E.den, Es.den, Ds.den, OE.den, Gs.den, So.den, TI'.den, TIs.den, mSeq, mRet, mRetVar, mSet, mPar, mAsg, mExpr, mIf, mNx, mFl, mStuck, andL, orL, var_v, var_o, var_t, sop_v, sop_o, sop_t, cmp_v, cmp_o, cmp_t, chain_v, chain_o, chain_t, and_v, and_o, and_t, or_v, or_o, or_t, not_v, not_o, not_t, ite_v, ite_o, ite_t, tup_v, tup_o, lst_v, lst_o, oOf_eq, tOf_eq, tstV_eq, vOp, evOs, evRs, evDs, vChain, rds, rd, SV.data, SV.isScr, oVar, vVar, sSl, vSl, evP, vRev, revD, List.filterMap_cons, vCallP, vCall, evAs, callA_def, apart, Arg.ix, passAs, passA, backA, reown, permL, BOp.f, BOp.st, COp.f, BF.f, isaD, typeD, isNoneD, putR, putAll, storable, asgS_name, asgS_sub, asgS_tup, asgSs_nil, asgSs_cons, itemsM, asgT, asgTs, putS, vApp, seqD, atD, L2.atI, L2.ixN]
    exact tot_nil ⟨rfl, rfl⟩
  | true =>
    obtain ⟨b1, b2, b3, b4, b5, b6⟩ := tri_bounds h
    simp [s_levels_of d h, s__law_levels d h, ri b5 b6, ri2 b5 b6, sizeLine, -dNe_eq, k__law_right_4, k__law_right_6, k__law_right_8, k__law_right_9, k__law_right_10, k__law_right_13, k__law_right_14, k__law_right_15, k__law_right_16, k__law_right_17, k__law_right_18, k__law_right_27, k__law_right_32, k__law_right_34, k__law_right_35, gl_0, gl_1, gl_2, S.den, E.den, Es.den, Ds.den, OE.den, Gs.den, So.den, TI'.den, TIs.den, mSeq, mRet, mRetVar, mSet, mPar, mAsg, mExpr, mIf, mNx, mFl, mStuck, andL, orL, var_v, var_o, var_t, sop_v, sop_o, sop_t, cmp_v, cmp_o, cmp_t, chain_v, chain_o, chain_t, and_v, and_o, and_t, or_v, or_o, or_t, not_v, not_o, not_t, ite_v, ite_o, ite_t, tup_v, tup_o, lst_v, lst_o, oOf_eq, tOf_eq, tstV_eq, vOp, evOs, evRs, evDs, vChain, rds, rd, SV.data, SV.isScr, oVar, vVar, sSl, vSl, evP, vRev, revD, List.filterMap_cons, vCallP, vCall, evAs, callA_def, apart, Arg.ix, passAs, passA, backA, reown, permL, BOp.f, BOp.st, COp.f, BF.f, isaD, typeD, isNoneD, putR, putAll, storable, asgS_name, asgS_sub, asgS_tup, asgSs_nil, asgSs_cons, itemsM, asgT, asgTs, putS, vApp, seqD, atD, L2.atI, L2.ixN]
    exact tot_nil (nxt_nx (tot_nil ⟨rfl, rfl⟩))
def body2 : Ss := .cons (.set 5 (.call 17 (.lend 2 (.lend 4 (.nil))))) (.cons (.ite (.cmp .ne (.blt .repr (.cons (.lst (.cons false (.call 32 (.lend 2 (.lend 4 (.nil)))) (.cons false (.kcall 32 (.nil) (.lend 4 (.lend 2 (.nil))) ["value", "trial"] [1, 0]) (.nil)))) (.nil))) (.blt .repr (.cons (.lst (.cons false (.var 5) (.cons false (.var 5) (.nil)))) (.nil)))) (.cons (.ret (.bool false)) (.nil)) (.nil)) (.nil))
theorem body2_ok {L : Nat} {w some4 : List PyData} {x1 x5 x6 x7 : Option SV} {t d : PyData} (h5 : ∀ es, x5 ≠ some (.io es)) (ht : isTri t = true) (hd : Sm Big L d) : tot (body2.den (look A_36) γ [some (.io w), x1, some (.frz t), some (.own some4), some (.frz d), x5, x6, x7]) fun f e => f = .nx ∧ e = [some (.io w), x1, some (.frz t), some (.own some4), some (.frz d), some (.frz (.bool (isWor t d))), x6, x7] := by
  unfold body2
  refine tot_cons ?_
  simp [s__law_is_world t d ht hd, h5, k__law_right_4, k__law_right_6, k__law_right_8, k__law_right_9, k__law_right_10, k__law_right_13, k__law_right_14, k__law_right_15, k__law_right_16, k__law_right_17, k__law_right_18, k__law_right_27, k__law_right_32, k__law_right_34, k__law_right_35, gl_0, gl_1, gl_2, S.den, E.den, Es.den, Ds.den, OE.den, Gs.den, So.den, TI'.den, TIs.den, mSeq, mRet, mRetVar, mSet, mPar, mAsg, mExpr, mIf, mNx, mFl, mStuck, andL, orL, var_v, var_o, var_t, sop_v, sop_o, sop_t, cmp_v, cmp_o, cmp_t, chain_v, chain_o, chain_t, and_v, and_o, and_t, or_v, or_o, or_t, not_v, not_o, not_t, ite_v, ite_o, ite_t, tup_v, tup_o, lst_v, lst_o, oOf_eq, tOf_eq, tstV_eq, vOp, evOs, evRs, evDs, vChain, rds, rd, SV.data, SV.isScr, oVar, vVar, sSl, vSl, evP, vRev, revD, List.filterMap_cons, vCallP, vCall, evAs, callA_def, apart, Arg.ix, passAs, passA, backA, reown, permL, BOp.f, BOp.st, COp.f, BF.f, isaD, typeD, isNoneD, putR, putAll, storable, asgS_name, asgS_sub, asgS_tup, asgSs_nil, asgSs_cons, itemsM, asgT, asgTs, putS, vApp, seqD, atD, L2.atI, L2.ixN]
  refine nxt_nx (tot_cons ?_)
  simp [s_is_world t d ht, rb, rb2, sizeLine, -dNe_eq, k__law_right_4, k__law_right_6, k__law_right_8, k__law_right_9, k__law_right_10, k__law_right_13, k__law_right_14, k__law_right_15, k__law_right_16, k__law_right_17, k__law_right_18, k__law_right_27, k__law_right_32, k__law_right_34, k__law_right_35, gl_0, gl_1, gl_2, S.den, E.den, Es.den, Ds.den, OE.den, Gs.den, So.den, TI'.den, TIs.den, mSeq, mRet, mRetVar, mSet, mPar, mAsg, mExpr, mIf, mNx, mFl, mStuck, andL, orL, var_v, var_o, var_t, sop_v, sop_o, sop_t, cmp_v, cmp_o, cmp_t, chain_v, chain_o, chain_t, and_v, and_o, and_t, or_v, or_o, or_t, not_v, not_o, not_t, ite_v, ite_o, ite_t, tup_v, tup_o, lst_v, lst_o, oOf_eq, tOf_eq, tstV_eq, vOp, evOs, evRs, evDs, vChain, rds, rd, SV.data, SV.isScr, oVar, vVar, sSl, vSl, evP, vRev, revD, List.filterMap_cons, vCallP, vCall, evAs, callA_def, apart, Arg.ix, passAs, passA, backA, reown, permL, BOp.f, BOp.st, COp.f, BF.f, isaD, typeD, isNoneD, putR, putAll, storable, asgS_name, asgS_sub, asgS_tup, asgSs_nil, asgSs_cons, itemsM, asgT, asgTs, putS, vApp, seqD, atD, L2.atI, L2.ixN]
  exact tot_nil (nxt_nx (tot_nil ⟨rfl, rfl⟩))
def body3 : Ss := .cons (.set 5 (.call 13 (.lend 4 (.val (.blt .len (.cons (.var 7) (.nil))) (.nil))))) (.cons (.ite (.cmp .ne (.blt .repr (.cons (.lst (.cons false (.call 34 (.lend 2 (.lend 4 (.nil)))) (.cons false (.kcall 34 (.nil) (.lend 4 (.lend 2 (.nil))) ["value", "trial"] [1, 0]) (.nil)))) (.nil))) (.blt .repr (.cons (.lst (.cons false (.var 5) (.cons false (.var 5) (.nil)))) (.nil)))) (.cons (.ret (.bool false)) (.nil)) (.nil)) (.nil))
theorem body3_ok {L : Nat} {w some4 asked : List PyData} {x1 x5 x6 : Option SV} {t d : PyData} (h5 : ∀ es, x5 ≠ some (.io es)) (ht : isTri t = true) (hd : Sm Big L d) (ha : (asked.length : Int) = unk t) : tot (body3.den (look A_36) γ [some (.io w), x1, some (.frz t), some (.own some4), some (.frz d), x5, x6, some (.frz (.tuple asked))]) fun f e => f = .nx ∧ e = [some (.io w), x1, some (.frz t), some (.own some4), some (.frz d), some (.frz (.bool (isRow d (unk t)))), x6, some (.frz (.tuple asked))] := by
  obtain ⟨b1, _⟩ := tri_bounds ht
  unfold body3
  refine tot_cons ?_
  simp [ha, s__law_is_row d hd _ b1, h5, k__law_right_4, k__law_right_6, k__law_right_8, k__law_right_9, k__law_right_10, k__law_right_13, k__law_right_14, k__law_right_15, k__law_right_16, k__law_right_17, k__law_right_18, k__law_right_27, k__law_right_32, k__law_right_34, k__law_right_35, gl_0, gl_1, gl_2, S.den, E.den, Es.den, Ds.den, OE.den, Gs.den, So.den, TI'.den, TIs.den, mSeq, mRet, mRetVar, mSet, mPar, mAsg, mExpr, mIf, mNx, mFl, mStuck, andL, orL, var_v, var_o, var_t, sop_v, sop_o, sop_t, cmp_v, cmp_o, cmp_t, chain_v, chain_o, chain_t, and_v, and_o, and_t, or_v, or_o, or_t, not_v, not_o, not_t, ite_v, ite_o, ite_t, tup_v, tup_o, lst_v, lst_o, oOf_eq, tOf_eq, tstV_eq, vOp, evOs, evRs, evDs, vChain, rds, rd, SV.data, SV.isScr, oVar, vVar, sSl, vSl, evP, vRev, revD, List.filterMap_cons, vCallP, vCall, evAs, callA_def, apart, Arg.ix, passAs, passA, backA, reown, permL, BOp.f, BOp.st, COp.f, BF.f, isaD, typeD, isNoneD, putR, putAll, storable, asgS_name, asgS_sub, asgS_tup, asgSs_nil, asgSs_cons, itemsM, asgT, asgTs, putS, vApp, seqD, atD, L2.atI, L2.ixN]
  refine nxt_nx (tot_cons ?_)
  simp [s_is_question t d ht, rb, rb2, sizeLine, -dNe_eq, k__law_right_4, k__law_right_6, k__law_right_8, k__law_right_9, k__law_right_10, k__law_right_13, k__law_right_14, k__law_right_15, k__law_right_16, k__law_right_17, k__law_right_18, k__law_right_27, k__law_right_32, k__law_right_34, k__law_right_35, gl_0, gl_1, gl_2, S.den, E.den, Es.den, Ds.den, OE.den, Gs.den, So.den, TI'.den, TIs.den, mSeq, mRet, mRetVar, mSet, mPar, mAsg, mExpr, mIf, mNx, mFl, mStuck, andL, orL, var_v, var_o, var_t, sop_v, sop_o, sop_t, cmp_v, cmp_o, cmp_t, chain_v, chain_o, chain_t, and_v, and_o, and_t, or_v, or_o, or_t, not_v, not_o, not_t, ite_v, ite_o, ite_t, tup_v, tup_o, lst_v, lst_o, oOf_eq, tOf_eq, tstV_eq, vOp, evOs, evRs, evDs, vChain, rds, rd, SV.data, SV.isScr, oVar, vVar, sSl, vSl, evP, vRev, revD, List.filterMap_cons, vCallP, vCall, evAs, callA_def, apart, Arg.ix, passAs, passA, backA, reown, permL, BOp.f, BOp.st, COp.f, BF.f, isaD, typeD, isNoneD, putR, putAll, storable, asgS_name, asgS_sub, asgS_tup, asgSs_nil, asgSs_cons, itemsM, asgT, asgTs, putS, vApp, seqD, atD, L2.atI, L2.ixN]
  exact tot_nil (nxt_nx (tot_nil ⟨rfl, rfl⟩))
end K02
end SP16

section SP17
namespace K02
open PySem Tw
theorem up1 {d : PyData} (h : Sm N0 20 d) : Sm Big 21 d := h.mono (by have := N0_big; omega) (by omega)
theorem up2 {d : PyData} (h : Sm (N0 + 1) 21 d) : Sm Big 21 d := h.mono (by have := N0_big; omega) (by omega)
/-- x is not a list that a caller lets change -/
abbrev NI (x : Option SV) : Prop := ∀ es, x ≠ some (.io es)
theorem mg_pl {a b : Option SV} (h : Pl b) : mergeS a b = b := by
  rcases h with rfl | ⟨d, rfl⟩ <;> cases a with
  | none => rfl
  | some s => cases s <;> rfl
theorem mg_self {a : Option SV} : mergeS a a = a := by
  cases a with
  | none => rfl
  | some s => cases s <;> rfl
theorem loop_ok {P : PyData → Prop} {b : StS} {w : List PyData} {x1 x2 x3 x6 x7 : Option SV} (hb : ∀ d x5, Pl x5 → P d → tot (b [some (.io w), x1, x2, x3, some (.frz d), x5, x6, x7]) fun f e => f = .nx ∧ ∃ c, e = [some (.io w), x1, x2, x3, some (.frz d), some (.frz c), x6, x7])
    {items : List PyData} (hi : ∀ d ∈ items, P d) {x4 x5 : Option SV} (p4 : Pl x4) (p5 : Pl x5) : tot (forGo (.name 4) b items [some (.io w), x1, x2, x3, x4, x5, x6, x7]) fun f e => f = .nx ∧ ∃ x4 x5, e = [some (.io w), x1, x2, x3, x4, x5, x6, x7] ∧ Pl x4 ∧ Pl x5 := by
  refine tot_for (fun _ e => ∃ x4 x5, e = [some (.io w), x1, x2, x3, x4, x5, x6, x7] ∧ Pl x4 ∧ Pl x5) ⟨x4, x5, rfl, p4, p5⟩ ?_ ?_
  · rintro i d _ h ⟨x4, x5, rfl, p4, p5⟩
    have n4 := p4.io
    refine ⟨[some (.io w), x1, x2, x3, some (.frz d), x5, x6, x7], by simp [asgT, n4, Ss.den, S.den, E.den, Es.den, Ds.den, OE.den, Gs.den, So.den, TI'.den, TIs.den, mSeq, mRet, mRetVar, mSet, mPar, mAsg, mExpr, mIf, mNx, mFl, mStuck, andL, orL, var_v, var_o, var_t, sop_v, sop_o, sop_t, cmp_v, cmp_o, cmp_t, chain_v, chain_o, chain_t, and_v, and_o, and_t, or_v, or_o, or_t, not_v, not_o, not_t, ite_v, ite_o, ite_t, tup_v, tup_o, lst_v, lst_o, oOf_eq, tOf_eq, tstV_eq, vOp, evOs, evRs, evDs, vChain, rds, rd, SV.data, SV.isScr, oVar, vVar, sSl, vSl, evP, vRev, revD, List.filterMap_cons, vCallP, vCall, evAs, callA_def, apart, Arg.ix, passAs, passA, backA, reown, permL, BOp.f, BOp.st, COp.f, BF.f, isaD, typeD, isNoneD, putR, putAll, storable, asgS_name, asgS_sub, asgS_tup, asgSs_nil, asgSs_cons, itemsM, asgT, asgTs, putS, vApp, seqD, atD, L2.atI, L2.ixN], tot_imp (hb d x5 p5 (hi d (List.mem_of_getElem? h))) ?_⟩
    rintro _ _ ⟨rfl, c, rfl⟩
    exact ⟨_, _, rfl, .frz, .frz⟩
  · rintro _ ⟨x4, x5, rfl, p4, p5⟩
    exact ⟨rfl, x4, x5, rfl, p4, p5⟩
def LJ (i : Nat) (env : EV) : Prop := ∃ (w : List PyData) (x1 x2 x3 x4 x5 x6 x7 : Option SV), env = [some (.io w), x1, x2, x3, x4, x5, x6, x7] ∧ Well w ∧ Pl x1 ∧ Pl x2 ∧ (x3 = none ∨ ∃ ds, x3 = some (.own ds)) ∧ Pl x4 ∧ Pl x5 ∧ Pl x6 ∧ Pl x7
theorem NI.own {ds : List PyData} (es : List PyData) : some (SV.own ds) ≠ some (.io es) := by simp
set_option maxHeartbeats 4000000 in
theorem s__law_right {w : List PyData} (hw : Well w) : tot (c__law_right [.io w]) (Io [] fun d => d = .bool true) := by
  rw [e__law_right]
  refine tot_defC ?_
  unfold b__law_right
  refine tot_cons (tot_forR (n := 4) (env1 := [some (.io w), none, none, none, none, none, none, none]) (by simp [vRng1, rngOk, k__law_right_4, k__law_right_6, k__law_right_8, k__law_right_9, k__law_right_10, k__law_right_13, k__law_right_14, k__law_right_15, k__law_right_16, k__law_right_17, k__law_right_18, k__law_right_27, k__law_right_32, k__law_right_34, k__law_right_35, gl_0, gl_1, gl_2, S.den, E.den, Es.den, Ds.den, OE.den, Gs.den, So.den, TI'.den, TIs.den, mSeq, mRet, mRetVar, mSet, mPar, mAsg, mExpr, mIf, mNx, mFl, mStuck, andL, orL, var_v, var_o, var_t, sop_v, sop_o, sop_t, cmp_v, cmp_o, cmp_t, chain_v, chain_o, chain_t, and_v, and_o, and_t, or_v, or_o, or_t, not_v, not_o, not_t, ite_v, ite_o, ite_t, tup_v, tup_o, lst_v, lst_o, oOf_eq, tOf_eq, tstV_eq, vOp, evOs, evRs, evDs, vChain, rds, rd, SV.data, SV.isScr, oVar, vVar, sSl, vSl, evP, vRev, revD, List.filterMap_cons, vCallP, vCall, evAs, callA_def, apart, Arg.ix, passAs, passA, backA, reown, permL, BOp.f, BOp.st, COp.f, BF.f, isaD, typeD, isNoneD, putR, putAll, storable, asgS_name, asgS_sub, asgS_tup, asgSs_nil, asgSs_cons, itemsM, asgT, asgTs, putS, vApp, seqD, atD, L2.atI, L2.ixN]) LJ ⟨w, none, none, none, none, none, none, none, rfl, hw, .non, .non, .inl rfl, .non, .non, .non, .non⟩ ?_ ?_)
  · rintro i _ hi ⟨w, x1, x2, x3, x4, x5, x6, x7, rfl, hw, p1, p2, p3, p4, p5, p6, p7⟩
    have n1 := p1.io
    have n2 := p2.io
    have n4 := p4.io
    have n5 := p5.io
    have n6 := p6.io
    have n7 := p7.io
    have n3 : NI x3 := by rcases p3 with rfl | ⟨ds, rfl⟩ <;> exact fun es => by simp
    refine ⟨[some (.io w), some (.frz (.int i)), x2, x3, x4, x5, x6, x7], by simp [asgT, n1, Ss.den, S.den, E.den, Es.den, Ds.den, OE.den, Gs.den, So.den, TI'.den, TIs.den, mSeq, mRet, mRetVar, mSet, mPar, mAsg, mExpr, mIf, mNx, mFl, mStuck, andL, orL, var_v, var_o, var_t, sop_v, sop_o, sop_t, cmp_v, cmp_o, cmp_t, chain_v, chain_o, chain_t, and_v, and_o, and_t, or_v, or_o, or_t, not_v, not_o, not_t, ite_v, ite_o, ite_t, tup_v, tup_o, lst_v, lst_o, oOf_eq, tOf_eq, tstV_eq, vOp, evOs, evRs, evDs, vChain, rds, rd, SV.data, SV.isScr, oVar, vVar, sSl, vSl, evP, vRev, revD, List.filterMap_cons, vCallP, vCall, evAs, callA_def, apart, Arg.ix, passAs, passA, backA, reown, permL, BOp.f, BOp.st, COp.f, BF.f, isaD, typeD, isNoneD, putR, putAll, storable, asgS_name, asgS_sub, asgS_tup, asgSs_nil, asgSs_cons, itemsM, asgT, asgTs, putS, vApp, seqD, atD, L2.atI, L2.ixN], tot_cons ?_⟩
    simp [n2, k__law_right_4, k__law_right_6, k__law_right_8, k__law_right_9, k__law_right_10, k__law_right_13, k__law_right_14, k__law_right_15, k__law_right_16, k__law_right_17, k__law_right_18, k__law_right_27, k__law_right_32, k__law_right_34, k__law_right_35, gl_0, gl_1, gl_2, S.den, E.den, Es.den, Ds.den, OE.den, Gs.den, So.den, TI'.den, TIs.den, mSeq, mRet, mRetVar, mSet, mPar, mAsg, mExpr, mIf, mNx, mFl, mStuck, andL, orL, var_v, var_o, var_t, sop_v, sop_o, sop_t, cmp_v, cmp_o, cmp_t, chain_v, chain_o, chain_t, and_v, and_o, and_t, or_v, or_o, or_t, not_v, not_o, not_t, ite_v, ite_o, ite_t, tup_v, tup_o, lst_v, lst_o, oOf_eq, tOf_eq, tstV_eq, vOp, evOs, evRs, evDs, vChain, rds, rd, SV.data, SV.isScr, oVar, vVar, sSl, vSl, evP, vRev, revD, List.filterMap_cons, vCallP, vCall, evAs, callA_def, apart, Arg.ix, passAs, passA, backA, reown, permL, BOp.f, BOp.st, COp.f, BF.f, isaD, typeD, isNoneD, putR, putAll, storable, asgS_name, asgS_sub, asgS_tup, asgSs_nil, asgSs_cons, itemsM, asgT, asgTs, putS, vApp, seqD, atD, L2.atI, L2.ixN]
    refine tot_io (s__law_trial hw 10 (by omega) (by omega)) ?_
    rintro t w ht hw
    refine ⟨_, rfl, ?_⟩
    simp [n2, k__law_right_4, k__law_right_6, k__law_right_8, k__law_right_9, k__law_right_10, k__law_right_13, k__law_right_14, k__law_right_15, k__law_right_16, k__law_right_17, k__law_right_18, k__law_right_27, k__law_right_32, k__law_right_34, k__law_right_35, gl_0, gl_1, gl_2, S.den, E.den, Es.den, Ds.den, OE.den, Gs.den, So.den, TI'.den, TIs.den, mSeq, mRet, mRetVar, mSet, mPar, mAsg, mExpr, mIf, mNx, mFl, mStuck, andL, orL, var_v, var_o, var_t, sop_v, sop_o, sop_t, cmp_v, cmp_o, cmp_t, chain_v, chain_o, chain_t, and_v, and_o, and_t, or_v, or_o, or_t, not_v, not_o, not_t, ite_v, ite_o, ite_t, tup_v, tup_o, lst_v, lst_o, oOf_eq, tOf_eq, tstV_eq, vOp, evOs, evRs, evDs, vChain, rds, rd, SV.data, SV.isScr, oVar, vVar, sSl, vSl, evP, vRev, revD, List.filterMap_cons, vCallP, vCall, evAs, callA_def, apart, Arg.ix, passAs, passA, backA, reown, permL, BOp.f, BOp.st, COp.f, BF.f, isaD, typeD, isNoneD, putR, putAll, storable, asgS_name, asgS_sub, asgS_tup, asgSs_nil, asgSs_cons, itemsM, asgT, asgTs, putS, vApp, seqD, atD, L2.atI, L2.ixN]
    have tri := ht.isTri (by omega)
    have st := ht.sm (by omega)
    refine nxt_nx (tot_cons ?_)
    simp [n3, k__law_right_4, k__law_right_6, k__law_right_8, k__law_right_9, k__law_right_10, k__law_right_13, k__law_right_14, k__law_right_15, k__law_right_16, k__law_right_17, k__law_right_18, k__law_right_27, k__law_right_32, k__law_right_34, k__law_right_35, gl_0, gl_1, gl_2, S.den, E.den, Es.den, Ds.den, OE.den, Gs.den, So.den, TI'.den, TIs.den, mSeq, mRet, mRetVar, mSet, mPar, mAsg, mExpr, mIf, mNx, mFl, mStuck, andL, orL, var_v, var_o, var_t, sop_v, sop_o, sop_t, cmp_v, cmp_o, cmp_t, chain_v, chain_o, chain_t, and_v, and_o, and_t, or_v, or_o, or_t, not_v, not_o, not_t, ite_v, ite_o, ite_t, tup_v, tup_o, lst_v, lst_o, oOf_eq, tOf_eq, tstV_eq, vOp, evOs, evRs, evDs, vChain, rds, rd, SV.data, SV.isScr, oVar, vVar, sSl, vSl, evP, vRev, revD, List.filterMap_cons, vCallP, vCall, evAs, callA_def, apart, Arg.ix, passAs, passA, backA, reown, permL, BOp.f, BOp.st, COp.f, BF.f, isaD, typeD, isNoneD, putR, putAll, storable, asgS_name, asgS_sub, asgS_tup, asgSs_nil, asgSs_cons, itemsM, asgT, asgTs, putS, vApp, seqD, atD, L2.atI, L2.ixN]
    refine tot_io (s__law_bent N0_ge (by omega) (by omega) hw t st) ?_
    rintro d1 w h1 hw
    refine ⟨_, rfl, ?_⟩
    simp [n3, k__law_right_4, k__law_right_6, k__law_right_8, k__law_right_9, k__law_right_10, k__law_right_13, k__law_right_14, k__law_right_15, k__law_right_16, k__law_right_17, k__law_right_18, k__law_right_27, k__law_right_32, k__law_right_34, k__law_right_35, gl_0, gl_1, gl_2, S.den, E.den, Es.den, Ds.den, OE.den, Gs.den, So.den, TI'.den, TIs.den, mSeq, mRet, mRetVar, mSet, mPar, mAsg, mExpr, mIf, mNx, mFl, mStuck, andL, orL, var_v, var_o, var_t, sop_v, sop_o, sop_t, cmp_v, cmp_o, cmp_t, chain_v, chain_o, chain_t, and_v, and_o, and_t, or_v, or_o, or_t, not_v, not_o, not_t, ite_v, ite_o, ite_t, tup_v, tup_o, lst_v, lst_o, oOf_eq, tOf_eq, tstV_eq, vOp, evOs, evRs, evDs, vChain, rds, rd, SV.data, SV.isScr, oVar, vVar, sSl, vSl, evP, vRev, revD, List.filterMap_cons, vCallP, vCall, evAs, callA_def, apart, Arg.ix, passAs, passA, backA, reown, permL, BOp.f, BOp.st, COp.f, BF.f, isaD, typeD, isNoneD, putR, putAll, storable, asgS_name, asgS_sub, asgS_tup, asgSs_nil, asgSs_cons, itemsM, asgT, asgTs, putS, vApp, seqD, atD, L2.atI, L2.ixN]
    refine tot_io (s__law_maybe N0_ge (by omega) (by omega) hw t st) ?_
    rintro d2 w h2 hw
    refine ⟨_, rfl, ?_⟩
    simp [n3, k__law_right_4, k__law_right_6, k__law_right_8, k__law_right_9, k__law_right_10, k__law_right_13, k__law_right_14, k__law_right_15, k__law_right_16, k__law_right_17, k__law_right_18, k__law_right_27, k__law_right_32, k__law_right_34, k__law_right_35, gl_0, gl_1, gl_2, S.den, E.den, Es.den, Ds.den, OE.den, Gs.den, So.den, TI'.den, TIs.den, mSeq, mRet, mRetVar, mSet, mPar, mAsg, mExpr, mIf, mNx, mFl, mStuck, andL, orL, var_v, var_o, var_t, sop_v, sop_o, sop_t, cmp_v, cmp_o, cmp_t, chain_v, chain_o, chain_t, and_v, and_o, and_t, or_v, or_o, or_t, not_v, not_o, not_t, ite_v, ite_o, ite_t, tup_v, tup_o, lst_v, lst_o, oOf_eq, tOf_eq, tstV_eq, vOp, evOs, evRs, evDs, vChain, rds, rd, SV.data, SV.isScr, oVar, vVar, sSl, vSl, evP, vRev, revD, List.filterMap_cons, vCallP, vCall, evAs, callA_def, apart, Arg.ix, passAs, passA, backA, reown, permL, BOp.f, BOp.st, COp.f, BF.f, isaD, typeD, isNoneD, putR, putAll, storable, asgS_name, asgS_sub, asgS_tup, asgSs_nil, asgSs_cons, itemsM, asgT, asgTs, putS, vApp, seqD, atD, L2.atI, L2.ixN]
    refine tot_io (s__law_odd (N := N0) (L := 20) N0_ge (by omega) hw) ?_
    rintro d3 w h3 hw
    refine ⟨_, rfl, ?_⟩
    simp [n3, sizeLine, k__law_right_4, k__law_right_6, k__law_right_8, k__law_right_9, k__law_right_10, k__law_right_13, k__law_right_14, k__law_right_15, k__law_right_16, k__law_right_17, k__law_right_18, k__law_right_27, k__law_right_32, k__law_right_34, k__law_right_35, gl_0, gl_1, gl_2, S.den, E.den, Es.den, Ds.den, OE.den, Gs.den, So.den, TI'.den, TIs.den, mSeq, mRet, mRetVar, mSet, mPar, mAsg, mExpr, mIf, mNx, mFl, mStuck, andL, orL, var_v, var_o, var_t, sop_v, sop_o, sop_t, cmp_v, cmp_o, cmp_t, chain_v, chain_o, chain_t, and_v, and_o, and_t, or_v, or_o, or_t, not_v, not_o, not_t, ite_v, ite_o, ite_t, tup_v, tup_o, lst_v, lst_o, oOf_eq, tOf_eq, tstV_eq, vOp, evOs, evRs, evDs, vChain, rds, rd, SV.data, SV.isScr, oVar, vVar, sSl, vSl, evP, vRev, revD, List.filterMap_cons, vCallP, vCall, evAs, callA_def, apart, Arg.ix, passAs, passA, backA, reown, permL, BOp.f, BOp.st, COp.f, BF.f, isaD, typeD, isNoneD, putR, putAll, storable, asgS_name, asgS_sub, asgS_tup, asgSs_nil, asgSs_cons, itemsM, asgT, asgTs, putS, vApp, seqD, atD, L2.atI, L2.ixN]
    refine nxt_nx (tot_cons (tot_imp (Q := fun f e => f = .nx ∧ ∃ w x4 x5, e = [some (.io w), some (.frz (.int i)), some (.frz t), some (.own [t, d1, d2, d3]), x4, x5, x6, x7] ∧ Well w ∧ Pl x4 ∧ Pl x5) (tot_forT ?_) ?_))
    · simp [vSeq, srcO, k__law_right_4, k__law_right_6, k__law_right_8, k__law_right_9, k__law_right_10, k__law_right_13, k__law_right_14, k__law_right_15, k__law_right_16, k__law_right_17, k__law_right_18, k__law_right_27, k__law_right_32, k__law_right_34, k__law_right_35, gl_0, gl_1, gl_2, S.den, E.den, Es.den, Ds.den, OE.den, Gs.den, So.den, TI'.den, TIs.den, mSeq, mRet, mRetVar, mSet, mPar, mAsg, mExpr, mIf, mNx, mFl, mStuck, andL, orL, var_v, var_o, var_t, sop_v, sop_o, sop_t, cmp_v, cmp_o, cmp_t, chain_v, chain_o, chain_t, and_v, and_o, and_t, or_v, or_o, or_t, not_v, not_o, not_t, ite_v, ite_o, ite_t, tup_v, tup_o, lst_v, lst_o, oOf_eq, tOf_eq, tstV_eq, vOp, evOs, evRs, evDs, vChain, rds, rd, SV.data, SV.isScr, oVar, vVar, sSl, vSl, evP, vRev, revD, List.filterMap_cons, vCallP, vCall, evAs, callA_def, apart, Arg.ix, passAs, passA, backA, reown, permL, BOp.f, BOp.st, COp.f, BF.f, isaD, typeD, isNoneD, putR, putAll, storable, asgS_name, asgS_sub, asgS_tup, asgSs_nil, asgSs_cons, itemsM, asgT, asgTs, putS, vApp, seqD, atD, L2.atI, L2.ixN]
      refine tot_io (s__law_planted hw t ht) ?_
      rintro d4 w h4 hw
      refine ⟨_, rfl, ?_⟩
      simp [vSeq, srcO, sizeLine, lendS, k__law_right_4, k__law_right_6, k__law_right_8, k__law_right_9, k__law_right_10, k__law_right_13, k__law_right_14, k__law_right_15, k__law_right_16, k__law_right_17, k__law_right_18, k__law_right_27, k__law_right_32, k__law_right_34, k__law_right_35, gl_0, gl_1, gl_2, S.den, E.den, Es.den, Ds.den, OE.den, Gs.den, So.den, TI'.den, TIs.den, mSeq, mRet, mRetVar, mSet, mPar, mAsg, mExpr, mIf, mNx, mFl, mStuck, andL, orL, var_v, var_o, var_t, sop_v, sop_o, sop_t, cmp_v, cmp_o, cmp_t, chain_v, chain_o, chain_t, and_v, and_o, and_t, or_v, or_o, or_t, not_v, not_o, not_t, ite_v, ite_o, ite_t, tup_v, tup_o, lst_v, lst_o, oOf_eq, tOf_eq, tstV_eq, vOp, evOs, evRs, evDs, vChain, rds, rd, SV.data, SV.isScr, oVar, vVar, sSl, vSl, evP, vRev, revD, List.filterMap_cons, vCallP, vCall, evAs, callA_def, apart, Arg.ix, passAs, passA, backA, reown, permL, BOp.f, BOp.st, COp.f, BF.f, isaD, typeD, isNoneD, putR, putAll, storable, asgS_name, asgS_sub, asgS_tup, asgSs_nil, asgSs_cons, itemsM, asgT, asgTs, putS, vApp, seqD, atD, L2.atI, L2.ixN]
      refine tot_imp (loop_ok (P := Sm Big 21) (fun d x5 p5 h => tot_imp (body1_ok p5.io h) fun f e q => ⟨q.1, _, q.2⟩) ?_ p4 p5) ?_
      · intro d hd
        simp at hd
        rcases hd with rfl | rfl | rfl | rfl | rfl
        · exact up1 st
        · exact up2 h1
        · exact up2 h2
        · exact up1 h3
        · exact up1 h4
      · rintro _ _ ⟨rfl, x4', x5', rfl, p4', p5'⟩
        exact ⟨rfl, w, x4', x5', by simp [restS, mg_pl p4', mg_pl p5', mg_self], hw, p4', p5'⟩
    · rintro _ _ ⟨rfl, w, x4, x5, rfl, hw, p4, p5⟩
      have n4 := p4.io
      have n5 := p5.io
      refine nxt_nx (tot_cons ?_)
      simp [n6, n7, k__law_right_4, k__law_right_6, k__law_right_8, k__law_right_9, k__law_right_10, k__law_right_13, k__law_right_14, k__law_right_15, k__law_right_16, k__law_right_17, k__law_right_18, k__law_right_27, k__law_right_32, k__law_right_34, k__law_right_35, gl_0, gl_1, gl_2, S.den, E.den, Es.den, Ds.den, OE.den, Gs.den, So.den, TI'.den, TIs.den, mSeq, mRet, mRetVar, mSet, mPar, mAsg, mExpr, mIf, mNx, mFl, mStuck, andL, orL, var_v, var_o, var_t, sop_v, sop_o, sop_t, cmp_v, cmp_o, cmp_t, chain_v, chain_o, chain_t, and_v, and_o, and_t, or_v, or_o, or_t, not_v, not_o, not_t, ite_v, ite_o, ite_t, tup_v, tup_o, lst_v, lst_o, oOf_eq, tOf_eq, tstV_eq, vOp, evOs, evRs, evDs, vChain, rds, rd, SV.data, SV.isScr, oVar, vVar, sSl, vSl, evP, vRev, revD, List.filterMap_cons, vCallP, vCall, evAs, callA_def, apart, Arg.ix, passAs, passA, backA, reown, permL, BOp.f, BOp.st, COp.f, BF.f, isaD, typeD, isNoneD, putR, putAll, storable, asgS_name, asgS_sub, asgS_tup, asgSs_nil, asgSs_cons, itemsM, asgT, asgTs, putS, vApp, seqD, atD, L2.atI, L2.ixN]
      refine tot_io (s__law_world hw t tri) ?_
      rintro wd w hwd hw
      refine ⟨_, rfl, ?_⟩
      obtain ⟨few, rows, sp, is, et, f1, f2, r1, r2, hr, _⟩ := id ht
      obtain ⟨x, rows', er⟩ : ∃ x r, rows = x :: r := by
        cases rows with
        | nil => simp at r1
        | cons x r => exact ⟨x, r, rfl⟩
      obtain ⟨r0, ex, l0, _⟩ := hr x (by rw [er]; exact List.mem_cons_self)
      have un : unk t = (r0.length : Int) := by rw [et, er, ex]; rfl
      have d0 : dIdx [t, .int 0] = some (.frz (.tuple (.tuple r0 :: rows'))) := by rw [et, er, ex]; rfl
      have d1' : dIdx [.tuple (.tuple r0 :: rows'), .int 0] = some (.frz (.tuple r0)) := by simp [atD, L2.atI, L2.ixN]
      simp [d0, d1', -dIdx_tup, k__law_right_4, k__law_right_6, k__law_right_8, k__law_right_9, k__law_right_10, k__law_right_13, k__law_right_14, k__law_right_15, k__law_right_16, k__law_right_17, k__law_right_18, k__law_right_27, k__law_right_32, k__law_right_34, k__law_right_35, gl_0, gl_1, gl_2, S.den, E.den, Es.den, Ds.den, OE.den, Gs.den, So.den, TI'.den, TIs.den, mSeq, mRet, mRetVar, mSet, mPar, mAsg, mExpr, mIf, mNx, mFl, mStuck, andL, orL, var_v, var_o, var_t, sop_v, sop_o, sop_t, cmp_v, cmp_o, cmp_t, chain_v, chain_o, chain_t, and_v, and_o, and_t, or_v, or_o, or_t, not_v, not_o, not_t, ite_v, ite_o, ite_t, tup_v, tup_o, lst_v, lst_o, oOf_eq, tOf_eq, tstV_eq, vOp, evOs, evRs, evDs, vChain, rds, rd, SV.data, SV.isScr, oVar, vVar, sSl, vSl, evP, vRev, revD, List.filterMap_cons, vCallP, vCall, evAs, callA_def, apart, Arg.ix, passAs, passA, backA, reown, permL, BOp.f, BOp.st, COp.f, BF.f, isaD, typeD, isNoneD, putR, putAll, storable, asgS_name, asgS_sub, asgS_tup, asgSs_nil, asgSs_cons, itemsM, asgT, asgTs, putS, vApp, seqD, atD, L2.atI, L2.ixN]
      refine tot_io (s__law_numbers hw r0.length (by omega) (by omega)) ?_
      rintro _ w ⟨asked, rfl, a1, a2⟩ hw
      refine ⟨_, rfl, ?_⟩
      simp [n6, n7, k__law_right_4, k__law_right_6, k__law_right_8, k__law_right_9, k__law_right_10, k__law_right_13, k__law_right_14, k__law_right_15, k__law_right_16, k__law_right_17, k__law_right_18, k__law_right_27, k__law_right_32, k__law_right_34, k__law_right_35, gl_0, gl_1, gl_2, S.den, E.den, Es.den, Ds.den, OE.den, Gs.den, So.den, TI'.den, TIs.den, mSeq, mRet, mRetVar, mSet, mPar, mAsg, mExpr, mIf, mNx, mFl, mStuck, andL, orL, var_v, var_o, var_t, sop_v, sop_o, sop_t, cmp_v, cmp_o, cmp_t, chain_v, chain_o, chain_t, and_v, and_o, and_t, or_v, or_o, or_t, not_v, not_o, not_t, ite_v, ite_o, ite_t, tup_v, tup_o, lst_v, lst_o, oOf_eq, tOf_eq, tstV_eq, vOp, evOs, evRs, evDs, vChain, rds, rd, SV.data, SV.isScr, oVar, vVar, sSl, vSl, evP, vRev, revD, List.filterMap_cons, vCallP, vCall, evAs, callA_def, apart, Arg.ix, passAs, passA, backA, reown, permL, BOp.f, BOp.st, COp.f, BF.f, isaD, typeD, isNoneD, putR, putAll, storable, asgS_name, asgS_sub, asgS_tup, asgSs_nil, asgSs_cons, itemsM, asgT, asgTs, putS, vApp, seqD, atD, L2.atI, L2.ixN]
      refine nxt_nx (tot_cons ?_)
      simp [k__law_right_4, k__law_right_6, k__law_right_8, k__law_right_9, k__law_right_10, k__law_right_13, k__law_right_14, k__law_right_15, k__law_right_16, k__law_right_17, k__law_right_18, k__law_right_27, k__law_right_32, k__law_right_34, k__law_right_35, gl_0, gl_1, gl_2, S.den, E.den, Es.den, Ds.den, OE.den, Gs.den, So.den, TI'.den, TIs.den, mSeq, mRet, mRetVar, mSet, mPar, mAsg, mExpr, mIf, mNx, mFl, mStuck, andL, orL, var_v, var_o, var_t, sop_v, sop_o, sop_t, cmp_v, cmp_o, cmp_t, chain_v, chain_o, chain_t, and_v, and_o, and_t, or_v, or_o, or_t, not_v, not_o, not_t, ite_v, ite_o, ite_t, tup_v, tup_o, lst_v, lst_o, oOf_eq, tOf_eq, tstV_eq, vOp, evOs, evRs, evDs, vChain, rds, rd, SV.data, SV.isScr, oVar, vVar, sSl, vSl, evP, vRev, revD, List.filterMap_cons, vCallP, vCall, evAs, callA_def, apart, Arg.ix, passAs, passA, backA, reown, permL, BOp.f, BOp.st, COp.f, BF.f, isaD, typeD, isNoneD, putR, putAll, storable, asgS_name, asgS_sub, asgS_tup, asgSs_nil, asgSs_cons, itemsM, asgT, asgTs, putS, vApp, seqD, atD, L2.atI, L2.ixN]
      have sw := hwd.sm
      refine tot_io (s__law_bent N0_ge (by omega) (by omega) hw wd sw) ?_
      rintro e1 w g1 hw
      refine ⟨_, rfl, ?_⟩
      simp [k__law_right_4, k__law_right_6, k__law_right_8, k__law_right_9, k__law_right_10, k__law_right_13, k__law_right_14, k__law_right_15, k__law_right_16, k__law_right_17, k__law_right_18, k__law_right_27, k__law_right_32, k__law_right_34, k__law_right_35, gl_0, gl_1, gl_2, S.den, E.den, Es.den, Ds.den, OE.den, Gs.den, So.den, TI'.den, TIs.den, mSeq, mRet, mRetVar, mSet, mPar, mAsg, mExpr, mIf, mNx, mFl, mStuck, andL, orL, var_v, var_o, var_t, sop_v, sop_o, sop_t, cmp_v, cmp_o, cmp_t, chain_v, chain_o, chain_t, and_v, and_o, and_t, or_v, or_o, or_t, not_v, not_o, not_t, ite_v, ite_o, ite_t, tup_v, tup_o, lst_v, lst_o, oOf_eq, tOf_eq, tstV_eq, vOp, evOs, evRs, evDs, vChain, rds, rd, SV.data, SV.isScr, oVar, vVar, sSl, vSl, evP, vRev, revD, List.filterMap_cons, vCallP, vCall, evAs, callA_def, apart, Arg.ix, passAs, passA, backA, reown, permL, BOp.f, BOp.st, COp.f, BF.f, isaD, typeD, isNoneD, putR, putAll, storable, asgS_name, asgS_sub, asgS_tup, asgSs_nil, asgSs_cons, itemsM, asgT, asgTs, putS, vApp, seqD, atD, L2.atI, L2.ixN]
      refine tot_io (s__law_maybe N0_ge (by omega) (by omega) hw wd sw) ?_
      rintro e2 w g2 hw
      refine ⟨_, rfl, ?_⟩
      simp [k__law_right_4, k__law_right_6, k__law_right_8, k__law_right_9, k__law_right_10, k__law_right_13, k__law_right_14, k__law_right_15, k__law_right_16, k__law_right_17, k__law_right_18, k__law_right_27, k__law_right_32, k__law_right_34, k__law_right_35, gl_0, gl_1, gl_2, S.den, E.den, Es.den, Ds.den, OE.den, Gs.den, So.den, TI'.den, TIs.den, mSeq, mRet, mRetVar, mSet, mPar, mAsg, mExpr, mIf, mNx, mFl, mStuck, andL, orL, var_v, var_o, var_t, sop_v, sop_o, sop_t, cmp_v, cmp_o, cmp_t, chain_v, chain_o, chain_t, and_v, and_o, and_t, or_v, or_o, or_t, not_v, not_o, not_t, ite_v, ite_o, ite_t, tup_v, tup_o, lst_v, lst_o, oOf_eq, tOf_eq, tstV_eq, vOp, evOs, evRs, evDs, vChain, rds, rd, SV.data, SV.isScr, oVar, vVar, sSl, vSl, evP, vRev, revD, List.filterMap_cons, vCallP, vCall, evAs, callA_def, apart, Arg.ix, passAs, passA, backA, reown, permL, BOp.f, BOp.st, COp.f, BF.f, isaD, typeD, isNoneD, putR, putAll, storable, asgS_name, asgS_sub, asgS_tup, asgSs_nil, asgSs_cons, itemsM, asgT, asgTs, putS, vApp, seqD, atD, L2.atI, L2.ixN]
      refine tot_io (s__law_odd (N := N0) (L := 20) N0_ge (by omega) hw) ?_
      rintro e3 w g3 hw
      refine ⟨_, rfl, ?_⟩
      simp [sizeLine, k__law_right_4, k__law_right_6, k__law_right_8, k__law_right_9, k__law_right_10, k__law_right_13, k__law_right_14, k__law_right_15, k__law_right_16, k__law_right_17, k__law_right_18, k__law_right_27, k__law_right_32, k__law_right_34, k__law_right_35, gl_0, gl_1, gl_2, S.den, E.den, Es.den, Ds.den, OE.den, Gs.den, So.den, TI'.den, TIs.den, mSeq, mRet, mRetVar, mSet, mPar, mAsg, mExpr, mIf, mNx, mFl, mStuck, andL, orL, var_v, var_o, var_t, sop_v, sop_o, sop_t, cmp_v, cmp_o, cmp_t, chain_v, chain_o, chain_t, and_v, and_o, and_t, or_v, or_o, or_t, not_v, not_o, not_t, ite_v, ite_o, ite_t, tup_v, tup_o, lst_v, lst_o, oOf_eq, tOf_eq, tstV_eq, vOp, evOs, evRs, evDs, vChain, rds, rd, SV.data, SV.isScr, oVar, vVar, sSl, vSl, evP, vRev, revD, List.filterMap_cons, vCallP, vCall, evAs, callA_def, apart, Arg.ix, passAs, passA, backA, reown, permL, BOp.f, BOp.st, COp.f, BF.f, isaD, typeD, isNoneD, putR, putAll, storable, asgS_name, asgS_sub, asgS_tup, asgSs_nil, asgSs_cons, itemsM, asgT, asgTs, putS, vApp, seqD, atD, L2.atI, L2.ixN]
      refine nxt_nx (tot_cons (tot_imp (Q := fun f e => f = .nx ∧ ∃ x4 x5, e = [some (.io w), some (.frz (.int i)), some (.frz t), some (.own [wd, e1, e2, e3]), x4, x5, some (.frz wd), some (.frz (.tuple asked))] ∧ Pl x4 ∧ Pl x5) (tot_forT ?_) ?_))
      · obtain ⟨wa, wb, ew, wl1, wl2, wf1, wf2⟩ := id hwd
        have z1 : wb.length ≤ 16777215 := by omega
        simp [ew, vSeq, srcO, sizeLine, lendS, z1, k__law_right_4, k__law_right_6, k__law_right_8, k__law_right_9, k__law_right_10, k__law_right_13, k__law_right_14, k__law_right_15, k__law_right_16, k__law_right_17, k__law_right_18, k__law_right_27, k__law_right_32, k__law_right_34, k__law_right_35, gl_0, gl_1, gl_2, S.den, E.den, Es.den, Ds.den, OE.den, Gs.den, So.den, TI'.den, TIs.den, mSeq, mRet, mRetVar, mSet, mPar, mAsg, mExpr, mIf, mNx, mFl, mStuck, andL, orL, var_v, var_o, var_t, sop_v, sop_o, sop_t, cmp_v, cmp_o, cmp_t, chain_v, chain_o, chain_t, and_v, and_o, and_t, or_v, or_o, or_t, not_v, not_o, not_t, ite_v, ite_o, ite_t, tup_v, tup_o, lst_v, lst_o, oOf_eq, tOf_eq, tstV_eq, vOp, evOs, evRs, evDs, vChain, rds, rd, SV.data, SV.isScr, oVar, vVar, sSl, vSl, evP, vRev, revD, List.filterMap_cons, vCallP, vCall, evAs, callA_def, apart, Arg.ix, passAs, passA, backA, reown, permL, BOp.f, BOp.st, COp.f, BF.f, isaD, typeD, isNoneD, putR, putAll, storable, asgS_name, asgS_sub, asgS_tup, asgSs_nil, asgSs_cons, itemsM, asgT, asgTs, putS, vApp, seqD, atD, L2.atI, L2.ixN]
        refine tot_imp (loop_ok (P := Sm Big 21) (fun d x5 p5 h => tot_imp (body2_ok p5.io tri h) fun f e q => ⟨q.1, _, q.2⟩) ?_ p4 p5) ?_
        · intro d hd
          simp at hd
          rcases hd with rfl | rfl | rfl | rfl | rfl
          · exact ew ▸ up1 sw
          · exact up2 g1
          · exact up2 g2
          · exact up1 g3
          · refine ⟨by simp, ⟨by omega, SmA_of fun x hx => up1 ((wf1 x hx).sm (by omega))⟩, ⟨by simp; omega, SmA_of fun x hx => ?_⟩, trivial⟩
            rcases List.mem_append.mp hx with hx | hx
            · exact up1 ((wf2 x hx).sm (by omega))
            · rw [List.mem_singleton.mp hx]
              exact up1 ⟨by simp, sm_small (by decide), sm_small (by decide), trivial⟩
        · rintro _ _ ⟨rfl, x4', x5', rfl, p4', p5'⟩
          exact ⟨rfl, x4', x5', by simp [restS, mg_pl p4', mg_pl p5', mg_self, ew], p4', p5'⟩
      · rintro _ _ ⟨rfl, x4, x5, rfl, p4, p5⟩
        refine nxt_nx (tot_cons (tot_imp (Q := fun f e => f = .nx ∧ ∃ w x4 x5, e = [some (.io w), some (.frz (.int i)), some (.frz t), some (.own [wd, e1, e2, e3]), x4, x5, some (.frz wd), some (.frz (.tuple asked))] ∧ Well w ∧ Pl x4 ∧ Pl x5) (tot_forT ?_) ?_))
        · have sa : Sm N0 20 (.tuple asked) := ⟨by omega, SmA_of fun x hx => (a2 x hx).sm (by omega)⟩
          simp [vSeq, k__law_right_4, k__law_right_6, k__law_right_8, k__law_right_9, k__law_right_10, k__law_right_13, k__law_right_14, k__law_right_15, k__law_right_16, k__law_right_17, k__law_right_18, k__law_right_27, k__law_right_32, k__law_right_34, k__law_right_35, gl_0, gl_1, gl_2, S.den, E.den, Es.den, Ds.den, OE.den, Gs.den, So.den, TI'.den, TIs.den, mSeq, mRet, mRetVar, mSet, mPar, mAsg, mExpr, mIf, mNx, mFl, mStuck, andL, orL, var_v, var_o, var_t, sop_v, sop_o, sop_t, cmp_v, cmp_o, cmp_t, chain_v, chain_o, chain_t, and_v, and_o, and_t, or_v, or_o, or_t, not_v, not_o, not_t, ite_v, ite_o, ite_t, tup_v, tup_o, lst_v, lst_o, oOf_eq, tOf_eq, tstV_eq, vOp, evOs, evRs, evDs, vChain, rds, rd, SV.data, SV.isScr, oVar, vVar, sSl, vSl, evP, vRev, revD, List.filterMap_cons, vCallP, vCall, evAs, callA_def, apart, Arg.ix, passAs, passA, backA, reown, permL, BOp.f, BOp.st, COp.f, BF.f, isaD, typeD, isNoneD, putR, putAll, storable, asgS_name, asgS_sub, asgS_tup, asgSs_nil, asgSs_cons, itemsM, asgT, asgTs, putS, vApp, seqD, atD, L2.atI, L2.ixN]
          refine tot_io (s__law_bent N0_ge (by omega) (by omega) hw _ sa) ?_
          rintro e4 w g4 hw
          refine ⟨_, rfl, ?_⟩
          simp [vSeq, k__law_right_4, k__law_right_6, k__law_right_8, k__law_right_9, k__law_right_10, k__law_right_13, k__law_right_14, k__law_right_15, k__law_right_16, k__law_right_17, k__law_right_18, k__law_right_27, k__law_right_32, k__law_right_34, k__law_right_35, gl_0, gl_1, gl_2, S.den, E.den, Es.den, Ds.den, OE.den, Gs.den, So.den, TI'.den, TIs.den, mSeq, mRet, mRetVar, mSet, mPar, mAsg, mExpr, mIf, mNx, mFl, mStuck, andL, orL, var_v, var_o, var_t, sop_v, sop_o, sop_t, cmp_v, cmp_o, cmp_t, chain_v, chain_o, chain_t, and_v, and_o, and_t, or_v, or_o, or_t, not_v, not_o, not_t, ite_v, ite_o, ite_t, tup_v, tup_o, lst_v, lst_o, oOf_eq, tOf_eq, tstV_eq, vOp, evOs, evRs, evDs, vChain, rds, rd, SV.data, SV.isScr, oVar, vVar, sSl, vSl, evP, vRev, revD, List.filterMap_cons, vCallP, vCall, evAs, callA_def, apart, Arg.ix, passAs, passA, backA, reown, permL, BOp.f, BOp.st, COp.f, BF.f, isaD, typeD, isNoneD, putR, putAll, storable, asgS_name, asgS_sub, asgS_tup, asgSs_nil, asgSs_cons, itemsM, asgT, asgTs, putS, vApp, seqD, atD, L2.atI, L2.ixN]
          refine tot_io (s__law_maybe N0_ge (by omega) (by omega) hw _ sa) ?_
          rintro e5 w g5 hw
          refine ⟨_, rfl, ?_⟩
          simp [vSeq, k__law_right_4, k__law_right_6, k__law_right_8, k__law_right_9, k__law_right_10, k__law_right_13, k__law_right_14, k__law_right_15, k__law_right_16, k__law_right_17, k__law_right_18, k__law_right_27, k__law_right_32, k__law_right_34, k__law_right_35, gl_0, gl_1, gl_2, S.den, E.den, Es.den, Ds.den, OE.den, Gs.den, So.den, TI'.den, TIs.den, mSeq, mRet, mRetVar, mSet, mPar, mAsg, mExpr, mIf, mNx, mFl, mStuck, andL, orL, var_v, var_o, var_t, sop_v, sop_o, sop_t, cmp_v, cmp_o, cmp_t, chain_v, chain_o, chain_t, and_v, and_o, and_t, or_v, or_o, or_t, not_v, not_o, not_t, ite_v, ite_o, ite_t, tup_v, tup_o, lst_v, lst_o, oOf_eq, tOf_eq, tstV_eq, vOp, evOs, evRs, evDs, vChain, rds, rd, SV.data, SV.isScr, oVar, vVar, sSl, vSl, evP, vRev, revD, List.filterMap_cons, vCallP, vCall, evAs, callA_def, apart, Arg.ix, passAs, passA, backA, reown, permL, BOp.f, BOp.st, COp.f, BF.f, isaD, typeD, isNoneD, putR, putAll, storable, asgS_name, asgS_sub, asgS_tup, asgSs_nil, asgSs_cons, itemsM, asgT, asgTs, putS, vApp, seqD, atD, L2.atI, L2.ixN]
          refine tot_io (s__law_odd (N := N0) (L := 20) N0_ge (by omega) hw) ?_
          rintro e6 w g6 hw
          refine ⟨_, rfl, ?_⟩
          have z1 : asked.length ≤ 16777215 := by omega
          simp [vSeq, srcO, sizeLine, lendS, z1, k__law_right_4, k__law_right_6, k__law_right_8, k__law_right_9, k__law_right_10, k__law_right_13, k__law_right_14, k__law_right_15, k__law_right_16, k__law_right_17, k__law_right_18, k__law_right_27, k__law_right_32, k__law_right_34, k__law_right_35, gl_0, gl_1, gl_2, S.den, E.den, Es.den, Ds.den, OE.den, Gs.den, So.den, TI'.den, TIs.den, mSeq, mRet, mRetVar, mSet, mPar, mAsg, mExpr, mIf, mNx, mFl, mStuck, andL, orL, var_v, var_o, var_t, sop_v, sop_o, sop_t, cmp_v, cmp_o, cmp_t, chain_v, chain_o, chain_t, and_v, and_o, and_t, or_v, or_o, or_t, not_v, not_o, not_t, ite_v, ite_o, ite_t, tup_v, tup_o, lst_v, lst_o, oOf_eq, tOf_eq, tstV_eq, vOp, evOs, evRs, evDs, vChain, rds, rd, SV.data, SV.isScr, oVar, vVar, sSl, vSl, evP, vRev, revD, List.filterMap_cons, vCallP, vCall, evAs, callA_def, apart, Arg.ix, passAs, passA, backA, reown, permL, BOp.f, BOp.st, COp.f, BF.f, isaD, typeD, isNoneD, putR, putAll, storable, asgS_name, asgS_sub, asgS_tup, asgSs_nil, asgSs_cons, itemsM, asgT, asgTs, putS, vApp, seqD, atD, L2.atI, L2.ixN]
          refine tot_imp (loop_ok (P := Sm Big 21) (fun d x5 p5 h => tot_imp (body3_ok p5.io tri h (by rw [un]; exact a1)) fun f e q => ⟨q.1, _, q.2⟩) ?_ p4 p5) ?_
          · intro d hd
            simp at hd
            rcases hd with rfl | rfl | rfl | rfl | rfl
            · exact up1 sa
            · exact up2 g4
            · exact up2 g5
            · exact up1 g6
            · refine ⟨by simp; omega, SmA_of fun x hx => ?_⟩
              rcases List.mem_append.mp hx with hx | hx
              · exact up1 ((a2 x hx).sm (by omega))
              · rw [List.mem_singleton.mp hx]
                exact up1 ⟨by simp, sm_small (by decide), sm_small (by decide), trivial⟩
          · rintro _ _ ⟨rfl, x4', x5', rfl, p4', p5'⟩
            exact ⟨rfl, w, x4', x5', by simp [restS, mg_pl p4', mg_pl p5', mg_self], hw, p4', p5'⟩
        · rintro _ _ ⟨rfl, w, x4, x5, rfl, hw, p4, p5⟩
          exact nxt_nx (tot_nil ⟨w, _, _, _, _, _, _, _, rfl, hw, .frz, .frz, .inr ⟨_, rfl⟩, p4, p5, .frz, .frz⟩)
  · rintro _ ⟨w, x1, x2, x3, x4, x5, x6, x7, rfl, hw, p1, p2, p3, p4, p5, p6, p7⟩
    simp [restS, mg_pl p1, mg_pl p2, mg_pl p4, mg_pl p5, mg_pl p6, mg_pl p7]
    refine nxt_nx (tot_cons ?_)
    simp [k__law_right_4, k__law_right_6, k__law_right_8, k__law_right_9, k__law_right_10, k__law_right_13, k__law_right_14, k__law_right_15, k__law_right_16, k__law_right_17, k__law_right_18, k__law_right_27, k__law_right_32, k__law_right_34, k__law_right_35, gl_0, gl_1, gl_2, S.den, E.den, Es.den, Ds.den, OE.den, Gs.den, So.den, TI'.den, TIs.den, mSeq, mRet, mRetVar, mSet, mPar, mAsg, mExpr, mIf, mNx, mFl, mStuck, andL, orL, var_v, var_o, var_t, sop_v, sop_o, sop_t, cmp_v, cmp_o, cmp_t, chain_v, chain_o, chain_t, and_v, and_o, and_t, or_v, or_o, or_t, not_v, not_o, not_t, ite_v, ite_o, ite_t, tup_v, tup_o, lst_v, lst_o, oOf_eq, tOf_eq, tstV_eq, vOp, evOs, evRs, evDs, vChain, rds, rd, SV.data, SV.isScr, oVar, vVar, sSl, vSl, evP, vRev, revD, List.filterMap_cons, vCallP, vCall, evAs, callA_def, apart, Arg.ix, passAs, passA, backA, reown, permL, BOp.f, BOp.st, COp.f, BF.f, isaD, typeD, isNoneD, putR, putAll, storable, asgS_name, asgS_sub, asgS_tup, asgSs_nil, asgSs_cons, itemsM, asgT, asgTs, putS, vApp, seqD, atD, L2.atI, L2.ixN]
    exact ⟨_, rfl, _, w, rfl, rfl, hw, rfl⟩
end K02
end SP17

section SP18
namespace K02
open PySem Tw
theorem mOk {i : Int} {n : Nat} (h : 0 ≤ i ∧ i < 2147483489) (hn : (n : Int) < 2 ^ 40) : mulOk i n = true := by
  simp [mulOk]; left; omega
theorem fm (i : Int) : 0 ≤ i.fmod 2147483489 ∧ i.fmod 2147483489 < 2147483489 := by
  rw [Int.fmod_eq_emod_of_nonneg _ (by decide)]; omega
def wlTail : Ss := .cons (.set 2 (.bin .mod (.blt .int (.cons (.bin .add (.bin .add (.bin .mul (.var 2) (.int 47)) (.bin .mul (.bin .mod (.blt .int (.cons (.var 4) (.nil))) (.int 2147483489)) (.int 30109))) (.int 5)) (.nil))) (.int 2147483489))) (.cons (.ret (.lst (.cons false (.ite (.or (.cons (.cmp .lt (.var 4) (.int 0)) (.cons (.cmp .ge (.var 4) (.bin .pow (.int 10) (.int 14))) (.nil)))) (.blt .abs (.cons (.var 4) (.nil))) (.int 0)) (.cons false (.var 2) (.cons false (.int 0) (.nil)))))) (.nil))
theorem wl_tail {ns : List Int} {lap m j : Int} {x3 : Option SV} (g0 : 0 ≤ m) (g1 : m < 2147483489) : Nxt (wlTail.den (look A_37) γ) (EndC [.scr (ns.map .int), .frz (.int lap)] fun r p => ∃ w, r = .own w ∧ Well w ∧ p = [some (.scr (ns.map .int)), some (.frz (.int lap))]) .nx [some (.scr (ns.map .int)), some (.frz (.int lap)), some (.frz (.int m)), x3, some (.frz (.int j))] := by
  have md (i : Int) : modOk i 2147483489 = true := by simp [modOk]
  have m1 := mOk (n := 47) ⟨g0, g1⟩ (by omega)
  have m2 := mOk (n := 30109) (fm j) (by omega)
  have po : powOk 10 14 = true := by decide
  simp at m1 m2
  unfold wlTail
  refine nxt_nx (tot_cons ?_)
  simp [md, m1, m2, gl_0, gl_1, gl_2, S.den, E.den, Es.den, Ds.den, OE.den, Gs.den, So.den, TI'.den, TIs.den, mSeq, mRet, mRetVar, mSet, mPar, mAsg, mExpr, mIf, mNx, mFl, mStuck, andL, orL, var_v, var_o, var_t, sop_v, sop_o, sop_t, cmp_v, cmp_o, cmp_t, chain_v, chain_o, chain_t, and_v, and_o, and_t, or_v, or_o, or_t, not_v, not_o, not_t, ite_v, ite_o, ite_t, tup_v, tup_o, lst_v, lst_o, oOf_eq, tOf_eq, tstV_eq, vOp, evOs, evRs, evDs, vChain, rds, rd, SV.data, SV.isScr, oVar, vVar, sSl, vSl, evP, vRev, revD, List.filterMap_cons, vCallP, vCall, evAs, callA_def, apart, Arg.ix, passAs, passA, backA, reown, permL, BOp.f, BOp.st, COp.f, BF.f, isaD, typeD, isNoneD, putR, putAll, storable, asgS_name, asgS_sub, asgS_tup, asgSs_nil, asgSs_cons, itemsM, asgT, asgTs, putS, vApp, seqD, atD, L2.atI, L2.ixN]
  refine nxt_nx (tot_cons ?_)
  by_cases h1 : j < 0
  · simp [h1, sizeLine, po, gl_0, gl_1, gl_2, S.den, E.den, Es.den, Ds.den, OE.den, Gs.den, So.den, TI'.den, TIs.den, mSeq, mRet, mRetVar, mSet, mPar, mAsg, mExpr, mIf, mNx, mFl, mStuck, andL, orL, var_v, var_o, var_t, sop_v, sop_o, sop_t, cmp_v, cmp_o, cmp_t, chain_v, chain_o, chain_t, and_v, and_o, and_t, or_v, or_o, or_t, not_v, not_o, not_t, ite_v, ite_o, ite_t, tup_v, tup_o, lst_v, lst_o, oOf_eq, tOf_eq, tstV_eq, vOp, evOs, evRs, evDs, vChain, rds, rd, SV.data, SV.isScr, oVar, vVar, sSl, vSl, evP, vRev, revD, List.filterMap_cons, vCallP, vCall, evAs, callA_def, apart, Arg.ix, passAs, passA, backA, reown, permL, BOp.f, BOp.st, COp.f, BF.f, isaD, typeD, isNoneD, putR, putAll, storable, asgS_name, asgS_sub, asgS_tup, asgSs_nil, asgSs_cons, itemsM, asgT, asgTs, putS, vApp, seqD, atD, L2.atI, L2.ixN]
    exact ⟨_, _, _, rfl, by omega, (fm _).1, (fm _).2, by omega⟩
  · by_cases h2 : (100000000000000 : Int) ≤ j
    · simp [h1, h2, sizeLine, po, gl_0, gl_1, gl_2, S.den, E.den, Es.den, Ds.den, OE.den, Gs.den, So.den, TI'.den, TIs.den, mSeq, mRet, mRetVar, mSet, mPar, mAsg, mExpr, mIf, mNx, mFl, mStuck, andL, orL, var_v, var_o, var_t, sop_v, sop_o, sop_t, cmp_v, cmp_o, cmp_t, chain_v, chain_o, chain_t, and_v, and_o, and_t, or_v, or_o, or_t, not_v, not_o, not_t, ite_v, ite_o, ite_t, tup_v, tup_o, lst_v, lst_o, oOf_eq, tOf_eq, tstV_eq, vOp, evOs, evRs, evDs, vChain, rds, rd, SV.data, SV.isScr, oVar, vVar, sSl, vSl, evP, vRev, revD, List.filterMap_cons, vCallP, vCall, evAs, callA_def, apart, Arg.ix, passAs, passA, backA, reown, permL, BOp.f, BOp.st, COp.f, BF.f, isaD, typeD, isNoneD, putR, putAll, storable, asgS_name, asgS_sub, asgS_tup, asgSs_nil, asgSs_cons, itemsM, asgT, asgTs, putS, vApp, seqD, atD, L2.atI, L2.ixN]
      exact ⟨_, _, _, rfl, by omega, (fm _).1, (fm _).2, by omega⟩
    · simp [h1, h2, sizeLine, po, gl_0, gl_1, gl_2, S.den, E.den, Es.den, Ds.den, OE.den, Gs.den, So.den, TI'.den, TIs.den, mSeq, mRet, mRetVar, mSet, mPar, mAsg, mExpr, mIf, mNx, mFl, mStuck, andL, orL, var_v, var_o, var_t, sop_v, sop_o, sop_t, cmp_v, cmp_o, cmp_t, chain_v, chain_o, chain_t, and_v, and_o, and_t, or_v, or_o, or_t, not_v, not_o, not_t, ite_v, ite_o, ite_t, tup_v, tup_o, lst_v, lst_o, oOf_eq, tOf_eq, tstV_eq, vOp, evOs, evRs, evDs, vChain, rds, rd, SV.data, SV.isScr, oVar, vVar, sSl, vSl, evP, vRev, revD, List.filterMap_cons, vCallP, vCall, evAs, callA_def, apart, Arg.ix, passAs, passA, backA, reown, permL, BOp.f, BOp.st, COp.f, BF.f, isaD, typeD, isNoneD, putR, putAll, storable, asgS_name, asgS_sub, asgS_tup, asgSs_nil, asgSs_cons, itemsM, asgT, asgTs, putS, vApp, seqD, atD, L2.atI, L2.ixN]
      exact ⟨_, _, _, rfl, by omega, (fm _).1, (fm _).2, by omega⟩
theorem s__law_well (ns : List Int) (hl : ns.length ≤ 63) (lap : Int) (h0 : 0 ≤ lap) (h1 : lap < 4) : tot (c__law_well [.scr (ns.map .int), .frz (.int lap)]) fun r p => ∃ w, r = .own w ∧ Well w ∧ p = [some (.scr (ns.map .int)), some (.frz (.int lap))] := by
  rw [e__law_well]
  refine tot_defC ?_
  unfold b__law_well
  refine tot_cons ?_
  have m0 : mulOk 7919 lap = true := by simp [mulOk]
  simp [m0, gl_0, gl_1, gl_2, S.den, E.den, Es.den, Ds.den, OE.den, Gs.den, So.den, TI'.den, TIs.den, mSeq, mRet, mRetVar, mSet, mPar, mAsg, mExpr, mIf, mNx, mFl, mStuck, andL, orL, var_v, var_o, var_t, sop_v, sop_o, sop_t, cmp_v, cmp_o, cmp_t, chain_v, chain_o, chain_t, and_v, and_o, and_t, or_v, or_o, or_t, not_v, not_o, not_t, ite_v, ite_o, ite_t, tup_v, tup_o, lst_v, lst_o, oOf_eq, tOf_eq, tstV_eq, vOp, evOs, evRs, evDs, vChain, rds, rd, SV.data, SV.isScr, oVar, vVar, sSl, vSl, evP, vRev, revD, List.filterMap_cons, vCallP, vCall, evAs, callA_def, apart, Arg.ix, passAs, passA, backA, reown, permL, BOp.f, BOp.st, COp.f, BF.f, isaD, typeD, isNoneD, putR, putAll, storable, asgS_name, asgS_sub, asgS_tup, asgSs_nil, asgSs_cons, itemsM, asgT, asgTs, putS, vApp, seqD, atD, L2.atI, L2.ixN]
  refine nxt_nx (tot_cons (tot_forT ?_))
  simp [vSeq, evP, cutD, srcO, lendS, gl_0, gl_1, gl_2, S.den, E.den, Es.den, Ds.den, OE.den, Gs.den, So.den, TI'.den, TIs.den, mSeq, mRet, mRetVar, mSet, mPar, mAsg, mExpr, mIf, mNx, mFl, mStuck, andL, orL, var_v, var_o, var_t, sop_v, sop_o, sop_t, cmp_v, cmp_o, cmp_t, chain_v, chain_o, chain_t, and_v, and_o, and_t, or_v, or_o, or_t, not_v, not_o, not_t, ite_v, ite_o, ite_t, tup_v, tup_o, lst_v, lst_o, oOf_eq, tOf_eq, tstV_eq, vOp, evOs, evRs, evDs, vChain, rds, rd, SV.data, SV.isScr, oVar, vVar, sSl, vSl, evP, vRev, revD, List.filterMap_cons, vCallP, vCall, evAs, callA_def, apart, Arg.ix, passAs, passA, backA, reown, permL, BOp.f, BOp.st, COp.f, BF.f, isaD, typeD, isNoneD, putR, putAll, storable, asgS_name, asgS_sub, asgS_tup, asgSs_nil, asgSs_cons, itemsM, asgT, asgTs, putS, vApp, seqD, atD, L2.atI, L2.ixN]
  have md (i : Int) : modOk i 2147483489 = true := by simp [modOk]
  refine tot_for (fun _ e => ∃ (m : Int) (x3 : Option SV), e = [some (.scr (ns.map .int)), some (.frz (.int lap)), some (.frz (.int m)), x3, none] ∧ 0 ≤ m ∧ m < 2147483489 ∧ Pl x3) ⟨_, none, rfl, by omega, by omega, .non⟩ ?_ ?_
  · rintro i d _ hi ⟨m, x3, rfl, g0, g1, p3⟩
    have n3 := p3.io
    obtain ⟨j, _, rfl⟩ := List.mem_map.mp (cutL_mem (List.mem_of_getElem? hi))
    refine ⟨[some (.scr (ns.map .int)), some (.frz (.int lap)), some (.frz (.int m)), some (.frz (.int j)), none], by simp [asgT, n3, Ss.den, S.den, E.den, Es.den, Ds.den, OE.den, Gs.den, So.den, TI'.den, TIs.den, mSeq, mRet, mRetVar, mSet, mPar, mAsg, mExpr, mIf, mNx, mFl, mStuck, andL, orL, var_v, var_o, var_t, sop_v, sop_o, sop_t, cmp_v, cmp_o, cmp_t, chain_v, chain_o, chain_t, and_v, and_o, and_t, or_v, or_o, or_t, not_v, not_o, not_t, ite_v, ite_o, ite_t, tup_v, tup_o, lst_v, lst_o, oOf_eq, tOf_eq, tstV_eq, vOp, evOs, evRs, evDs, vChain, rds, rd, SV.data, SV.isScr, oVar, vVar, sSl, vSl, evP, vRev, revD, List.filterMap_cons, vCallP, vCall, evAs, callA_def, apart, Arg.ix, passAs, passA, backA, reown, permL, BOp.f, BOp.st, COp.f, BF.f, isaD, typeD, isNoneD, putR, putAll, storable, asgS_name, asgS_sub, asgS_tup, asgSs_nil, asgSs_cons, itemsM, asgT, asgTs, putS, vApp, seqD, atD, L2.atI, L2.ixN], tot_cons ?_⟩
    have m1 := mOk (n := 52361) ⟨g0, g1⟩ (by omega)
    have m2 := mOk (n := 7) (fm j) (by omega)
    simp at m1 m2
    simp [md, m1, m2, gl_0, gl_1, gl_2, S.den, E.den, Es.den, Ds.den, OE.den, Gs.den, So.den, TI'.den, TIs.den, mSeq, mRet, mRetVar, mSet, mPar, mAsg, mExpr, mIf, mNx, mFl, mStuck, andL, orL, var_v, var_o, var_t, sop_v, sop_o, sop_t, cmp_v, cmp_o, cmp_t, chain_v, chain_o, chain_t, and_v, and_o, and_t, or_v, or_o, or_t, not_v, not_o, not_t, ite_v, ite_o, ite_t, tup_v, tup_o, lst_v, lst_o, oOf_eq, tOf_eq, tstV_eq, vOp, evOs, evRs, evDs, vChain, rds, rd, SV.data, SV.isScr, oVar, vVar, sSl, vSl, evP, vRev, revD, List.filterMap_cons, vCallP, vCall, evAs, callA_def, apart, Arg.ix, passAs, passA, backA, reown, permL, BOp.f, BOp.st, COp.f, BF.f, isaD, typeD, isNoneD, putR, putAll, storable, asgS_name, asgS_sub, asgS_tup, asgSs_nil, asgSs_cons, itemsM, asgT, asgTs, putS, vApp, seqD, atD, L2.atI, L2.ixN]
    exact nxt_nx (tot_nil ⟨_, _, rfl, (fm _).1, (fm _).2, .frz⟩)
  · rintro _ ⟨m, x3, rfl, g0, g1, p3⟩
    simp [restS, mg_pl p3, mg_self, mergeS]
    refine nxt_nx (tot_cons ?_)
    have m1 := mOk (n := 47) ⟨g0, g1⟩ (by omega)
    simp at m1
    by_cases h : lap < (ns.length : Int)
    · obtain ⟨l, rfl⟩ := Int.eq_ofNat_of_zero_le h0
      have hl2 : l < ns.length := by omega
      simp [h, hl2, gl_0, gl_1, gl_2, S.den, E.den, Es.den, Ds.den, OE.den, Gs.den, So.den, TI'.den, TIs.den, mSeq, mRet, mRetVar, mSet, mPar, mAsg, mExpr, mIf, mNx, mFl, mStuck, andL, orL, var_v, var_o, var_t, sop_v, sop_o, sop_t, cmp_v, cmp_o, cmp_t, chain_v, chain_o, chain_t, and_v, and_o, and_t, or_v, or_o, or_t, not_v, not_o, not_t, ite_v, ite_o, ite_t, tup_v, tup_o, lst_v, lst_o, oOf_eq, tOf_eq, tstV_eq, vOp, evOs, evRs, evDs, vChain, rds, rd, SV.data, SV.isScr, oVar, vVar, sSl, vSl, evP, vRev, revD, List.filterMap_cons, vCallP, vCall, evAs, callA_def, apart, Arg.ix, passAs, passA, backA, reown, permL, BOp.f, BOp.st, COp.f, BF.f, isaD, typeD, isNoneD, putR, putAll, storable, asgS_name, asgS_sub, asgS_tup, asgSs_nil, asgSs_cons, itemsM, asgT, asgTs, putS, vApp, seqD, atD, L2.atI, L2.ixN]
      exact wl_tail g0 g1
    · simp [h, gl_0, gl_1, gl_2, S.den, E.den, Es.den, Ds.den, OE.den, Gs.den, So.den, TI'.den, TIs.den, mSeq, mRet, mRetVar, mSet, mPar, mAsg, mExpr, mIf, mNx, mFl, mStuck, andL, orL, var_v, var_o, var_t, sop_v, sop_o, sop_t, cmp_v, cmp_o, cmp_t, chain_v, chain_o, chain_t, and_v, and_o, and_t, or_v, or_o, or_t, not_v, not_o, not_t, ite_v, ite_o, ite_t, tup_v, tup_o, lst_v, lst_o, oOf_eq, tOf_eq, tstV_eq, vOp, evOs, evRs, evDs, vChain, rds, rd, SV.data, SV.isScr, oVar, vVar, sSl, vSl, evP, vRev, revD, List.filterMap_cons, vCallP, vCall, evAs, callA_def, apart, Arg.ix, passAs, passA, backA, reown, permL, BOp.f, BOp.st, COp.f, BF.f, isaD, typeD, isNoneD, putR, putAll, storable, asgS_name, asgS_sub, asgS_tup, asgSs_nil, asgSs_cons, itemsM, asgT, asgTs, putS, vApp, seqD, atD, L2.atI, L2.ixN]
      exact wl_tail g0 g1
end K02
end SP18

section SP19
namespace K02
open PySem Tw
theorem allTrue : ∀ {ds : List PyData}, (∀ d ∈ ds, d = .bool true) → ∃ bs : List Bool, boolsD ds = some bs ∧ bs.all id = true
  | [], _ => ⟨[], rfl, rfl⟩
  | d :: ds, h => by
    obtain ⟨bs, e, q⟩ := allTrue fun x hx => h x (List.mem_cons_of_mem _ hx)
    obtain rfl := h d List.mem_cons_self
    exact ⟨true :: bs, by simp [boolsD, e], by simp [q]⟩
theorem law_ok : LawOk 63 c_law := by
  intro ns hl _
  have hz : ns.length ≤ sizeLine := Nat.le_trans hl (by decide)
  have T : tot (c_law [.scr (ns.map .int)]) fun r p => r = .frz (.bool true) := by
    rw [e_law]
    refine tot_defC ?_
    unfold b_law
    refine tot_cons ?_
    simp [k_law_36, k_law_37, gl_0, gl_1, gl_2, S.den, E.den, Es.den, Ds.den, OE.den, Gs.den, So.den, TI'.den, TIs.den, mSeq, mRet, mRetVar, mSet, mPar, mAsg, mExpr, mIf, mNx, mFl, mStuck, andL, orL, var_v, var_o, var_t, sop_v, sop_o, sop_t, cmp_v, cmp_o, cmp_t, chain_v, chain_o, chain_t, and_v, and_o, and_t, or_v, or_o, or_t, not_v, not_o, not_t, ite_v, ite_o, ite_t, tup_v, tup_o, lst_v, lst_o, oOf_eq, tOf_eq, tstV_eq, vOp, evOs, evRs, evDs, vChain, rds, rd, SV.data, SV.isScr, oVar, vVar, sSl, vSl, evP, vRev, revD, List.filterMap_cons, vCallP, vCall, evAs, callA_def, apart, Arg.ix, passAs, passA, backA, reown, permL, BOp.f, BOp.st, COp.f, BF.f, isaD, typeD, isNoneD, putR, putAll, storable, asgS_name, asgS_sub, asgS_tup, asgSs_nil, asgSs_cons, itemsM, asgT, asgTs, putS, vApp, seqD, atD, L2.atI, L2.ixN]
    refine tot_bd (tot_imp (Q := fun r e => ∃ ds, r = .own ds ∧ (∀ d ∈ ds, d = .bool true) ∧ e = [some (.scr (ns.map .int)), none]) ?_ ?_)
    · have b0 : 2 ≤ max (2 : Int) (min (ns.length : Int) 4) ∧ max (2 : Int) (min (ns.length : Int) 4) ≤ 4 := by omega
      have rg : rngOk (max (2 : Int) (min (ns.length : Int) 4)) = true := by simp [rngOk]; omega
      refine vLc_tot (items := rngL 0 (max (2 : Int) (min (ns.length : Int) 4))) (ls := []) (env1 := [some (.scr (ns.map .int)), none]) ?_ ?_ ?_ ?_
      · simp [vRng1, rg, k_law_36, k_law_37, gl_0, gl_1, gl_2, S.den, E.den, Es.den, Ds.den, OE.den, Gs.den, So.den, TI'.den, TIs.den, mSeq, mRet, mRetVar, mSet, mPar, mAsg, mExpr, mIf, mNx, mFl, mStuck, andL, orL, var_v, var_o, var_t, sop_v, sop_o, sop_t, cmp_v, cmp_o, cmp_t, chain_v, chain_o, chain_t, and_v, and_o, and_t, or_v, or_o, or_t, not_v, not_o, not_t, ite_v, ite_o, ite_t, tup_v, tup_o, lst_v, lst_o, oOf_eq, tOf_eq, tstV_eq, vOp, evOs, evRs, evDs, vChain, rds, rd, SV.data, SV.isScr, oVar, vVar, sSl, vSl, evP, vRev, revD, List.filterMap_cons, vCallP, vCall, evAs, callA_def, apart, Arg.ix, passAs, passA, backA, reown, permL, BOp.f, BOp.st, COp.f, BF.f, isaD, typeD, isNoneD, putR, putAll, storable, asgS_name, asgS_sub, asgS_tup, asgSs_nil, asgSs_cons, itemsM, asgT, asgTs, putS, vApp, seqD, atD, L2.atI, L2.ixN]
      · rw [rngL_len]; unfold sizeLine; omega
      · simp [noLs]
      refine lcGo_tot (fun i acc env => env = [some (.scr (ns.map .int)), none] ∧ ∀ x ∈ acc, x = .bool true) 0 [] ⟨by simp [wipeS, lendS], fun _ h => (by cases h)⟩ ?_ ?_
      · rintro i d acc _ hi ⟨rfl, ha⟩
        obtain ⟨h1, rfl⟩ := rngL_at hi
        refine ⟨[some (.scr (ns.map .int)), some (.frz (.int i))], by simp [asgT, Ss.den, S.den, E.den, Es.den, Ds.den, OE.den, Gs.den, So.den, TI'.den, TIs.den, mSeq, mRet, mRetVar, mSet, mPar, mAsg, mExpr, mIf, mNx, mFl, mStuck, andL, orL, var_v, var_o, var_t, sop_v, sop_o, sop_t, cmp_v, cmp_o, cmp_t, chain_v, chain_o, chain_t, and_v, and_o, and_t, or_v, or_o, or_t, not_v, not_o, not_t, ite_v, ite_o, ite_t, tup_v, tup_o, lst_v, lst_o, oOf_eq, tOf_eq, tstV_eq, vOp, evOs, evRs, evDs, vChain, rds, rd, SV.data, SV.isScr, oVar, vVar, sSl, vSl, evP, vRev, revD, List.filterMap_cons, vCallP, vCall, evAs, callA_def, apart, Arg.ix, passAs, passA, backA, reown, permL, BOp.f, BOp.st, COp.f, BF.f, isaD, typeD, isNoneD, putR, putAll, storable, asgS_name, asgS_sub, asgS_tup, asgSs_nil, asgSs_cons, itemsM, asgT, asgTs, putS, vApp, seqD, atD, L2.atI, L2.ixN], ?_⟩
        simp [vCallM, k_law_36, k_law_37, gl_0, gl_1, gl_2, S.den, E.den, Es.den, Ds.den, OE.den, Gs.den, So.den, TI'.den, TIs.den, mSeq, mRet, mRetVar, mSet, mPar, mAsg, mExpr, mIf, mNx, mFl, mStuck, andL, orL, var_v, var_o, var_t, sop_v, sop_o, sop_t, cmp_v, cmp_o, cmp_t, chain_v, chain_o, chain_t, and_v, and_o, and_t, or_v, or_o, or_t, not_v, not_o, not_t, ite_v, ite_o, ite_t, tup_v, tup_o, lst_v, lst_o, oOf_eq, tOf_eq, tstV_eq, vOp, evOs, evRs, evDs, vChain, rds, rd, SV.data, SV.isScr, oVar, vVar, sSl, vSl, evP, vRev, revD, List.filterMap_cons, vCallP, vCall, evAs, callA_def, apart, Arg.ix, passAs, passA, backA, reown, permL, BOp.f, BOp.st, COp.f, BF.f, isaD, typeD, isNoneD, putR, putAll, storable, asgS_name, asgS_sub, asgS_tup, asgSs_nil, asgSs_cons, itemsM, asgT, asgTs, putS, vApp, seqD, atD, L2.atI, L2.ixN]
        refine tot_callB (s__law_well ns hl i (by omega) (by omega)) ?_
        rintro _ _ ⟨w, rfl, hw, rfl⟩
        refine ⟨_, rfl, ?_⟩
        simp
        obtain ⟨r, p, e, ⟨_, w', rfl, rfl, _, _⟩⟩ := tot_ex (s__law_right hw)
        rw [e]
        simp
        refine ⟨rfl, fun x hx => ?_⟩
        rcases hx with hx | rfl
        · exact ha x hx
        · rfl
      · rintro acc _ ⟨rfl, ha⟩
        exact ⟨acc, rfl, ha, rfl⟩
    · rintro _ _ ⟨ds, rfl, hd, rfl⟩
      obtain ⟨bs, e1, e2⟩ := allTrue hd
      simp [e1, e2, k_law_36, k_law_37, gl_0, gl_1, gl_2, S.den, E.den, Es.den, Ds.den, OE.den, Gs.den, So.den, TI'.den, TIs.den, mSeq, mRet, mRetVar, mSet, mPar, mAsg, mExpr, mIf, mNx, mFl, mStuck, andL, orL, var_v, var_o, var_t, sop_v, sop_o, sop_t, cmp_v, cmp_o, cmp_t, chain_v, chain_o, chain_t, and_v, and_o, and_t, or_v, or_o, or_t, not_v, not_o, not_t, ite_v, ite_o, ite_t, tup_v, tup_o, lst_v, lst_o, oOf_eq, tOf_eq, tstV_eq, vOp, evOs, evRs, evDs, vChain, rds, rd, SV.data, SV.isScr, oVar, vVar, sSl, vSl, evP, vRev, revD, List.filterMap_cons, vCallP, vCall, evAs, callA_def, apart, Arg.ix, passAs, passA, backA, reown, permL, BOp.f, BOp.st, COp.f, BF.f, isaD, typeD, isNoneD, putR, putAll, storable, asgS_name, asgS_sub, asgS_tup, asgSs_nil, asgSs_cons, itemsM, asgT, asgTs, putS, vApp, seqD, atD, L2.atI, L2.ixN]
  obtain ⟨r, p, e, rfl⟩ := tot_ex T
  exact ⟨p, e⟩
end K02
end SP19

section SHd
open PySem PySem.W PyProof.Rows
set_option maxHeartbeats 0 in
open_top hd for PySem.Challenge.rw_trialways_k02_whole_trials_worlds_questi
end SHd

section SLaw
open PySem PySem.W PyProof.Rows Tw
set_option maxHeartbeats 0 in
theorem k02_of (ok : LawOk 63 K02.c_law) : PySem.Challenge.rw_trialways_k02_whole_trials_worlds_questi.Holds := hd (by
  k_fill
  refine Tw.law_end (l := PySem.Challenge.rw_trialways_k02_whole_trials_worlds_questi) (n := 63) (k := K02.rs.length) (x := "script") (C := K02.c_law) rfl (by decide) rfl ⟨rfl, by decide, by decide⟩ (fun w h Y => PySem.W.kIn_of Y) ?F ok
  intro w mg fa h KX G hmg
  exact law_fn (rs := K02.rs) (cs := K02.cs) (T := K02.tb) (fns := K02.fns) KX G (by unfold He.SaysD; kernel_rfl) (by kernel_rfl) rfl (fun d h => defsOf_plain h) K02.ck K02.kwok (j := 38) rfl K02.law_at rfl hmg)
theorem k02_done : PySem.Challenge.rw_trialways_k02_whole_trials_worlds_questi.Holds := k02_of K02.law_ok
end SLaw

set_option maxRecDepth 100000 in
theorem PySem.Challenge.cw_trialways_k02_whole_trials_worlds_questi_holds : PySem.Challenge.rw_trialways_k02_whole_trials_worlds_questi.Holds := by
  exact k02_done
