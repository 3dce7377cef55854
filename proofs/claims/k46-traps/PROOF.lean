import PyProof.Rows.All
import Wide.All
import OpenK.AllK
import Wide.FinOn
import HandS.ForMost
import HandS.Exc
import HandS.ExcOwn
import HandS.CallSlots
import HandS.WordsExc
import HandS.Deep
import HandS.FStr
import HandS.IsInst
import HandS.TryOnly
import HandS.ExcField
import HandS.ExcIs
import HandS.TupAny
import HandS.Style
import HandS.More
import HandS.RaiseMore
import HandS.Small
import KE.SortData
import KE.DataMinMax
import HandS.Codes
import HandS.Walk
import HandS.SetBool
import HandS.SetKeys
import HandS.ExcInit
import HandS.ClsMeth
import KE.KExcInit
import HandS.TryMany
import PySem.Challenge.RW_pagesasseen_k46_traps
set_option Elab.async false
set_option linter.all false
set_option maxRecDepth 100000
/-! The ground of the layer: values by content (PyData), the slots of a def by content, and how they stand in the abstract heap. -/
namespace Pf
open PySem PySem.Spec L2

abbrev D := PyData
/-- an exception by content: its class, its one attribute's name, that attribute -/
structure EX where
  cls : Str
  attr : Str
  val : D
/-- what a slot holds: data that nobody changes; a list of our own that may still grow; an exception -/
inductive SV where
  | pd (d : D)
  | own (xs : List D)
  | exc (e : EX)
abbrev Sto := List (Option SV)
/-- the exception that the suite around holds: its object, its dict, its class by name -/
abbrev XP := Option (Addr × Addr × Str)
inductive Rs (α : Type) where
  | ok (a : α)
  | ex (e : EX)
  | bad
namespace Rs
def bind {α β : Type} : Rs α → (α → Rs β) → Rs β
  | ok a, f => f a
  | ex e, _ => ex e
  | bad, _ => bad
@[simp] theorem bind_ok {α β : Type} (a : α) (f : α → Rs β) : (Rs.ok a).bind f = f a := rfl
@[simp] theorem bind_ex {α β : Type} (e : EX) (f : α → Rs β) : (Rs.ex e : Rs α).bind f = .ex e := rfl
@[simp] theorem bind_bad {α β : Type} (f : α → Rs β) : (Rs.bad : Rs α).bind f = .bad := rfl
theorem bind_assoc {α β γ : Type} (m : Rs α) (f : α → Rs β) (g : β → Rs γ) : (m.bind f).bind g = m.bind fun a => (f a).bind g := by cases m <;> rfl
end Rs

/-! ### the heap without the lists that may still change -/
def msk (H : Hp) (O : List Addr) : Hp := fun b => if b ∈ O then none else H b
theorem msk_in {H : Hp} {O : List Addr} {b : Addr} (h : b ∈ O) : msk H O b = none := if_pos h
theorem msk_out {H : Hp} {O : List Addr} {b : Addr} (h : b ∉ O) : msk H O b = H b := if_neg h
theorem msk_some {H : Hp} {O : List Addr} {b : Addr} {o : HO} (h : msk H O b = some o) : b ∉ O ∧ H b = some o := by
  by_cases hb : b ∈ O
  · rw [msk_in hb] at h; cases h
  · rw [msk_out hb] at h; exact ⟨hb, h⟩
theorem msk_nil (H : Hp) : msk H [] = H := by funext b; exact msk_out (by simp)
theorem msk_sub {H : Hp} {O : List Addr} : Same (msk H O) H := fun b o h => (msk_some h).2
theorem msk_same {H H' : Hp} {O : List Addr} (s : Same H H') : Same (msk H O) (msk H' O) := fun b o h => by
  obtain ⟨h1, h2⟩ := msk_some h
  rw [msk_out h1]; exact s b o h2
/-- what is new is not among ours -/
def Thr (H : Hp) (O : List Addr) : Prop := ∀ a ∈ O, H a ≠ none
theorem Thr.same {H H' : Hp} {O : List Addr} (t : Thr H O) (s : Same H H') : Thr H' O := fun a h e => by
  cases q : H a with
  | none => exact t a h q
  | some o => rw [s a o q] at e; cases e
theorem Thr.out {H : Hp} {O : List Addr} (t : Thr H O) {p : Addr} (h : H p = none) : p ∉ O := fun z => t p z h
theorem same_new {H : Hp} {p : Addr} {o : HO} (h : H p = none) : Same H (upd H p o) := fun b u e => by
  rw [upd_ne (ne_of_none e h)]; exact e
theorem Same.seqT {K : PySem.W.Frag} {H H' : Hp} {a : Addr} {xs : List V} (e : Same H H') (h : SqT K H a xs) : SqT K H' a xs := by
  rcases h with (h | ⟨o, h⟩) | h
  · exact .inl (.inl (e a _ h))
  · exact .inl (.inr ⟨o, e a _ h⟩)
  · exact .inr h

theorem Same.rd {H H' : Hp} {a : Addr} {u : HO} (e : Same H H') (h : Rd H a u) : Rd H' a u := by
  rcases h with h | ⟨o, h⟩
  · exact .inl (e a _ h)
  · exact .inr ⟨o, e a _ h⟩
/-- a list to be read: tracked, locked, or an object of the module's own -/
def RL (K : PySem.W.Frag) (H : Hp) (a : Addr) (xs : List V) : Prop :=
  Rd H a (.lst xs) ∨ ∃ (its : Array Value) (n : Nat), K.lookup a = some { cls := .type "list", data := .seq its n } ∧ its.size ≤ sizeLine ∧ Vals xs its.toList
theorem Same.rl {K : PySem.W.Frag} {H H' : Hp} {a : Addr} {xs : List V} (e : Same H H') (h : RL K H a xs) : RL K H' a xs := h.imp (Same.rd e) id
theorem RL.sq {K : PySem.W.Frag} {H : Hp} {a : Addr} {xs : List V} (h : RL K H a xs) : SqL K H a xs := by
  rcases h with h | ⟨its, n, h1, h2, h3⟩
  · exact .inl h
  · exact .inr ⟨_, its, n, h1, rfl, rfl, rfl, h2, h3⟩
/-- the most that a text, a list, a tuple may hold here -/
abbrev LIM : Nat := 1000000
/-- plain signs -/
def asc (x : Str) : Bool := x.cps.toList.all fun c => decide (c < 128)
def keyD : Key → D
  | .inl i => .int i
  | .inr x => .str x
/-! data as it stands: what Dp says, dicts besides, with the bounds that every operation keeps -/
mutual
inductive Dn (K : PySem.W.Frag) (H : Hp) : V → D → Prop
  | non : Dn K H .non .none
  | bl (b : Bool) : Dn K H (.bl b) (.bool b)
  | int (i : Int) : Dn K H (.int i) (.int i)
  | str {x : Str} : asc x = true → x.length ≤ LIM → Dn K H (.str x) (.str x)
  | lst {a : Addr} {xs : List V} {ds : List D} : RL K H a xs → xs.length ≤ LIM → DnAll K H xs ds → Dn K H (.ref a) (.list ds)
  | tup {a : Addr} {xs : List V} {ds : List D} : SqT K H a xs → xs.length ≤ LIM → DnAll K H xs ds → Dn K H (.ref a) (.tuple ds)
  | dct {a : Addr} {kvs : List (Key × V)} {ds : List (D × D)} : H a = some (.dK kvs) → kvs.length ≤ LIM → DnKV K H kvs ds → Dn K H (.ref a) (.dict ds)
inductive DnAll (K : PySem.W.Frag) (H : Hp) : List V → List D → Prop
  | nil : DnAll K H [] []
  | cons {v : V} {vs : List V} {d : D} {ds : List D} : Dn K H v d → DnAll K H vs ds → DnAll K H (v :: vs) (d :: ds)
inductive DnKV (K : PySem.W.Frag) (H : Hp) : List (Key × V) → List (D × D) → Prop
  | nil : DnKV K H [] []
  | cons {k : Key} {v : V} {vs : List (Key × V)} {d : D} {ds : List (D × D)} : Dn K H v d → DnKV K H vs ds → DnKV K H ((k, v) :: vs) ((keyD k, d) :: ds)
end

mutual
theorem dp_mono {K : PySem.W.Frag} {H H' : Hp} (s : Same H H') : ∀ {v : V} {d : D}, Dn K H v d → Dn K H' v d
  | _, _, .non => .non
  | _, _, .bl b => .bl b
  | _, _, .int i => .int i
  | _, _, .str h l => .str h l
  | _, _, .lst h l a => .lst (Same.rl s h) l (dpAll_mono s a)
  | _, _, .tup h l a => .tup (Same.seqT s h) l (dpAll_mono s a)
  | _, _, .dct h l a => .dct (s _ _ h) l (dpKV_mono s a)
theorem dpAll_mono {K : PySem.W.Frag} {H H' : Hp} (s : Same H H') : ∀ {vs : List V} {ds : List D}, DnAll K H vs ds → DnAll K H' vs ds
  | _, _, .nil => .nil
  | _, _, .cons h t => .cons (dp_mono s h) (dpAll_mono s t)
theorem dpKV_mono {K : PySem.W.Frag} {H H' : Hp} (s : Same H H') : ∀ {vs : List (Key × V)} {ds : List (D × D)}, DnKV K H vs ds → DnKV K H' vs ds
  | _, _, .nil => .nil
  | _, _, .cons h t => .cons (dp_mono s h) (dpKV_mono s t)
end
/-! data without a dict, not too deep: what == takes -/
def plain (d : D) : Bool := !d.hasDict && decide (d.depth ≤ 64)
mutual
theorem dn_dp {K : PySem.W.Frag} {H : Hp} : ∀ {v : V} {d : D}, Dn K H v d → d.hasDict = false → Dp K H v d
  | _, _, .non, _ => .non
  | _, _, .bl b, _ => .bl b
  | _, _, .int i, _ => .int i
  | _, _, .str _ _, _ => .str _
  | _, _, .lst h _ a, e => .lst h.sq (dnAll_dp a (by simpa only [PyData.hasDict] using e))
  | _, _, .tup h _ a, e => .tup h (dnAll_dp a (by simpa only [PyData.hasDict] using e))
  | _, _, .dct _ _ _, e => by simp [PyData.hasDict] at e
theorem dnAll_dp {K : PySem.W.Frag} {H : Hp} : ∀ {vs : List V} {ds : List D}, DnAll K H vs ds → PyData.hasDictAll ds = false → DpAll K H vs ds
  | _, _, .nil, _ => .nil
  | _, _, .cons h t, e => by
    simp only [PyData.hasDictAll, Bool.or_eq_false_iff] at e
    exact .cons (dn_dp h e.1) (dnAll_dp t e.2)
end
theorem asc_ok {x : Str} (h : asc x = true) : PySem.PyData.strOk x = true := by
  unfold asc at h
  unfold PySem.PyData.strOk
  rw [← Array.all_toList]
  refine List.all_eq_true.mpr fun c hc => ?_
  have := List.all_eq_true.mp h c hc
  simp at this ⊢
  omega
mutual
theorem dn_lay {K : PySem.W.Frag} {H : Hp} : ∀ {v : V} {d : D}, Dn K H v d → d.hasDict = false → d.canLay0 = true
  | _, _, .non, _ => rfl
  | _, _, .bl b, _ => rfl
  | _, _, .int i, _ => rfl
  | _, _, .str h _, _ => by simp only [PyData.canLay0]; exact asc_ok h
  | _, _, .lst h _ a, e => by simp only [PyData.canLay0]; exact dnAll_lay a (by simpa only [PyData.hasDict] using e)
  | _, _, .tup h _ a, e => by simp only [PyData.canLay0]; exact dnAll_lay a (by simpa only [PyData.hasDict] using e)
  | _, _, .dct _ _ _, e => by simp [PyData.hasDict] at e
theorem dnAll_lay {K : PySem.W.Frag} {H : Hp} : ∀ {vs : List V} {ds : List D}, DnAll K H vs ds → PyData.hasDictAll ds = false → PyData.canLayAll0 ds = true
  | _, _, .nil, _ => rfl
  | _, _, .cons h t, e => by
    simp only [PyData.hasDictAll, Bool.or_eq_false_iff] at e
    simp only [PyData.canLayAll0, Bool.and_eq_true]
    exact ⟨dn_lay h e.1, dnAll_lay t e.2⟩
end
theorem dn_shaped {K : PySem.W.Frag} {H : Hp} {v : V} {d : D} (h : Dn K H v d) (p : plain d = true) : Dp K H v d ∧ SeqAt.shaped d = true := by
  simp only [plain, Bool.and_eq_true, Bool.not_eq_true'] at p
  exact ⟨dn_dp h p.1, by simp only [SeqAt.shaped, Bool.and_eq_true]; exact ⟨dn_lay h p.1, p.2⟩⟩

section
variable {K : PySem.W.Frag} {H : Hp}
theorem dpAll_len : ∀ {vs : List V} {ds : List D}, DnAll K H vs ds → vs.length = ds.length
  | _, _, .nil => rfl
  | _, _, .cons _ t => congrArg Nat.succ (dpAll_len t)
theorem dpAll_get : ∀ {vs : List V} {ds : List D} {i : Nat} {d : D}, DnAll K H vs ds → ds[i]? = some d → ∃ v, vs[i]? = some v ∧ Dn K H v d
  | _, _, _, _, .nil, e => by simp at e
  | _, _, 0, _, .cons h _, e => by simp at e; subst e; exact ⟨_, rfl, h⟩
  | _, _, i + 1, d, .cons _ t, e => by
    obtain ⟨v, h1, h2⟩ := dpAll_get (i := i) (d := d) t (by simpa using e)
    exact ⟨v, by simpa using h1, h2⟩
theorem dpAll_get' : ∀ {vs : List V} {ds : List D} {i : Nat} {v : V}, DnAll K H vs ds → vs[i]? = some v → ∃ d, ds[i]? = some d ∧ Dn K H v d
  | _, _, _, _, .nil, e => by simp at e
  | _, _, 0, _, .cons h _, e => by simp at e; subst e; exact ⟨_, rfl, h⟩
  | _, _, i + 1, d, .cons _ t, e => by
    obtain ⟨v, h1, h2⟩ := dpAll_get' (i := i) (v := d) t (by simpa using e)
    exact ⟨v, by simpa using h1, h2⟩
theorem dpAll_app : ∀ {vs ws : List V} {ds es : List D}, DnAll K H vs ds → DnAll K H ws es → DnAll K H (vs ++ ws) (ds ++ es)
  | _, _, _, _, .nil, s => s
  | _, _, _, _, .cons h t, s => .cons h (dpAll_app t s)
theorem dpAll_take : ∀ {vs : List V} {ds : List D} (n : Nat), DnAll K H vs ds → DnAll K H (vs.take n) (ds.take n)
  | _, _, 0, _ => .nil
  | _, _, _ + 1, .nil => .nil
  | _, _, n + 1, .cons h t => .cons h (dpAll_take n t)
theorem dpAll_drop : ∀ {vs : List V} {ds : List D} (n : Nat), DnAll K H vs ds → DnAll K H (vs.drop n) (ds.drop n)
  | _, _, 0, h => h
  | _, _, _ + 1, .nil => .nil
  | _, _, n + 1, .cons _ t => dpAll_drop n t
theorem dpAll_set {v : V} {d : D} (h : Dn K H v d) : ∀ {vs : List V} {ds : List D} (n : Nat), DnAll K H vs ds → DnAll K H (vs.set n v) (ds.set n d)
  | _, _, _, .nil => .nil
  | _, _, 0, .cons _ t => .cons h t
  | _, _, n + 1, .cons g t => .cons g (dpAll_set h n t)
theorem dpAll_rep {vs : List V} {ds : List D} (h : DnAll K H vs ds) : ∀ n : Nat, DnAll K H (List.replicate n vs).flatten (List.replicate n ds).flatten
  | 0 => .nil
  | n + 1 => by
    rw [List.replicate_succ, List.replicate_succ, List.flatten_cons, List.flatten_cons]
    exact dpAll_app h (dpAll_rep h n)
theorem dpAll_rev : ∀ {vs : List V} {ds : List D}, DnAll K H vs ds → DnAll K H vs.reverse ds.reverse
  | _, _, .nil => .nil
  | _, _, .cons a b => by rw [List.reverse_cons, List.reverse_cons]; exact dpAll_app (dpAll_rev b) (.cons a .nil)
theorem dpAll_strs : ∀ xs : List Str, (∀ x ∈ xs, asc x = true ∧ x.length ≤ LIM) → DnAll K H (xs.map V.str) (xs.map PyData.str)
  | [], _ => .nil
  | x :: xs, h => .cons (.str (h x (by simp)).1 (h x (by simp)).2) (dpAll_strs xs fun y hy => h y (List.mem_cons_of_mem _ hy))
theorem dpAll_ints : ∀ xs : List Int, DnAll K H (xs.map V.int) (xs.map PyData.int)
  | [] => .nil
  | x :: xs => .cons (.int x) (dpAll_ints xs)
end

/-! ### slots by content -/
/-- how a slot's content stands; xp: the exception that the suite around holds, its object and its dict -/
def SlotOk (K : PySem.W.Frag) (xp : XP) (H : Hp) (O : List Addr) : SV → V → Prop
  | .pd d, v => Dn K (msk H O) v d
  | .own xs, v => ∃ a vs, v = .ref a ∧ a ∈ O ∧ H a = some (.lst vs) ∧ DnAll K (msk H O) vs xs
  | .exc e, v => ∃ a dd w, xp = some (a, dd, e.cls) ∧ v = .ref a ∧ msk H O dd = some (.xd [(e.attr, w)]) ∧ Dn K (msk H O) w e.val
structure Rel (K : PySem.W.Frag) (xp : XP) (σ : St) (H : Hp) (ρ : Sto) (O : List Addr) : Prop where
  len : σ.length = ρ.length
  at_ : ∀ (i : Nat) (s : SV), ρ[i]? = some (some s) → ∃ v, σ[i]? = some (some v) ∧ SlotOk K xp H O s v
  inj : ∀ (i j : Nat) (xs ys : List D) (v : V), ρ[i]? = some (some (.own xs)) → ρ[j]? = some (some (.own ys)) → σ[i]? = some (some v) → σ[j]? = some (some v) → i = j
  thr : Thr H O
theorem SlotOk.mono {K : PySem.W.Frag} {xp : XP} {H H' : Hp} {O : List Addr} {s : SV} {v : V} (e : Same H H') (h : SlotOk K xp H O s v) : SlotOk K xp H' O s v := by
  cases s with
  | pd d => exact dp_mono (msk_same e) h
  | own xs =>
    obtain ⟨a, vs, h1, h2, h3, h4⟩ := h
    exact ⟨a, vs, h1, h2, e _ _ h3, dpAll_mono (msk_same e) h4⟩
  | exc x =>
    obtain ⟨a, dd, w, h1, h2, h3, h4⟩ := h
    exact ⟨a, dd, w, h1, h2, msk_same e _ _ h3, dp_mono (msk_same e) h4⟩
theorem Rel.mono {K : PySem.W.Frag} {xp : XP} {σ : St} {H H' : Hp} {ρ : Sto} {O : List Addr} (r : Rel K xp σ H ρ O) (e : Same H H') : Rel K xp σ H' ρ O :=
  ⟨r.len, fun i s h => let ⟨v, h1, h2⟩ := r.at_ i s h; ⟨v, h1, h2.mono e⟩, r.inj, r.thr.same e⟩
theorem get_set {α : Type} {l : List α} {i j : Nat} {x y : α} (h : (l.set i x)[j]? = some y) : (i = j ∧ y = x) ∨ (i ≠ j ∧ l[j]? = some y) := by
  by_cases e : i = j
  · subst e
    rw [List.getElem?_set_self'] at h
    cases q : l[i]? with
    | none => rw [q] at h; cases h
    | some z => rw [q] at h; exact .inl ⟨rfl, (Option.some.inj h).symm⟩
  · rw [List.getElem?_set_ne e] at h; exact .inr ⟨e, h⟩
/-- a slot takes data -/
theorem Rel.set {K : PySem.W.Frag} {xp : XP} {σ : St} {H : Hp} {ρ : Sto} {O : List Addr} (r : Rel K xp σ H ρ O) {i : Nat} {v : V} {d : D} (h : Dn K (msk H O) v d) : Rel K xp (σ.set i (some v)) H (ρ.set i (some (.pd d))) O := by
  refine ⟨by simp [r.len], fun j s q => ?_, fun j k xs ys u q1 q2 p1 p2 => ?_, r.thr⟩
  · rcases get_set q with ⟨rfl, e⟩ | ⟨ne, e⟩
    · obtain rfl := Option.some.inj e
      have hl : i < σ.length := by rw [r.len]; have := (List.getElem?_eq_some_iff.mp q).1; simpa using this
      exact ⟨v, by rw [List.getElem?_set_self hl], h⟩
    · rw [List.getElem?_set_ne ne]; exact r.at_ j s e
  · rcases get_set q1 with ⟨rfl, e⟩ | ⟨ne, e⟩
    · exact absurd (Option.some.inj e) (by intro z; cases z)
    · rcases get_set q2 with ⟨rfl, e'⟩ | ⟨ne', e'⟩
      · exact absurd (Option.some.inj e') (by intro z; cases z)
      · rw [List.getElem?_set_ne ne] at p1; rw [List.getElem?_set_ne ne'] at p2
        exact r.inj j k xs ys u e e' p1 p2
/-- a slot is emptied -/
theorem Rel.unset {K : PySem.W.Frag} {xp : XP} {σ : St} {H : Hp} {ρ : Sto} {O : List Addr} (r : Rel K xp σ H ρ O) (i : Nat) (x : Option V) : Rel K xp (σ.set i x) H (ρ.set i none) O := by
  refine ⟨by simp [r.len], fun j s q => ?_, fun j k xs ys u q1 q2 p1 p2 => ?_, r.thr⟩
  · rcases get_set q with ⟨rfl, e⟩ | ⟨ne, e⟩
    · cases e
    · rw [List.getElem?_set_ne ne]; exact r.at_ j s e
  · rcases get_set q1 with ⟨rfl, e⟩ | ⟨ne, e⟩
    · cases e
    · rcases get_set q2 with ⟨rfl, e'⟩ | ⟨ne', e'⟩
      · cases e'
      · rw [List.getElem?_set_ne ne] at p1; rw [List.getElem?_set_ne ne'] at p2
        exact r.inj j k xs ys u e e' p1 p2
theorem msk_cons_sub {H : Hp} {O : List Addr} {p : Addr} : Same (msk H (p :: O)) (msk H O) := fun b o h => by
  obtain ⟨h1, h2⟩ := msk_some h
  rw [msk_out fun z => h1 (List.mem_cons_of_mem _ z)]; exact h2
theorem msk_cons_new {H H' : Hp} {O : List Addr} {p : Addr} (hp : H p = none) (s : Same H H') : Same (msk H O) (msk H' (p :: O)) := fun b o h => by
  obtain ⟨h1, h2⟩ := msk_some h
  rw [msk_out fun z => ?_]
  · exact s b o h2
  · rcases List.mem_cons.mp z with rfl | z
    · rw [hp] at h2; cases h2
    · exact h1 z
end Pf

set_option Elab.async false
set_option linter.all false
set_option maxRecDepth 100000
/-! The readings by content, and the small steps of expressions. -/
namespace Pf
open PySem PySem.Spec L2

/-- an exception by content, as its class and its dict stand -/
def ExAt (K : PySem.W.Frag) (mg : Str → Option Value) (F : Hp) (e : EX) (cls : Value) (d : Option Addr) : Prop :=
  ∃ C dd w, cls = .ref C ∧ d = some dd ∧ mg e.cls = some (.ref C) ∧ F dd = some (.xd [(e.attr, w)]) ∧ Dn K F w e.val
theorem ExAt.mono {K : PySem.W.Frag} {mg : Str → Option Value} {F F' : Hp} {e : EX} {cls : Value} {d : Option Addr} (h : ExAt K mg F e cls d) (s : Same F F') : ExAt K mg F' e cls d := by
  obtain ⟨C, dd, w, h1, h2, h3, h4, h5⟩ := h
  exact ⟨C, dd, w, h1, h2, h3, s _ _ h4, dp_mono s h5⟩
/-- what is wanted of an outcome -/
def End (K : PySem.W.Frag) (mg : Str → Option Value) (W : WX) (O : List Addr) (σ : St) (H : Hp) {α : Type} (P : α → Hp → Prop) : Rs α → Prop
  | .ok a => ∀ H', Same H H' → P a H'
  | .ex e => ∀ H' cls d, Same H H' → ExAt K mg (msk H' O) e cls d → W cls d σ H'
  | .bad => False
section
variable {K : PySem.W.Frag} {mg : Str → Option Value} {W : WX} {O : List Addr} {σ : St} {H : Hp} {α β : Type} {P P' : α → Hp → Prop}
theorem End.grow {H1 : Hp} {r : Rs α} (h : End K mg W O σ H P r) (s : Same H H1) : End K mg W O σ H1 P r := by
  cases r with
  | ok a => exact fun H' s' => h H' (s.trans s')
  | ex e => exact fun H' c d s' => h H' c d (s.trans s')
  | bad => exact h
theorem End.imp {r : Rs α} (h : End K mg W O σ H P r) (k : ∀ a H', r = .ok a → Same H H' → P a H' → P' a H') : End K mg W O σ H P' r := by
  cases r with
  | ok a => exact fun H' s' => k a H' rfl s' (h H' s')
  | ex e => exact h
  | bad => exact h
theorem End.bind {m : Rs β} {k : β → Rs α} (h : End K mg W O σ H P (m.bind k)) : End K mg W O σ H (fun b H1 => End K mg W O σ H1 P (k b)) m := by
  cases m with
  | ok a => exact fun H' s' => End.grow h s'
  | ex e => exact h
  | bad => exact h
theorem End.ok {a : α} (h : End K mg W O σ H P (.ok a)) : P a H := h H (Same.refl H)
end
def rdE (K : PySem.W.Frag) (mg : Str → Option Value) (xp : XP) (W : WX) (f : Sto → Rs D) : TE := fun σ H Q => ∃ ρ O, Rel K xp σ H ρ O ∧ End K mg W O σ H (fun d H' => ∀ v, Dn K (msk H' O) v d → Q v H') (f ρ)
/-- the value may lean on lists that are still ours -/
def rdL (K : PySem.W.Frag) (mg : Str → Option Value) (xp : XP) (W : WX) (f : Sto → Rs D) : TE := fun σ H Q => ∃ ρ O, Rel K xp σ H ρ O ∧ End K mg W O σ H (fun d H' => ∀ v, Dn K H' v d → Q v H') (f ρ)
/-- a list that was made for this -/
def rdF (K : PySem.W.Frag) (mg : Str → Option Value) (xp : XP) (W : WX) (f : Sto → Rs (List D)) : TE := fun σ H Q => ∃ ρ O, Rel K xp σ H ρ O ∧
  End K mg W O σ H (fun ds H' => ∀ p vs, H p = none → H' p = some (.lst vs) → vs.length ≤ LIM → DnAll K (msk H' (p :: O)) vs ds → Q (.ref p) H') (f ρ)
def rdT (K : PySem.W.Frag) (mg : Str → Option Value) (xp : XP) (W : WX) (f : Sto → Rs Bool) : TT := fun σ H Q => ∃ ρ O, Rel K xp σ H ρ O ∧ End K mg W O σ H (fun b H' => Q b H') (f ρ)
def rdA (K : PySem.W.Frag) (mg : Str → Option Value) (xp : XP) (W : WX) (f : Sto → Rs (List D)) : TA := fun σ H Q => ∃ ρ O, Rel K xp σ H ρ O ∧ End K mg W O σ H (fun ds H' => ∀ vs, DnAll K (msk H' O) vs ds → Q vs H') (f ρ)
abbrev CE (X : Cx) (xp : XP) (W : WX) (e : Expr) (f : Sto → Rs D) : Prop := PE X e (rdE X.K X.mg xp W f)
abbrev CL (X : Cx) (xp : XP) (W : WX) (e : Expr) (f : Sto → Rs D) : Prop := PE X e (rdL X.K X.mg xp W f)
abbrev CF (X : Cx) (xp : XP) (W : WX) (e : Expr) (f : Sto → Rs (List D)) : Prop := PE X e (rdF X.K X.mg xp W f)
abbrev CT (X : Cx) (xp : XP) (W : WX) (e : Expr) (f : Sto → Rs Bool) : Prop := PT X e (rdT X.K X.mg xp W f)
abbrev CA (X : Cx) (xp : XP) (W : WX) (es : List Expr) (f : Sto → Rs (List D)) : Prop := L2.PA X es (rdA X.K X.mg xp W f)

section
variable {X : Cx} {xp : XP} {W : WX} {e : Expr}
theorem pe_imp {t t' : TE} (h : PE X e t) (k : ∀ σ H Q, t' σ H Q → t σ H Q) : PE X e t' := ⟨fun pins s σ H Q I q => h.run pins s σ H Q I (k σ H Q q)⟩
theorem pt_imp {t t' : TT} (h : PT X e t) (k : ∀ σ H Q, t' σ H Q → t σ H Q) : PT X e t' := ⟨fun pins s σ H Q I q => h.run pins s σ H Q I (k σ H Q q)⟩
theorem pw_imp {t t' : TT} (h : PW X e t) (k : ∀ σ H Q, t' σ H Q → t σ H Q) : PW X e t' := ⟨fun wh pins s σ H Q I q => h.run wh pins s σ H Q I (k σ H Q q)⟩
theorem pa_imp {es : List Expr} {t t' : TA} (h : L2.PA X es t) (k : ∀ σ H Q, t' σ H Q → t σ H Q) : L2.PA X es t' := ⟨fun pos pins s σ H Q I q => h.run pos pins s σ H Q I (k σ H Q q)⟩
theorem CE.lax {f : Sto → Rs D} (h : CE X xp W e f) : CL X xp W e f := pe_imp h fun σ H Q ⟨ρ, O, R, q⟩ => ⟨ρ, O, R, q.imp fun d H' _ s k v hv => k v (dp_mono msk_sub hv)⟩
theorem rd_fresh {K : PySem.W.Frag} {H H' : Hp} {O : List Addr} {p : Addr} {vs : List V} {ds : List D} (t : Thr H O) (hp : H p = none) (h : H' p = some (.lst vs)) (hl : vs.length ≤ LIM) (a : DnAll K (msk H' (p :: O)) vs ds) : Dn K (msk H' O) (.ref p) (.list ds) :=
  .lst (.inl (.inl (by rw [msk_out (t.out hp)]; exact h))) hl (dpAll_mono msk_cons_sub a)
theorem CF.ce {f : Sto → Rs (List D)} (h : CF X xp W e f) : CE X xp W e (fun ρ => (f ρ).bind fun ds => .ok (.list ds)) := pe_imp h fun σ H Q ⟨ρ, O, R, q⟩ => ⟨ρ, O, R, (End.bind q).imp fun ds H' _ s k p vs hp h1 hl h2 => k.ok _ (rd_fresh R.thr hp h1 hl h2)⟩

/-! ### names, constants -/
def getP (ρ : Sto) (i : Nat) : Rs D := match ρ[i]? with
  | some (some (.pd d)) => .ok d
  | _ => .bad
/-- .. a list of ours, only looked at -/
def getO (ρ : Sto) (i : Nat) : Rs D := match ρ[i]? with
  | some (some (.own xs)) => if xs.length ≤ LIM then .ok (.list xs) else .bad
  | _ => .bad
theorem ce_var {i : Nat} {x : Str} {pos : Pos} (hN : X.N[i]? = some x) (hv : Vis X.env.scope x) (hd : (x == ("__debug__" : Str)) = false) (hcd : (x == ("__classdict__" : Str)) = false) : CE X xp W (.Name x pos) (fun ρ => getP ρ i) :=
  pe_imp (pe_var hN hv hd hcd) fun σ H Q ⟨ρ, O, R, q⟩ => by
    have q : End X.K X.mg W O σ H (fun d H' => ∀ (v : V), Dn X.K (msk H' O) v d → Q v H') (getP ρ i) := q
    unfold getP at q
    split at q
    · rename_i d e
      obtain ⟨v, h1, h2⟩ := R.at_ i _ e
      exact ⟨v, h1, q.ok v h2⟩
    · exact q.elim
theorem cl_var {i : Nat} {x : Str} {pos : Pos} (hN : X.N[i]? = some x) (hv : Vis X.env.scope x) (hd : (x == ("__debug__" : Str)) = false) (hcd : (x == ("__classdict__" : Str)) = false) : CL X xp W (.Name x pos) (fun ρ => getO ρ i) :=
  pe_imp (pe_var hN hv hd hcd) fun σ H Q ⟨ρ, O, R, q⟩ => by
    have q : End X.K X.mg W O σ H (fun d H' => ∀ (v : V), Dn X.K H' v d → Q v H') (getO ρ i) := q
    unfold getO at q
    split at q
    · rename_i xs e
      obtain ⟨v, h1, a, vs, rfl, h3, h4, h5⟩ := R.at_ i _ e
      by_cases hl : xs.length ≤ LIM
      · rw [if_pos hl] at q
        exact ⟨_, h1, q.ok _ (.lst (.inl (.inl h4)) (by rw [dpAll_len h5]; exact hl) (dpAll_mono msk_sub h5))⟩
      · rw [if_neg hl] at q
        exact q.elim
    · exact q.elim
theorem ce_const {v : V} {d : D} (h : PE X e (tC v)) (hd : ∀ F, Dn X.K F v d) : CE X xp W e (fun _ => .ok d) := pe_imp h fun σ H Q ⟨ρ, O, R, q⟩ => q.ok v (hd _)
theorem ce_int {i j pos} : CE X xp W (.Constant (.int i) j pos) (fun _ => .ok (.int i)) := ce_const pe_int fun _ => .int i
theorem ce_bl {i j pos} : CE X xp W (.Constant (.bool i) j pos) (fun _ => .ok (.bool i)) := ce_const pe_bl fun _ => .bl i
theorem ce_non {j pos} : CE X xp W (.Constant .none j pos) (fun _ => .ok .none) := ce_const pe_non fun _ => .non
theorem ce_str {x j pos} (h : asc x = true) (hl : x.length ≤ LIM) : CE X xp W (.Constant (.str x) j pos) (fun _ => .ok (.str x)) := ce_const pe_str fun _ => .str h hl

/-! ### operations on values -/
/-- the reading r of a two-place operation serves g -/
def Okk (r : Rs D) (P : D → Prop) : Prop := match r with
  | .ok d => P d
  | _ => False
theorem Okk.imp {r : Rs D} {P P' : D → Prop} (h : Okk r P) (k : ∀ d, P d → P' d) : Okk r P' := by
  cases r with
  | ok d => exact k d h
  | ex e => exact h
  | bad => exact h
def Im2 (K : PySem.W.Frag) (r : R2) (g : D → D → Rs D) : Prop := ∀ (H : Hp) (O : List Addr) (x y : V) (dx dy : D) (Q : VK), Thr H O → Dn K (msk H O) x dx → Dn K (msk H O) y dy →
  Okk (g dx dy) (fun d => ∀ v H', Same H H' → Dn K (msk H' O) v d → Q v H') → r x y H Q
/-- .. whose answer is flat, the operands only looked at -/
def Im2L (K : PySem.W.Frag) (r : R2) (g : D → D → Rs D) : Prop := ∀ (H : Hp) (x y : V) (dx dy : D) (Q : VK), Dn K H x dx → Dn K H y dy →
  Okk (g dx dy) (fun d => ∀ v H', Same H H' → (∀ F, Dn K F v d) → Q v H') → r x y H Q
def Im1L (K : PySem.W.Frag) (r : V → Hp → VK → Prop) (g : D → Rs D) : Prop := ∀ (H : Hp) (x : V) (dx : D) (Q : VK), Dn K H x dx →
  Okk (g dx) (fun d => ∀ v H', Same H H' → (∀ F, Dn K F v d) → Q v H') → r x H Q
/-- a pure operation: never an exception -/
def pur (r : Rs D) : Rs D := match r with
  | .ok d => .ok d
  | _ => .bad
theorem end_pur {K : PySem.W.Frag} {mg : Str → Option Value} {O : List Addr} {σ : St} {H : Hp} {P : D → Hp → Prop} {r : Rs D} (h : End K mg W O σ H P (pur r)) : Okk r fun d => ∀ H', Same H H' → P d H' := by
  cases r with
  | ok d => exact h
  | ex e => exact h.elim
  | bad => exact h.elim
section
variable {a b : Expr} {fa fb : Sto → Rs D}
theorem rd2 {K : PySem.W.Frag} {mg : Str → Option Value} {r : R2} {g : D → D → Rs D} (hr : Im2 K r g) {σ : St} {H : Hp} {Q : VK} (h : rdE K mg xp W (fun ρ => (fa ρ).bind fun x => (fb ρ).bind fun y => pur (g x y)) σ H Q) : tOp r (rdE K mg xp W fa) (rdE K mg xp W fb) σ H Q := by
  obtain ⟨ρ, O, R, q⟩ := h
  refine ⟨ρ, O, R, q.bind.imp fun dx H1 _ s1 q1 vx hx => ⟨ρ, O, R.mono s1, q1.bind.imp fun dy H2 _ s2 q2 vy hy => ?_⟩⟩
  have q3 := end_pur q2
  exact hr H2 O vx vy dx dy Q ((R.mono s1).thr.same s2) (dp_mono (msk_same s2) hx) hy (q3.imp fun d k v H' s h => k H' s v h)
theorem rd2L {K : PySem.W.Frag} {mg : Str → Option Value} {r : R2} {g : D → D → Rs D} (hr : Im2L K r g) {σ : St} {H : Hp} {Q : VK} (h : rdE K mg xp W (fun ρ => (fa ρ).bind fun x => (fb ρ).bind fun y => pur (g x y)) σ H Q) : tOp r (rdL K mg xp W fa) (rdL K mg xp W fb) σ H Q := by
  obtain ⟨ρ, O, R, q⟩ := h
  refine ⟨ρ, O, R, q.bind.imp fun dx H1 _ s1 q1 vx hx => ⟨ρ, O, R.mono s1, q1.bind.imp fun dy H2 _ s2 q2 vy hy => ?_⟩⟩
  have q3 := end_pur q2
  exact hr H2 vx vy dx dy Q (dp_mono s2 hx) hy (q3.imp fun d k v H' s h => k H' s v (h _))
theorem ce_bin {op : Operator} {r : R2} {g : D → D → Rs D} {pos : Pos} (ho : OpR X (binaryOp op) r) (hr : Im2 X.K r g) (ha : CE X xp W a fa) (hb : CE X xp W b fb) : CE X xp W (.BinOp a op b pos) (fun ρ => (fa ρ).bind fun x => (fb ρ).bind fun y => pur (g x y)) :=
  pe_imp (pe_op ho ha hb) fun _ _ _ h => rd2 hr h
theorem ce_cmp {op : CmpOp} {r : R2} {g : D → D → Rs D} {pos : Pos} (ho : OpR X (compareOp op) r) (hr : Im2L X.K r g) (ha : CL X xp W a fa) (hb : CL X xp W b fb) (hm : behindInMarks op b = false) : CE X xp W (.Compare a [op] [b] pos) (fun ρ => (fa ρ).bind fun x => (fb ρ).bind fun y => pur (g x y)) :=
  pe_imp (pe_cmpR ho ha hb hm) fun _ _ _ h => rd2L hr h
/-- the answer of a test -/
def asB : D → Rs Bool
  | .bool b => .ok b
  | _ => .bad
theorem Dn.isB {K : PySem.W.Frag} {H : Hp} {v : V} {k : Bool} (h : Dn K H v (.bool k)) : v = .bl k := by cases h; rfl
theorem ct_cmp {op : CmpOp} {r : R2} {g : D → D → Rs D} {pos : Pos} (ho : OpR X (compareOp op) r) (hr : Im2L X.K r g) (ha : CL X xp W a fa) (hb : CL X xp W b fb) (hm : behindInMarks op b = false) : CT X xp W (.Compare a [op] [b] pos) (fun ρ => ((fa ρ).bind fun x => (fb ρ).bind fun y => pur (g x y)).bind asB) :=
  pt_imp (pt_cmpR ho ha hb hm) fun σ H Q ⟨ρ, O, R, q⟩ => rd2L hr ⟨ρ, O, R, q.bind.imp fun d H' _ s k v hv => by
    cases d with
    | bool b => exact ⟨b, hv.isB, k.ok⟩
    | _ => exact k.elim⟩
/-- a value as a test -/
theorem ct_val {f : Sto → Rs D} (h : CE X xp W e f) (he : ∀ whole, isTrue e X.env whole = (do let v ← whole; standAt e.pos; holding [v] (truthy v))) : CT X xp W e (fun ρ => (f ρ).bind asB) :=
  pt_imp (pt_val h he) fun σ H Q ⟨ρ, O, R, q⟩ => ⟨ρ, O, R, q.bind.imp fun d H' _ s k v hv => by
    cases d with
    | bool b => exact ⟨b, hv.isB, k.ok⟩
    | _ => exact k.elim⟩
end
/-! ### and, or, not, if else -/
section
variable {a b : Expr} {rest : List Expr} {pos : Pos} {ta tb : Sto → Rs Bool} {fa fb : Sto → Rs D}
theorem ct_not (h : CT X xp W a ta) : CT X xp W (.UnaryOp .Not a pos) (fun ρ => (ta ρ).bind fun b => .ok (!b)) :=
  pt_imp (pt_not h) fun σ H Q ⟨ρ, O, R, q⟩ => ⟨ρ, O, R, q.bind.imp fun b H' _ s k => k.ok⟩
abbrev CW (X : Cx) (xp : XP) (W : WX) (e : Expr) (f : Sto → Rs Bool) : Prop := PW X e (rdT X.K X.mg xp W f)
theorem cw_and1 (h : CT X xp W a ta) : CW X xp W (.BoolOp .And [a] pos) ta := pw_and1 h
theorem cw_or1 (h : CT X xp W a ta) : CW X xp W (.BoolOp .Or [a] pos) ta := pw_or1 h
theorem cw_and (h : CT X xp W a ta) (h2 : CW X xp W (.BoolOp .And (b :: rest) pos) tb) : CW X xp W (.BoolOp .And (a :: b :: rest) pos) (fun ρ => (ta ρ).bind fun k => if k = true then tb ρ else .ok false) :=
  pw_imp (pw_and h h2) fun σ H Q ⟨ρ, O, R, q⟩ => ⟨ρ, O, R, q.bind.imp fun c H' _ s k => by
    cases c with
    | true => exact ⟨ρ, O, R.mono s, k⟩
    | false => exact k.ok⟩
theorem cw_or (h : CT X xp W a ta) (h2 : CW X xp W (.BoolOp .Or (b :: rest) pos) tb) : CW X xp W (.BoolOp .Or (a :: b :: rest) pos) (fun ρ => (ta ρ).bind fun k => if k = true then .ok true else tb ρ) :=
  pw_imp (pw_or h h2) fun σ H Q ⟨ρ, O, R, q⟩ => ⟨ρ, O, R, q.bind.imp fun c H' _ s k => by
    cases c with
    | true => exact k.ok
    | false => exact ⟨ρ, O, R.mono s, k⟩⟩
theorem ct_of_cw (h : CW X xp W e ta) : CT X xp W e ta := PW.pt h
/-- as values -/
theorem End.bindB {K : PySem.W.Frag} {mg : Str → Option Value} {O : List Addr} {σ : St} {H : Hp} {α : Type} {P : α → Hp → Prop} {m : Rs D} {k : Bool → Rs α} (h : End K mg W O σ H P ((m.bind asB).bind k)) : End K mg W O σ H (fun d H1 => ∃ b, d = .bool b ∧ End K mg W O σ H1 P (k b)) m := by
  rw [Rs.bind_assoc] at h
  exact h.bind.imp fun d H' _ s q => by
    cases d with
    | bool b => exact ⟨b, rfl, q⟩
    | _ => exact q.elim
theorem ce_not (h : CE X xp W a fa) : CE X xp W (.UnaryOp .Not a pos) (fun ρ => ((fa ρ).bind asB).bind fun b => .ok (.bool (!b))) :=
  pe_imp (pe_not h) fun σ H Q ⟨ρ, O, R, q⟩ => ⟨ρ, O, R, (End.bindB q).imp fun d H' _ s ⟨b, e, k⟩ v hv => by
    subst e
    exact ⟨b, hv.isB, k.ok _ (.bl _)⟩⟩
theorem ce_one {op} (h : CE X xp W a fa) : CE X xp W (.BoolOp op [a] pos) fa := pe_one h
theorem ce_and (h : CE X xp W a fa) (h2 : CE X xp W (.BoolOp .And (b :: rest) pos) fb) : CE X xp W (.BoolOp .And (a :: b :: rest) pos) (fun ρ => ((fa ρ).bind asB).bind fun k => if k = true then fb ρ else .ok (.bool false)) :=
  pe_imp (pe_and h h2) fun σ H Q ⟨ρ, O, R, q⟩ => ⟨ρ, O, R, (End.bindB q).imp fun d H' _ s ⟨b, e, k⟩ v hv => by
    subst e
    refine ⟨b, hv.isB, ?_⟩
    cases b with
    | true => exact ⟨ρ, O, R.mono s, k⟩
    | false => exact k.ok _ (.bl _)⟩
theorem ce_or (h : CE X xp W a fa) (h2 : CE X xp W (.BoolOp .Or (b :: rest) pos) fb) : CE X xp W (.BoolOp .Or (a :: b :: rest) pos) (fun ρ => ((fa ρ).bind asB).bind fun k => if k = true then .ok (.bool true) else fb ρ) :=
  pe_imp (pe_or h h2) fun σ H Q ⟨ρ, O, R, q⟩ => ⟨ρ, O, R, (End.bindB q).imp fun d H' _ s ⟨b, e, k⟩ v hv => by
    subst e
    refine ⟨b, hv.isB, ?_⟩
    cases b with
    | true => exact k.ok _ (.bl _)
    | false => exact ⟨ρ, O, R.mono s, k⟩⟩
theorem ce_if {c : Expr} (hc : CT X xp W c ta) (h : CE X xp W a fa) (h2 : CE X xp W b fb) : CE X xp W (.IfExp c a b pos) (fun ρ => (ta ρ).bind fun k => if k = true then fa ρ else fb ρ) :=
  pe_imp (pe_ifExp hc h h2) fun σ H Q ⟨ρ, O, R, q⟩ => ⟨ρ, O, R, q.bind.imp fun b H' _ s k => by
    cases b with
    | true => exact ⟨ρ, O, R.mono s, k⟩
    | false => exact ⟨ρ, O, R.mono s, k⟩⟩
end
/-! ### arguments, displays -/
section
variable {es : List Expr} {pos : Pos} {fa : Sto → Rs D} {fs : Sto → Rs (List D)}
theorem ca_nil : CA X xp W [] (fun _ => .ok []) := pa_imp pa_nil fun σ H Q ⟨ρ, O, R, q⟩ => q.ok [] .nil
theorem ca_cons (h : CE X xp W e fa) (h2 : CA X xp W es fs) (hs : starEach (e :: es) X.env = (false, eval e X.env) :: starEach es X.env) : CA X xp W (e :: es) (fun ρ => (fa ρ).bind fun x => (fs ρ).bind fun xs => .ok (x :: xs)) :=
  pa_imp (pa_cons h h2 hs) fun σ H Q ⟨ρ, O, R, q⟩ => ⟨ρ, O, R, q.bind.imp fun d H' _ s k v hv => ⟨ρ, O, R.mono s, k.bind.imp fun ds H2 _ s2 k2 vs hvs => k2.ok _ (.cons (dp_mono (msk_same s2) hv) hvs)⟩⟩
theorem lim_line : LIM ≤ sizeLine := by decide
theorem ce_tup {k : Nat} (h : CA X xp W es fs) : CE X xp W (.Tuple es k pos) (fun ρ => (fs ρ).bind fun xs => if xs.length ≤ LIM then .ok (.tuple xs) else .bad) :=
  pe_imp (pe_tup h) fun σ H Q ⟨ρ, O, R, q⟩ => ⟨ρ, O, R, q.bind.imp fun ds H' _ s k vs hv => by
    by_cases hl : ds.length ≤ LIM
    · rw [if_pos hl] at k
      have hl' : vs.length ≤ LIM := by rw [dpAll_len hv]; exact hl
      refine ⟨Nat.le_trans hl' lim_line, fun p hp => k _ (same_new hp) _ (.tup (.inl (.inl ?_)) hl' (dpAll_mono (msk_same (same_new hp)) hv))⟩
      rw [msk_out ((R.thr.same s).out hp)]; exact upd_same
    · rw [if_neg hl] at k; exact k.elim⟩
theorem cf_lst (h : CA X xp W es fs) : CF X xp W (.List es pos) (fun ρ => (fs ρ).bind fun xs => if xs.length ≤ LIM then .ok xs else .bad) :=
  pe_imp (pe_lst h) fun σ H Q ⟨ρ, O, R, q⟩ => ⟨ρ, O, R, q.bind.imp fun ds H' _ s k vs hv => by
    by_cases hl : ds.length ≤ LIM
    · rw [if_pos hl] at k
      have hl' : vs.length ≤ LIM := by rw [dpAll_len hv]; exact hl
      refine ⟨Nat.le_trans hl' lim_line, fun p hp => k _ (same_new hp) p vs (s.free hp) upd_same hl' (dpAll_mono (msk_cons_new hp (same_new hp)) hv)⟩
    · rw [if_neg hl] at k; exact k.elim⟩
end
end
end Pf

set_option Elab.async false
set_option linter.all false
set_option maxRecDepth 100000
/-! Operations on values: what each computes by content, and that the machine does so. -/
namespace Pf
open PySem PySem.Spec L2

/-! ### texts -/
abbrev cl (x : Str) : List Nat := x.cps.toList
abbrev mk (l : List Nat) : Str := ⟨l.toArray⟩
theorem cl_mk (l : List Nat) : cl (mk l) = l := rfl
theorem mk_cl (x : Str) : mk (cl x) = x := TL.mk_tl x
theorem len_cl (x : Str) : x.length = (cl x).length := TL.len_tl x
theorem cl_app (x y : Str) : cl (x ++ y) = cl x ++ cl y := TL.tl_append x y
theorem cl_inj {x y : Str} (h : cl x = cl y) : x = y := TL.ext_tl h
theorem asc_iff {x : Str} : asc x = true ↔ ∀ c ∈ cl x, c < 128 := by
  unfold asc
  rw [List.all_eq_true]
  exact ⟨fun h c hc => of_decide_eq_true (h c hc), fun h c hc => decide_eq_true (h c hc)⟩
theorem asc_app {x y : Str} (hx : asc x = true) (hy : asc y = true) : asc (x ++ y) = true := by
  rw [asc_iff] at *
  intro c hc
  rw [cl_app, List.mem_append] at hc
  exact hc.elim (hx c) (hy c)
theorem asc_sub {x : Str} {l : List Nat} (hx : asc x = true) (h : ∀ c ∈ l, c ∈ cl x) : asc (mk l) = true := by
  rw [asc_iff] at *
  exact fun c hc => hx c (h c hc)
theorem len_app (x y : Str) : (x ++ y).length = x.length + y.length := by rw [len_cl, cl_app, List.length_append, ← len_cl, ← len_cl]
/-- the items of xs[lo:hi] -/
def cut {α : Type} (xs : List α) (lo hi : Option Int) : List α := (xs.drop (HT.sIx xs.length 0 lo)).take (HT.sIx xs.length xs.length hi - HT.sIx xs.length 0 lo)
theorem cut_mem {α : Type} {xs : List α} {lo hi : Option Int} {c : α} (h : c ∈ cut xs lo hi) : c ∈ xs := List.mem_of_mem_drop (List.mem_of_mem_take h)
theorem cut_le {α : Type} (xs : List α) (lo hi : Option Int) : (cut xs lo hi).length ≤ xs.length := by
  unfold cut
  rw [List.length_take, List.length_drop]
  omega

/-! ### + - * // % ** -/
inductive Bi where
  | add | sub | mul | fdiv | mod | pow
  deriving DecidableEq
def Bi.op : Bi → Operator
  | .add => .Add | .sub => .Sub | .mul => .Mult | .fdiv => .FloorDiv | .mod => .Mod | .pow => .Pow
def small64 (i : Int) : Bool := decide (-(2 ^ 64) < i) && decide (i < 2 ^ 64)
theorem small64_iff {i : Int} : small64 i = true ↔ -(2 ^ 64) < i ∧ i < 2 ^ 64 := by simp [small64]
def binD : Bi → D → D → Rs D
  | .add, .int i, .int j => .ok (.int (i + j))
  | .add, .str x, .str y => if x.length + y.length ≤ LIM then .ok (.str (x ++ y)) else .bad
  | .add, .list xs, .list ys => if xs.length + ys.length ≤ LIM then .ok (.list (xs ++ ys)) else .bad
  | .add, .tuple xs, .tuple ys => if xs.isEmpty = false ∧ xs.length + ys.length ≤ LIM then .ok (.tuple (xs ++ ys)) else .bad
  | .sub, .int i, .int j => .ok (.int (i - j))
  | .mul, .int i, .int j => if small64 i = true ∨ small64 j = true then .ok (.int (i * j)) else .bad
  | .mul, .list xs, .int k => if -1000000 ≤ k ∧ k ≤ 1000000 ∧ xs.length * k.toNat ≤ LIM then .ok (.list (List.replicate k.toNat xs).flatten) else .bad
  | .mul, .str x, .int k => if 0 ≤ k ∧ k ≤ 1000000 ∧ x.length * k.toNat ≤ LIM then .ok (.str (mk (List.replicate k.toNat (cl x)).flatten)) else .bad
  | .fdiv, .int i, .int j => if 0 < j ∧ j < 1073741824 then .ok (.int (i / j)) else .bad
  | .mod, .int i, .int j => if 0 < j then .ok (.int (i % j)) else .bad
  | .pow, .int i, .int j => if 0 ≤ j ∧ j ≤ 1000 ∧ small64 i = true then .ok (.int (i ^ j.toNat)) else .bad
  | _, _, _ => .bad
section
variable {X : Cx}
theorem Inv.lstR {pins : List (Addr × Obj)} {σ : St} {H : Hp} {s : Shared} {l : Addr} {xs : List V} (I : Inv X pins σ H s) (h : RL X.K H l xs) : xs.length ≤ sizeLine ∧ ∃ (its : List Value) (n : Nat), Vals xs its ∧ xs.length = its.length ∧ s.heap.get? l = some { cls := .type "list", data := .seq its.toArray n } := by
  rcases h with h | ⟨its, n, k, z, r⟩
  · obtain ⟨z, its, n, r, e⟩ := h.ok I.hok
    exact ⟨z, its, n, r, r.length, e⟩
  ·     exact ⟨Nat.le_trans (Nat.le_of_eq (r.length.trans Array.length_toList)) z, its.toList, n, r, r.length, by rw [Array.toArray_toList]; exact I.kIn _ _ k⟩
def rCatR (K : PySem.W.Frag) : R2 := fun x y H Q => ∃ l b xs zs, x = .ref l ∧ y = .ref b ∧ RL K H l xs ∧ RL K H b zs ∧ xs.length + zs.length ≤ sizeLine ∧ ∀ p, H p = none → Q (.ref p) (upd H p (.lst (xs ++ zs)))
theorem op_catR : OpR X (binaryOp .Add) (rCatR X.K) := fun pins s σ H x y v u Q I rx ry ⟨l, b, xs, zs, ex, ey, hl, hb, hz, q⟩ => by
  subst ex ey
  cases rx; cases ry
  obtain ⟨z1, i1, n1, r1, k1, g1⟩ := Inv.lstR I hl
  obtain ⟨z2, i2, n2, r2, k2, g2⟩ := Inv.lstR I hb
  have fits : (i1.toArray.size + i2.toArray.size : Nat) ≤ sizeLine := by
    rw [List.size_toArray, List.size_toArray]
    omega
  refine PySem.P.add_list g1 g2 ?_ fits
  rw [show i1.toArray ++ i2.toArray = (i1 ++ i2).toArray by simp]
  have room : (xs ++ zs).length ≤ sizeLine := by rw [List.length_append]; omega
  exact ⟨V.ref _, _, I.lnew (t' := s.toks) (Vals.append r1 r2) room, rfl, q _ I.fresh⟩
def rRepR (K : PySem.W.Frag) : R2 := fun x y H Q => ∃ l k xs, x = .ref l ∧ y = .int k ∧ RL K H l xs ∧ -1000000 ≤ k ∧ k ≤ 1000000 ∧ xs.length * k.toNat ≤ LIM ∧
  ∀ p, H p = none → Q (.ref p) (upd H p (.lst (List.replicate k.toNat xs).flatten))
theorem op_repR : OpR X (binaryOp .Mult) (rRepR X.K) := fun pins s σ H x y v u Q I rx ry ⟨l, k, xs, ex, ey, hl, lo, hi, hz, q⟩ => by
  subst ex ey
  cases rx
  obtain ⟨tk, rfl⟩ := ry
  obtain ⟨z1, i1, n1, r1, k1, g1⟩ := Inv.lstR I hl
  have hz' : i1.toArray.size * k.toNat ≤ LIM := by rw [List.size_toArray, ← k1]; exact hz
  have big : (LIM : Nat) ≤ (2 ^ 63 - 1) / 8 := by decide
  have f1 : ¬ i1.toArray.size * k.toNat > (2 ^ 63 - 1) / 8 := Nat.not_lt.mpr (Nat.le_trans hz' big)
  have f2 : ¬ (!Builtin.List.listFitsIndex k) = true := by rw [fitsIndex_both (by omega) (by omega)]; decide
  have f3 : ¬ Builtin.List.listTooLong (i1.toArray.size * k.toNat) = true := by rw [notLongL (Nat.le_trans hz' lim_line)]; decide
  have g0 : ∀ m : Nat, (List.replicate m i1.toArray).foldl (fun p q => p ++ q) #[] = (List.replicate m i1).flatten.toArray := fun m => (foldl_rep i1 m []).trans (by rw [List.nil_append])
  have f4 : (List.replicate (if i1.toArray.isEmpty = true then 0 else k.toNat) i1.toArray).foldl (fun p q => p ++ q) #[] = (List.replicate k.toNat i1).flatten.toArray := by
    rw [g0]
    cases i1 with
    | nil => simp
    | cons c cs => rw [if_neg (by simp)]
  have room : (List.replicate k.toNat xs).flatten.length ≤ sizeLine := by rw [PyProof.Rows.lm_len_rep_flat, Nat.mul_comm]; exact Nat.le_trans hz lim_line
  refine wpAny_binaryOp_repeat_ref (T := "list") (U := "int") (by decide) ⟨_, g1, rfl⟩ (fun z => typeIs_int z k tk) noFill_list_mul F.fills_int_mul F.slot_int_rmul repeat_list F.slot_int_index.lookup ?_
  refine call_meets F.slot_int_rmul (typeIs_int s k tk) F.entry_int_rmul (F.args_int_rmul_2 _ _) (int___rmul___int_list k tk l i1.toArray n1) ⟨g1, rfl, ⟨_, g1, rfl⟩, ?_⟩
  refine call_meets F.slot_list_mul ⟨_, g1, rfl⟩ F.entry_list_mul (F.args_list_mul_2 _ _) (AutoListH.list___mul___list_int_3 l i1.toArray n1 k tk f2 f1 f3) ⟨g1, ?_⟩
  rw [f4]
  exact ⟨V.ref _, _, I.lnew (t' := s.toks) (Vals.rep r1 k.toNat) room, rfl, q _ I.fresh⟩
/-- s * k -/
def rMulS : R2 := fun x y H Q => ∃ z k, x = .str z ∧ y = .int k ∧ 0 ≤ k ∧ k ≤ 1000000 ∧ z.length * k.toNat ≤ LIM ∧ Q (.str (mk (List.replicate k.toNat (cl z)).flatten)) H
theorem fold_app_arr (a : Array Nat) : ∀ (k : Nat) (acc : List Nat), ((List.replicate k a).foldl (· ++ ·) acc.toArray) = (acc ++ (List.replicate k a.toList).flatten).toArray
  | 0, acc => by simp
  | k + 1, acc => by
    rw [List.replicate_succ, List.foldl_cons, List.replicate_succ, List.flatten_cons, ← List.append_assoc]
    rw [← fold_app_arr a k (acc ++ a.toList)]
    congr 1
    apply Array.ext'
    simp
theorem mul_txt {z : Str} {k : Int} (h0 : 0 ≤ k) : Txt.mul z k = mk (List.replicate k.toNat (cl z)).flatten := by
  unfold Txt.mul
  by_cases h1 : k < 1
  · have : k = 0 := by omega
    subst this
    rfl
  · rw [if_neg h1]
    by_cases h2 : (k == 1 || z.length == 0) = true
    · rw [if_pos h2]
      rcases Bool.or_eq_true _ _ ▸ h2 with h3 | h3
      · have : k = 1 := by simpa using h3
        subst this
        exact (cl_inj (by simp [mk, cl])).symm
      · have : cl z = [] := by
          have e : z.length = 0 := by simpa using h3
          rw [len_cl] at e
          exact List.length_eq_zero_iff.mp e
        apply cl_inj
        rw [this]
        simp [cl, mk]
    · rw [if_neg h2]
      apply congrArg
      have := fold_app_arr z.cps k.toNat []
      simpa using this
theorem op_mulS : OpR X (binaryOp .Mult) rMulS := fun pins s σ H x y v u Q I rx ry ⟨z, k, ex, ey, h0, h1, hz, q⟩ => by
  subst ex ey
  obtain ⟨t, rfl⟩ := rx
  obtain ⟨t', rfl⟩ := ry
  refine PySem.SB.mul ⟨by simp; omega, fun n1 _ => ?_, fun _ _ => ?_⟩ fun t2 k2 => ?_
  · have hp : 0 < k := by omega
    have h3 : ((z.length : Int)) * k ≤ 1000000 := by
      have e : ((z.length * k.toNat : Nat) : Int) = (z.length : Int) * k := by rw [Int.natCast_mul, Int.toNat_of_nonneg h0]
      have : ((z.length * k.toNat : Nat) : Int) ≤ ((LIM : Nat) : Int) := Int.ofNat_le.mpr hz
      rw [e] at this
      exact this
    rw [Int.not_lt]
    exact (Int.le_ediv_iff_mul_le hp).mpr (by omega)
  · show Builtin.Str.tooLong (z.length * k.toNat) = false
    unfold Builtin.Str.tooLong
    simp
    exact Nat.le_trans hz lim_line
  · rw [mul_txt h0]
    exact ⟨V.str _, H, I.tok _, ⟨_, rfl⟩, q⟩
/-- the reading of each -/
def rBin (K : PySem.W.Frag) : Bi → R2
  | .add => fun x y H Q => (rI0 (fun i j => .int (i + j)) x y H Q ∨ (∃ i j, x = .str i ∧ y = .str j ∧ i.length + j.length ≤ sizeLine ∧ Q (.str (i ++ j)) H)) ∨ (rCatR K x y H Q ∨ rCatT K x y H Q)
  | .sub => rI0 fun i j => .int (i - j)
  | .mul => fun x y H Q => rI CMul (fun i j => .int (i * j)) x y H Q ∨ (rRepR K x y H Q ∨ rMulS x y H Q)
  | .fdiv => rI CDiv fun i j => .int (i / j)
  | .mod => rI (fun _ j => 0 < j) fun i j => .int (i % j)
  | .pow => rI CPow fun i j => .int (i ^ j.toNat)
theorem bin_op : ∀ b : Bi, OpR X (binaryOp b.op) (rBin X.K b)
  | .add => (op_add.or op_add_str).or (op_catR.or op_catT)
  | .sub => op_sub
  | .mul => op_mul.or (op_repR.or op_mulS)
  | .fdiv => op_fdiv
  | .mod => op_mod
  | .pow => op_pow
end
section
variable {K : PySem.W.Frag}
theorem dn_newL {H : Hp} {O : List Addr} {p : Addr} {vs : List V} {ds : List D} (t : Thr H O) (hp : H p = none) (hl : vs.length ≤ LIM) (a : DnAll K (msk H O) vs ds) : Dn K (msk (upd H p (.lst vs)) O) (.ref p) (.list ds) :=
  .lst (.inl (.inl (by rw [msk_out (t.out hp)]; exact upd_same))) hl (dpAll_mono (msk_same (same_new hp)) a)
theorem dn_newT {H : Hp} {O : List Addr} {p : Addr} {vs : List V} {ds : List D} (t : Thr H O) (hp : H p = none) (hl : vs.length ≤ LIM) (a : DnAll K (msk H O) vs ds) : Dn K (msk (upd H p (.tup vs)) O) (.ref p) (.tuple ds) :=
  .tup (.inl (.inl (by rw [msk_out (t.out hp)]; exact upd_same))) hl (dpAll_mono (msk_same (same_new hp)) a)
theorem rd_sub {H : Hp} {O : List Addr} {a : Addr} {xs : List V} (h : RL K (msk H O) a xs) : RL K H a xs := Same.rl msk_sub h
theorem sqT_sub {H : Hp} {O : List Addr} {a : Addr} {xs : List V} (h : SqT K (msk H O) a xs) : SqT K H a xs := Same.seqT msk_sub h
theorem asc_rep {x : Str} {n : Nat} (h : asc x = true) : asc (mk (List.replicate n (cl x)).flatten) = true := asc_sub h fun c hc => by
  obtain ⟨l, h1, h2⟩ := List.mem_flatten.mp hc
  rw [(List.mem_replicate.mp h1).2] at h2
  exact h2
theorem len_mk (l : List Nat) : (mk l).length = l.length := by rw [len_cl, cl_mk]
theorem len_rep {α : Type} (n : Nat) (l : List α) : (List.replicate n l).flatten.length = l.length * n := by
  induction n with
  | zero => simp
  | succ n ih => rw [List.replicate_succ, List.flatten_cons, List.length_append, ih, Nat.mul_succ, Nat.add_comm]
theorem bin_im (b : Bi) : Im2 K (rBin K b) (binD b) := by
  intro H O x y dx dy Q t hx hy h
  cases b
  case add =>
    cases hx <;> cases hy <;> first | exact h.elim | skip
    · exact .inl (.inl ⟨_, _, rfl, rfl, h _ _ (Same.refl _) (.int _)⟩)
    · rename_i i h1 h2 j h3 h4
      have h : Okk (if i.length + j.length ≤ LIM then .ok (.str (i ++ j)) else .bad) _ := h
      by_cases hl : i.length + j.length ≤ LIM
      · rw [if_pos hl] at h
        exact .inl (.inr ⟨_, _, rfl, rfl, Nat.le_trans hl lim_line, h _ _ (Same.refl _) (.str (asc_app h1 h3) (by rw [len_app]; exact hl))⟩)
      · rw [if_neg hl] at h; exact h.elim
    · rename_i a vs ds h1 h2 h3 b ws es h4 h5 h6
      have h : Okk (if ds.length + es.length ≤ LIM then .ok (.list (ds ++ es)) else .bad) _ := h
      by_cases hl : ds.length + es.length ≤ LIM
      · rw [if_pos hl] at h
        have hl' : vs.length + ws.length ≤ LIM := by rw [dpAll_len h3, dpAll_len h6]; exact hl
        refine .inr (.inl ⟨_, _, _, _, rfl, rfl, rd_sub h1, rd_sub h4, Nat.le_trans hl' lim_line, fun p hp => ?_⟩)
        exact h _ _ (same_new hp) (dn_newL t hp (by rw [List.length_append]; exact hl') (dpAll_app h3 h6))
      · rw [if_neg hl] at h; exact h.elim
    · rename_i a vs ds h1 h2 h3 b ws es h4 h5 h6
      have h : Okk (if ds.isEmpty = false ∧ ds.length + es.length ≤ LIM then .ok (.tuple (ds ++ es)) else .bad) _ := h
      by_cases hl : ds.isEmpty = false ∧ ds.length + es.length ≤ LIM
      · rw [if_pos hl] at h
        have hl' : vs.length + ws.length ≤ LIM := by rw [dpAll_len h3, dpAll_len h6]; exact hl.2
        refine .inr (.inr ⟨_, _, _, _, rfl, rfl, sqT_sub h1, sqT_sub h4, ?_, Nat.le_trans hl' lim_line, fun e => ?_, fun _ p hp => ?_⟩)
        · intro e; subst e
          cases h3
          simp at hl
        · subst e
          cases h6
          rw [List.append_nil] at h
          exact h _ _ (Same.refl _) (.tup h1 h2 h3)
        · exact h _ _ (same_new hp) (dn_newT t hp (by rw [List.length_append]; exact hl') (dpAll_app h3 h6))
      · rw [if_neg hl] at h; exact h.elim
  case sub =>
    cases hx <;> cases hy <;> first | exact h.elim | exact ⟨_, _, rfl, rfl, h _ _ (Same.refl _) (.int _)⟩
  case mul =>
    cases hx <;> cases hy <;> first | exact h.elim | skip
    · rename_i i j
      have h : Okk (if small64 i = true ∨ small64 j = true then .ok (.int (i * j)) else .bad) _ := h
      by_cases hl : small64 i = true ∨ small64 j = true
      · rw [if_pos hl] at h
        exact .inl ⟨_, _, rfl, rfl, hl.imp small64_iff.mp small64_iff.mp, h _ _ (Same.refl _) (.int _)⟩
      · rw [if_neg hl] at h; exact h.elim
    · rename_i z h1 h2 k
      have h : Okk (if 0 ≤ k ∧ k ≤ 1000000 ∧ z.length * k.toNat ≤ LIM then .ok (.str (mk (List.replicate k.toNat (cl z)).flatten)) else .bad) _ := h
      by_cases hl : 0 ≤ k ∧ k ≤ 1000000 ∧ z.length * k.toNat ≤ LIM
      · rw [if_pos hl] at h
        exact .inr (.inr ⟨_, _, rfl, rfl, hl.1, hl.2.1, hl.2.2, h _ _ (Same.refl _) (.str (asc_rep h1) (by rw [len_mk, len_rep, ← len_cl]; exact hl.2.2))⟩)
      · rw [if_neg hl] at h; exact h.elim
    · rename_i a vs ds h1 h2 h3 k
      have h : Okk (if -1000000 ≤ k ∧ k ≤ 1000000 ∧ ds.length * k.toNat ≤ LIM then .ok (.list (List.replicate k.toNat ds).flatten) else .bad) _ := h
      by_cases hl : -1000000 ≤ k ∧ k ≤ 1000000 ∧ ds.length * k.toNat ≤ LIM
      · rw [if_pos hl] at h
        have hl' : vs.length * k.toNat ≤ LIM := by rw [dpAll_len h3]; exact hl.2.2
        refine .inr (.inl ⟨_, _, _, rfl, rfl, rd_sub h1, hl.1, hl.2.1, hl', fun p hp => ?_⟩)
        exact h _ _ (same_new hp) (dn_newL t hp (by rw [len_rep]; exact hl') (dpAll_rep h3 _))
      · rw [if_neg hl] at h; exact h.elim
  case fdiv =>
    cases hx <;> cases hy <;> first | exact h.elim | skip
    rename_i i j
    have h : Okk (if 0 < j ∧ j < 1073741824 then .ok (.int (i / j)) else .bad) _ := h
    by_cases hl : 0 < j ∧ j < 1073741824
    · rw [if_pos hl] at h; exact ⟨_, _, rfl, rfl, hl, h _ _ (Same.refl _) (.int _)⟩
    · rw [if_neg hl] at h; exact h.elim
  case mod =>
    cases hx <;> cases hy <;> first | exact h.elim | skip
    rename_i i j
    have h : Okk (if 0 < j then .ok (.int (i % j)) else .bad) _ := h
    by_cases hl : 0 < j
    · rw [if_pos hl] at h; exact ⟨_, _, rfl, rfl, hl, h _ _ (Same.refl _) (.int _)⟩
    · rw [if_neg hl] at h; exact h.elim
  case pow =>
    cases hx <;> cases hy <;> first | exact h.elim | skip
    rename_i i j
    have h : Okk (if 0 ≤ j ∧ j ≤ 1000 ∧ small64 i = true then .ok (.int (i ^ j.toNat)) else .bad) _ := h
    by_cases hl : 0 ≤ j ∧ j ≤ 1000 ∧ small64 i = true
    · rw [if_pos hl] at h
      have := small64_iff.mp hl.2.2
      exact ⟨_, _, rfl, rfl, ⟨hl.1, by omega, by omega⟩, h _ _ (Same.refl _) (.int _)⟩
    · rw [if_neg hl] at h; exact h.elim
end
end Pf

set_option Elab.async false
set_option linter.all false
set_option maxRecDepth 100000
/-! Comparisons. -/
namespace Pf
open PySem PySem.Spec L2

inductive Cm where
  | eq | ne | lt | le | gt | ge | is | isn | inn | nin
  deriving DecidableEq
def Cm.op : Cm → CmpOp
  | .eq => .Eq | .ne => .NotEq | .lt => .Lt | .le => .LtE | .gt => .Gt | .ge => .GtE | .is => .Is | .isn => .IsNot | .inn => .In | .nin => .NotIn
def flatD : D → Bool
  | .none | .bool _ | .int _ | .str _ => true
  | _ => false
/-- is, for None and the bools -/
def isD : D → D → Rs Bool
  | x, .none => .ok (match x with | .none => true | _ => false)
  | .bool a, .bool b => .ok (decide (a = b))
  | _, _ => .bad
/-- x stands in y as a text -/
def hasSub (x y : Str) : Bool := !(Builtin.Str.occurrences y x 0 y.length 1).isEmpty
def inD : D → D → Rs Bool
  | .str x, .str y => .ok (hasSub x y)
  | x, .list ys => if plain x = true ∧ plain (.list ys) = true then .ok (ys.any fun z => PyData.eqv z x) else .bad
  | x, .tuple ys => if flatD x = true ∧ ys.all flatD = true then .ok (ys.any fun z => PyData.eqv z x) else .bad
  | _, _ => .bad
def eqD (x y : D) : Rs Bool := if plain x = true ∧ plain y = true then .ok (PyData.eqv x y) else .bad
def ltD : D → D → Rs Bool
  | .int i, .int j => .ok (decide (i < j))
  | .str x, .str y => .ok (decide (cl x < cl y))
  | _, _ => .bad
def leD : D → D → Rs Bool
  | .int i, .int j => .ok (decide (i ≤ j))
  | .str x, .str y => .ok (!decide (cl y < cl x))
  | _, _ => .bad
def gtD : D → D → Rs Bool
  | .int i, .int j => .ok (decide (j < i))
  | _, _ => .bad
def geD : D → D → Rs Bool
  | .int i, .int j => .ok (decide (j ≤ i))
  | _, _ => .bad
def cmpB : Cm → D → D → Rs Bool
  | .eq, x, y => eqD x y
  | .ne, x, y => (eqD x y).bind fun b => .ok (!b)
  | .lt, x, y => ltD x y
  | .le, x, y => leD x y
  | .gt, x, y => gtD x y
  | .ge, x, y => geD x y
  | .is, x, y => isD x y
  | .isn, x, y => (isD x y).bind fun b => .ok (!b)
  | .inn, x, y => inD x y
  | .nin, x, y => (inD x y).bind fun b => .ok (!b)
def toB (r : Rs Bool) : Rs D := r.bind fun b => .ok (.bool b)
def cmpD (c : Cm) (x y : D) : Rs D := toB (cmpB c x y)
section
variable {X : Cx}
def rLeS : R2 := fun x y H Q => ∃ i j, x = .str i ∧ y = .str j ∧ Q (.bl (!decide (j.cps.toList < i.cps.toList))) H
def rLtS : R2 := fun x y H Q => ∃ i j, x = .str i ∧ y = .str j ∧ Q (.bl (decide (i.cps.toList < j.cps.toList))) H
def rInS : R2 := fun x y H Q => ∃ i j, x = .str i ∧ y = .str j ∧ Q (.bl (!(Builtin.Str.occurrences j i 0 j.length 1).isEmpty)) H
def rNiS : R2 := fun x y H Q => ∃ i j, x = .str i ∧ y = .str j ∧ Q (.bl (!(!(Builtin.Str.occurrences j i 0 j.length 1).isEmpty))) H
def rIsN0 : R2 := fun x y H Q => y = .non ∧ Q (.bl (decide (x = .non))) H
def rNoN0 : R2 := fun x y H Q => y = .non ∧ Q (.bl (!decide (x = .non))) H
def rCmp (K : PySem.W.Frag) : Cm → R2
  | .eq => rEqD K
  | .ne => rNeD K
  | .lt => fun x y H Q => rI0 (fun i j => .bl (decide (i < j))) x y H Q ∨ rLtS x y H Q
  | .le => fun x y H Q => rI0 (fun i j => .bl (decide (i ≤ j))) x y H Q ∨ rLeS x y H Q
  | .gt => rI0 fun i j => .bl (decide (j < i))
  | .ge => rI0 fun i j => .bl (decide (j ≤ i))
  | .is => fun x y H Q => rIsN0 x y H Q ∨ rIsB x y H Q
  | .isn => fun x y H Q => rNoN0 x y H Q ∨ rNotB x y H Q
  | .inn => fun x y H Q => rInS x y H Q ∨ (rInD K x y H Q ∨ rIn K false x y H Q)
  | .nin => fun x y H Q => rNiS x y H Q ∨ (rNotInD K x y H Q ∨ rIn K true x y H Q)
theorem cmp_op (hu : X.A.units + 65 < cLine) : ∀ c : Cm, OpR X (compareOp c.op) (rCmp X.K c)
  | .eq => op_eqD (by omega)
  | .ne => op_neD (by omega)
  | .lt => op_lt.or op_lt_str
  | .le => op_le.or op_le_str
  | .gt => op_gt
  | .ge => op_ge
  | .is => op_isN.or op_isBl
  | .isn => op_notN.or op_notBl
  | .inn => op_in_str.or ((op_inD hu).or op_in_seq)
  | .nin => op_notIn_str.or ((op_notInD hu).or op_notIn_seq)
end
section
variable {K : PySem.W.Frag}
theorem isnon {H : Hp} {v : V} {d : D} (h : Dn K H v d) : decide (v = .non) = (match d with | .none => true | _ => false) := by
  cases h <;> simp
theorem flatV_of {H : Hp} {v : V} {d : D} (h : Dn K H v d) (f : flatD d = true) : flatV v = true := by
  cases h <;> first | rfl | cases f
theorem eqV_of {H : Hp} {v w : V} {d e : D} (h : Dn K H v d) (g : Dn K H w e) (f : flatD d = true) (f' : flatD e = true) : eqV v w = PyData.eqv d e := by
  cases h <;> cases g <;> first | cases f; done | cases f'; done | simp [eqV, PyData.eqv]
theorem flatAll_of {H : Hp} : ∀ {vs : List V} {ds : List D}, DnAll K H vs ds → ds.all flatD = true → vs.all flatV = true
  | _, _, .nil, _ => rfl
  | _, _, .cons h t, f => by
    simp only [List.all_cons, Bool.and_eq_true] at f ⊢
    exact ⟨flatV_of h f.1, flatAll_of t f.2⟩
theorem inV_of {H : Hp} {x : V} {dx : D} (hx : Dn K H x dx) (fx : flatD dx = true) : ∀ {vs : List V} {ds : List D}, DnAll K H vs ds → ds.all flatD = true → inV x vs = ds.any fun z => PyData.eqv z dx
  | _, _, .nil, _ => rfl
  | _, _, .cons h t, f => by
    simp only [List.all_cons, Bool.and_eq_true] at f
    show (eqV _ x || inV x _) = _
    rw [List.any_cons, eqV_of h hx f.1 fx, inV_of hx fx t f.2]
def NoEx {α : Type} (r : Rs α) : Prop := match r with
  | .ex _ => False
  | _ => True
theorem NoEx.elim {α : Type} {r : Rs α} {e : EX} (n : NoEx r) (h : r = .ex e) : False := by subst h; exact n
theorem noex_eq (x y : D) : NoEx (eqD x y) := by unfold eqD; split <;> trivial
theorem noex_is (x y : D) : NoEx (isD x y) := by unfold isD; split <;> trivial
theorem noex_in (x y : D) : NoEx (inD x y) := by
  unfold inD
  split
  · trivial
  · split <;> trivial
  · split <;> trivial
  · trivial
theorem noex_not {r : Rs Bool} (h : NoEx r) : NoEx (r.bind fun b => .ok (!b)) := by
  cases r <;> first | trivial | exact h
theorem noex_lt (x y : D) : NoEx (ltD x y) := by unfold ltD; split <;> trivial
theorem noex_le (x y : D) : NoEx (leD x y) := by unfold leD; split <;> trivial
theorem noex_gt (x y : D) : NoEx (gtD x y) := by unfold gtD; split <;> trivial
theorem noex_ge (x y : D) : NoEx (geD x y) := by unfold geD; split <;> trivial
theorem noex_cmp : ∀ (c : Cm) (x y : D), NoEx (cmpB c x y)
  | .eq, x, y => noex_eq x y
  | .ne, x, y => noex_not (noex_eq x y)
  | .is, x, y => noex_is x y
  | .isn, x, y => noex_not (noex_is x y)
  | .inn, x, y => noex_in x y
  | .nin, x, y => noex_not (noex_in x y)
  | .lt, x, y => noex_lt x y
  | .le, x, y => noex_le x y
  | .gt, x, y => noex_gt x y
  | .ge, x, y => noex_ge x y
theorem cmpB_noex {c : Cm} {x y : D} {e : EX} (h : cmpB c x y = .ex e) : False := (noex_cmp c x y).elim h
theorem dp_list {H : Hp} {v : V} {d : D} (h : Dp K H v d) : Dp K H v d := h
theorem okk_b {r : Rs Bool} {P : D → Prop} (h : Okk (toB r) P) : ∃ b, r = .ok b ∧ P (.bool b) := by
  cases r with
  | ok b => exact ⟨b, rfl, h⟩
  | ex e => exact h.elim
  | bad => exact h.elim
theorem bind_ok {α β : Type} {r : Rs α} {f : α → Rs β} {b : β} (h : r.bind f = .ok b) : ∃ a, r = .ok a ∧ f a = .ok b := by
  cases r with
  | ok a => exact ⟨a, rfl, h⟩
  | ex e => cases h
  | bad => cases h
theorem in_cases {H : Hp} {x y : V} {dx dy : D} {b : Bool} (hx : Dn K H x dx) (hy : Dn K H y dy) (e : inD dx dy = .ok b) :
    (∃ i j, x = .str i ∧ y = .str j ∧ (!(Builtin.Str.occurrences j i 0 j.length 1).isEmpty) = b) ∨
    (∃ d ds, Dp K H x d ∧ Dp K H y (.list ds) ∧ SeqAt.shaped d = true ∧ SeqAt.shaped (.list ds) = true ∧ (ds.any fun z => PyData.eqv z d) = b) ∨
    (∃ p xs, y = .ref p ∧ (SqL K H p xs ∨ SqT K H p xs) ∧ flatV x = true ∧ xs.all flatV = true ∧ inV x xs = b) := by
  have lst : ∀ ys, dy = .list ys → inD dx (.list ys) = (if plain dx = true ∧ plain (.list ys) = true then .ok (ys.any fun z => PyData.eqv z dx) else .bad) := fun ys _ => by cases dx <;> rfl
  have tup : ∀ ys, dy = .tuple ys → inD dx (.tuple ys) = (if flatD dx = true ∧ ys.all flatD = true then .ok (ys.any fun z => PyData.eqv z dx) else .bad) := fun ys _ => by cases dx <;> rfl
  cases dy with
  | str y' =>
    cases dx <;> first | cases e; done | skip
    cases hx; cases hy
    cases e
    exact .inl ⟨_, _, rfl, rfl, rfl⟩
  | list ys =>
    rw [lst ys rfl] at e
    by_cases h : plain dx = true ∧ plain (.list ys) = true
    · rw [if_pos h] at e
      cases e
      obtain ⟨h1, h2⟩ := dn_shaped hx h.1
      obtain ⟨h3, h4⟩ := dn_shaped hy h.2
      exact .inr (.inl ⟨_, _, h1, h3, h2, h4, rfl⟩)
    · rw [if_neg h] at e; cases e
  | tuple ys =>
    rw [tup ys rfl] at e
    by_cases h : flatD dx = true ∧ ys.all flatD = true
    · rw [if_pos h] at e
      cases e
      cases hy with
      | tup g1 g2 g3 => exact .inr (.inr ⟨_, _, rfl, .inr g1, flatV_of hx h.1, flatAll_of g3 h.2, inV_of hx h.1 g3 h.2⟩)
    · rw [if_neg h] at e; cases e
  | none => cases dx <;> cases e
  | bool b => cases dx <;> cases e
  | int i => cases dx <;> cases e
  | dict d => cases dx <;> cases e
theorem eq_cases {H : Hp} {x y : V} {dx dy : D} {b : Bool} (hx : Dn K H x dx) (hy : Dn K H y dy) (e : eqD dx dy = .ok b) : (Dp K H x dx ∧ Dp K H y dy ∧ SeqAt.shaped dx = true ∧ SeqAt.shaped dy = true) ∧ PyData.eqv dx dy = b := by
  unfold eqD at e
  by_cases h : plain dx = true ∧ plain dy = true
  · rw [if_pos h] at e
    cases e
    exact ⟨⟨(dn_shaped hx h.1).1, (dn_shaped hy h.2).1, (dn_shaped hx h.1).2, (dn_shaped hy h.2).2⟩, rfl⟩
  · rw [if_neg h] at e; cases e
theorem is_cases {H : Hp} {x y : V} {dx dy : D} {b : Bool} (hx : Dn K H x dx) (hy : Dn K H y dy) (e : isD dx dy = .ok b) : (y = .non ∧ decide (x = .non) = b) ∨ ∃ p q : Bool, x = .bl p ∧ y = .bl q ∧ decide (p = q) = b := by
  cases hy with
  | non =>
    refine .inl ⟨rfl, ?_⟩
    rw [isnon hx]
    cases dx <;> cases e <;> rfl
  | bl q =>
    cases hx <;> cases e
    exact .inr ⟨_, _, rfl, rfl, rfl⟩
  | int _ => cases dx <;> cases e
  | str _ _ => cases dx <;> cases e
  | lst _ _ _ => cases dx <;> cases e
  | tup _ _ _ => cases dx <;> cases e
  | dct _ _ _ => cases dx <;> cases e
theorem cmp_im (c : Cm) : Im2L K (rCmp K c) (cmpD c) := by
  intro H x y dx dy Q hx hy h
  obtain ⟨b, e, h⟩ := okk_b h
  have h : Q (.bl b) H := h _ _ (Same.refl _) fun _ => .bl b
  cases c
  case eq =>
    obtain ⟨⟨h1, h2, h3, h4⟩, rfl⟩ := eq_cases hx hy e
    exact ⟨_, _, h1, h2, h3, h4, h⟩
  case ne =>
    obtain ⟨b', e', e2⟩ := bind_ok e
    cases e2
    obtain ⟨⟨h1, h2, h3, h4⟩, rfl⟩ := eq_cases hx hy e'
    exact ⟨_, _, h1, h2, h3, h4, h⟩
  case lt =>
    cases hx <;> cases hy <;> cases e
    · exact .inl ⟨_, _, rfl, rfl, h⟩
    · exact .inr ⟨_, _, rfl, rfl, h⟩
  case le =>
    cases hx <;> cases hy <;> cases e
    · exact .inl ⟨_, _, rfl, rfl, h⟩
    · exact .inr ⟨_, _, rfl, rfl, h⟩
  case gt =>
    cases hx <;> cases hy <;> cases e
    exact ⟨_, _, rfl, rfl, h⟩
  case ge =>
    cases hx <;> cases hy <;> cases e
    exact ⟨_, _, rfl, rfl, h⟩
  case is =>
    rcases is_cases hx hy e with ⟨h1, rfl⟩ | ⟨p, q, h1, h2, rfl⟩
    · exact .inl ⟨h1, h⟩
    · exact .inr ⟨_, _, h1, h2, h⟩
  case isn =>
    obtain ⟨b', e', e2⟩ := bind_ok e
    cases e2
    rcases is_cases hx hy e' with ⟨h1, rfl⟩ | ⟨p, q, h1, h2, rfl⟩
    · exact .inl ⟨h1, h⟩
    · exact .inr ⟨_, _, h1, h2, h⟩
  case inn =>
    rcases in_cases hx hy e with ⟨i, j, h1, h2, rfl⟩ | ⟨d, ds, h1, h2, h3, h4, rfl⟩ | ⟨p, xs, h1, h2, h3, h4, rfl⟩
    · exact .inl ⟨_, _, h1, h2, h⟩
    · exact .inr (.inl ⟨_, _, h1, h2, h3, h4, h⟩)
    · exact .inr (.inr ⟨_, _, h1, h2, h3, h4, h⟩)
  case nin =>
    obtain ⟨b', e', e2⟩ := bind_ok e
    cases e2
    rcases in_cases hx hy e' with ⟨i, j, h1, h2, rfl⟩ | ⟨d, ds, h1, h2, h3, h4, rfl⟩ | ⟨p, xs, h1, h2, h3, h4, rfl⟩
    · exact .inl ⟨_, _, h1, h2, h⟩
    · exact .inr (.inl ⟨_, _, h1, h2, h3, h4, h⟩)
    · exact .inr (.inr ⟨_, _, h1, h2, h3, h4, h⟩)
end
/-! ### chains a op b op' c -/
section
variable {X : Cx} {xp : XP} {W : WX} {a b c : Expr} {fa fb fc : Sto → Rs D} {pos : Pos}
def chainF (o1 o2 : Cm) (fa fb fc : Sto → Rs D) : Sto → Rs Bool := fun ρ => (fa ρ).bind fun x => (fb ρ).bind fun y => (cmpB o1 x y).bind fun k => if k = true then (fc ρ).bind fun z => cmpB o2 y z else .ok false
theorem rd_chain {K : PySem.W.Frag} {mg : Str → Option Value} {o1 o2 : Cm} {σ : St} {H : Hp} {Q : VK} (h : rdE K mg xp W (fun ρ => toB (chainF o1 o2 fa fb fc ρ)) σ H Q) :
    tChain (rCmp K o1) (rCmp K o2) (rdL K mg xp W fa) (rdL K mg xp W fb) (rdL K mg xp W fc) σ H Q := by
  obtain ⟨ρ, O, R, q⟩ := h
  have q : End K mg W O σ H (fun d H' => ∀ v, Dn K (msk H' O) v d → Q v H') (((fa ρ).bind fun x => (fb ρ).bind fun y => (cmpB o1 x y).bind fun k => if k = true then (fc ρ).bind fun z => cmpB o2 y z else .ok false).bind fun b => .ok (.bool b)) := q
  rw [Rs.bind_assoc] at q
  refine ⟨ρ, O, R, q.bind.imp fun dx H1 _ s1 q1 vx hx => ?_⟩
  rw [Rs.bind_assoc] at q1
  refine ⟨ρ, O, R.mono s1, q1.bind.imp fun dy H2 _ s2 q2 vy hy => ?_⟩
  have hx2 := dp_mono s2 hx
  rw [Rs.bind_assoc] at q2
  cases e : cmpB o1 dx dy with
  | ok k =>
    rw [e] at q2
    have q2 : End K mg W O σ H2 (fun d H' => ∀ v, Dn K (msk H' O) v d → Q v H') ((if k = true then (fc ρ).bind fun z => cmpB o2 dy z else .ok false).bind fun b => .ok (.bool b)) := q2
    refine cmp_im o1 H2 vx vy dx dy _ hx2 hy ?_
    unfold cmpD toB
    rw [e]
    intro v H3 s3 hv
    refine ⟨k, (hv H3).isB, ?_⟩
    cases k with
    | true =>
      rw [if_pos rfl] at q2 ⊢
      have q3 := q2.grow s3
      rw [Rs.bind_assoc] at q3
      refine ⟨ρ, O, ((R.mono s1).mono s2).mono s3, q3.bind.imp fun dz H4 _ s4 q4 vz hz => ?_⟩
      refine cmp_im o2 H4 vy vz dy dz Q (dp_mono s4 (dp_mono s3 hy)) hz ?_
      unfold cmpD toB
      cases e2 : cmpB o2 dy dz with
      | ok k2 => rw [e2] at q4; exact fun v H' s h => q4 H' s v (h _)
      | ex x => rw [e2] at q4; exact (cmpB_noex e2).elim
      | bad => rw [e2] at q4; exact q4.elim
    | false =>
      rw [if_neg Bool.false_ne_true] at q2 ⊢
      exact q2 H3 s3 _ (.bl false)
  | ex x => exact (cmpB_noex e).elim
  | bad => rw [e] at q2; exact q2.elim
theorem ce_chain {o1 o2 : Cm} (hu : X.A.units + 65 < cLine) (ha : CL X xp W a fa) (hb : CL X xp W b fb) (hc : CL X xp W c fc) (hm : lastMarks [o1.op, o2.op] [b, c] = false) : CE X xp W (.Compare a [o1.op, o2.op] [b, c] pos) (fun ρ => toB (chainF o1 o2 fa fb fc ρ)) :=
  pe_imp (pe_chain (cmp_op hu o1) (cmp_op hu o2) ha hb hc hm) fun _ _ _ h => rd_chain h
theorem ct_chain {o1 o2 : Cm} (hu : X.A.units + 65 < cLine) (ha : CL X xp W a fa) (hb : CL X xp W b fb) (hc : CL X xp W c fc) (hm : lastMarks [o1.op, o2.op] [b, c] = false) : CT X xp W (.Compare a [o1.op, o2.op] [b, c] pos) (chainF o1 o2 fa fb fc) :=
  pt_imp (pt_chain (cmp_op hu o1) (cmp_op hu o2) ha hb hc hm) fun σ H Q ⟨ρ, O, R, q⟩ => rd_chain ⟨ρ, O, R, by
    have q : End X.K X.mg W O σ H (fun b H' => Q b H') (chainF o1 o2 fa fb fc ρ) := q
    show End X.K X.mg W O σ H _ (toB (chainF o1 o2 fa fb fc ρ))
    unfold toB
    generalize chainF o1 o2 fa fb fc ρ = r at q
    cases r with
    | ok b => exact fun H' s v hv => ⟨b, hv.isB, q H' s⟩
    | ex x => exact q
    | bad => exact q⟩
end
end Pf

set_option Elab.async false
set_option linter.all false
set_option maxRecDepth 100000
/-! Defs that keep a promise where no repr is under way; calls of them. -/
namespace Pf
open PySem PySem.Spec PyProof.Rows L2

/-- no repr is under way -/
def NoRepr (A : Around) : Prop := A.guards = some []
structure FnG (P : Program) (w : World) (K : PySem.W.Frag) (mg : Str → Option Value) (base : Heap) (k : Nat) (f : Addr) (fd : FuncData) (ps : List Str) (sp : Sp) : Prop where
  len : ∀ vs H Q E, sp vs H Q E → vs.length = ps.length
  run : ∀ (A : Around) (outer : List Env) (s : Shared) (H : Hp) (args : Args) (us : List Value) (vs : List V) (Q : VK) (E : XK), Room k A → NoRepr A → Env0 P w K mg base A outer s H → BindsTo s fd args (ps.zip us) → Vals vs us → sp vs H Q E →
    codeAny (model P w) A (.call (.ref f) args) (CR (L2.CX P w) outer P w H s Q E) s
section
variable {P : Program} {w : World} {K : PySem.W.Frag} {mg : Str → Option Value} {base : Heap}
theorem FnG.mono {j k : Nat} {f : Addr} {fd : FuncData} {ps : List Str} {sp : Sp} (F : FnG P w K mg base j f fd ps sp) (h : j ≤ k) : FnG P w K mg base k f fd ps sp :=
  ⟨F.len, fun A outer s H args us vs Q E hr => F.run A outer s H args us vs Q E (hr.mono h)⟩
theorem FnG.imp {k : Nat} {f : Addr} {fd : FuncData} {ps : List Str} {sp sp' : Sp} (F : FnG P w K mg base k f fd ps sp) (h : ∀ vs H Q E, sp' vs H Q E → sp vs H Q E) : FnG P w K mg base k f fd ps sp' :=
  ⟨fun vs H Q E q => F.len vs H Q E (h _ _ _ _ q), fun A outer s H args us vs Q E hr hg he hb hv hs => F.run A outer s H args us vs Q E hr hg he hb hv (h _ _ _ _ hs)⟩
/-- a def of the text, by its body -/
theorem fnG_of {x qual : Str} {st : Stmt} {f : Addr} {fd : FuncData} {N ps : List Str} {k : Nat} {sp : Sp} (F : Fun K x qual st f fd) (S : FnScope N ps (defScope st)) (len : ∀ vs H Q E, sp vs H Q E → vs.length = ps.length)
    (body : ∀ (cdv : Value) (A : Around) (outer : List Env) (s : Shared) (H : Hp) (vs : List V) (Q : VK) (E : XK), Room k (A.deeper (envOfC qual (defScope st) s.heap.objs.size f cdv)) → NoRepr A → sp vs H Q E →
      ∃ t, PSs (cxOf (L2.CX P w) P w K mg base N qual (defScope st) f cdv A outer s H E) (defBody st) t ∧ t { nx := fun _ H' => Q .non H', rt := Q } (start N vs) H) : FnG P w K mg base (k + 1) f fd ps sp := by
  obtain ⟨oc, od, kV, doc, pm, an, cdv, ct, osl, rfl, look, code⟩ := F.ex
  constructor
  · exact len
  intro A outer s H args us vs Q E room nore ent binds rel wish
  have nargs := len vs H Q E wish
  have inK : K.In s.heap := ent.mod.kin.keeps fun b o z => (ent.bs b o z).1
  have free : s.heap.NoLimit := ent.mod.nolimit.keeps fun b o z => (ent.bs b o z).1
  have kinds : ∀ y ∈ ps.zip us, (defScope st).names.lookup y.1 = some .local ∨ ((defScope st).names.lookup y.1 = some .cell ∧ ((cellsFrom (s.heap.objs.size + 1) (defScope st).names []).lookup y.1).isSome = true) := by
    rintro ⟨nm, val⟩ hy
    rcases S.par nm (List.of_mem_zip hy).1 with isl | isc
    · exact Or.inl isl
    · exact Or.inr ⟨isc, PySem.W.cellsFrom_some _ _ _ (Or.inl isc)⟩
  apply codeAny_call_function room.depth (inK _ _ look) rfl S.co S.gen rfl (PySem.W.codeRec_of inK code)
  apply binds
  refine wpAny_newFunctionEnv_cells S.kind kinds ?_
  rintro env rfl s1 inside
  refine ⟨free.keeps inside.toInCall.keep, codeAny_func ?_⟩
  obtain ⟨t, der, goal⟩ := body cdv A outer s H vs Q E (room.deeper _) nore wish
  have inv0 := inv_start (CX := L2.CX P w) (P := P) (w := w) (K := K) (mg := mg) (base := base) (E := E) S room.hd ent nargs rel inside
  refine wpAny_mono (der.run [] s1 (start N vs) H _ inv0 goal) ?_ fun _ _ z => z
  have close : ∀ {σ' : L2.St} {H' : Hp} {v : V} {u : Value} {s' : Shared}, Inv (cxOf (L2.CX P w) P w K mg base N qual (defScope st) f cdv A outer s H E) [] σ' H' s' → RelV v u → Q v H' → L2.CE outer P w H s Q u s' :=
    fun {σ' H' v u s'} J r z => ⟨v, H', J.os, J.bare, J.base, J.hok, r, z⟩
  intro fl s' out
  match fl, out with
  | .ret u, ⟨v, σ', H', J, r, z⟩ => exact close J r z
  | .next, ⟨σ', H', J, z⟩ => exact close (v := V.non) (u := Value.none) J rfl z
  | .brk, ⟨_, _, _, z⟩ => exact z.elim
  | .cont, ⟨_, _, _, z⟩ => exact z.elim
end
section
variable {X : Cx} {k : Nat} {f : Addr} {fd : FuncData} {ps : List Str} {sp : Sp} {dvs : List V} {ds : List Value} {E : L2.St → XK} {x : Str} {p pos : Pos} {e : Expr} {es : List Expr} {t : TA}
theorem run_fnG {pins : List (Addr × Obj)} {σ : L2.St} {H : Hp} {s : Shared} {Q : VK} {us : List Value} {vs : List V} (F : FnG X.prog X.w X.K X.mg X.base k f fd ps sp) (room : Room k X.A) (nore : NoRepr X.A) (hb : Binds X.K fd ps ds) (hd : Vals dvs ds) (hx : PassesAt (L2.CX X.prog X.w) X σ (E σ))
    (I : Inv X pins σ H s) (r : Vals vs us) (wish : sp (vs ++ dvs) H Q (E σ)) : wpAny (model X.prog X.w) X.A (call (.ref f) us) (EP X pins σ Q) X.xe s := by
  have all : Vals (vs ++ dvs) (us ++ ds) := Vals.append r hd
  have nargs : (us ++ ds).length = ps.length := (all.length.symm).trans (F.len _ _ _ _ wish)
  have runs := F.run X.A X.stack s H ⟨us, []⟩ (us ++ ds) (vs ++ dvs) Q (E σ) room nore I.env0 (hb s us I.kIn nargs) all wish
  apply wpAny_call
  refine codeAny_mono runs fun res s' out => ?_
  match res, out with
  | .error e, z => exact hx pins H s e s' I z
  | .ok (.ret u), z => exact I.after z
  | .ok .next, z => exact z.elim
  | .ok .brk, z => exact z.elim
  | .ok .cont, z => exact z.elim
theorem pe_callG (F : FnG X.prog X.w X.K X.mg X.base k f fd ps sp) (room : Room k X.A) (nore : NoRepr X.A) (hg : Gl X x) (hm : X.mg x = some (.ref f)) (hk : PySem.W.keepIn X.K (.ref f) = true) (hb : Binds X.K fd ps ds) (hd : Vals dvs ds) (hx : ∀ σ, PassesAt (L2.CX X.prog X.w) X σ (E σ))
    (ha : L2.PA X (e :: es) t) (hdb : (x == ("__debug__" : Str)) = false) (he : starEach (e :: es) X.env = (false, eval e X.env) :: starEach es X.env) (hpl : (backTo pos (starEach es X.env)).any (·.1) = false) :
    PE X (.Call (.Name x p) (e :: es) [] pos) (tCallSD sp dvs E t) :=
  ⟨fun pins s σ H Q I wish => wpAny_Call_Name_kw (ld_glob I hg hm (PySem.W.callWith_K (h₀ := X.base) I.ok.mod.kin hk
    (thn (ha.run pos pins s σ H _ I wish) fun us s1 ⟨vs, H1, I1, r, z⟩ => ⟨I1.kIn, run_fnG F room nore hb hd (hx σ) I1 r z⟩) he hpl) hdb)⟩
theorem pe_call0G (F : FnG X.prog X.w X.K X.mg X.base k f fd ps sp) (room : Room k X.A) (nore : NoRepr X.A) (hg : Gl X x) (hm : X.mg x = some (.ref f)) (hk : PySem.W.keepIn X.K (.ref f) = true) (hb : Binds X.K fd ps ds) (hd : Vals dvs ds) (hx : ∀ σ, PassesAt (L2.CX X.prog X.w) X σ (E σ))
    (hdb : (x == ("__debug__" : Str)) = false) : PE X (.Call (.Name x p) [] [] pos) (tCallSD sp dvs E tNil) :=
  ⟨fun pins s σ H Q I wish => wpAny_Call_Name_kw (ld_glob I hg hm (PySem.W.callWith_K0 I.kIn hk (run_fnG (us := []) F room nore hb hd (hx σ) I .nil wish)) hdb)⟩
end
end Pf

set_option Elab.async false
set_option linter.all false
set_option maxRecDepth 100000
/-! Places, slices, built-in functions. -/
namespace Pf
open PySem PySem.Spec L2

/-! ### x[i] -/
def opt {α β : Type} (o : Option α) (f : α → β) : Rs β := match o with
  | some a => .ok (f a)
  | none => .bad
def ixD : D → D → Rs D
  | .list xs, .int i => opt (atI xs i) id
  | .tuple xs, .int i => opt (atI xs i) id
  | .str x, .int i => opt (atI (cl x) i) fun c => .str (mk [c])
  | _, _ => .bad
theorem okk_opt {α : Type} {o : Option α} {f : α → D} {P : D → Prop} (h : Okk (opt o f) P) : ∃ a, o = some a ∧ P (f a) := by
  cases o with
  | some a => exact ⟨a, rfl, h⟩
  | none => exact h.elim
section
variable {K : PySem.W.Frag}
theorem at_some {α : Type} {xs : List α} {i : Int} {v : α} (h : atI xs i = some v) : ∃ j, ixN xs.length i = some j ∧ xs[j]? = some v := by
  unfold atI at h
  cases e : ixN xs.length i with
  | none => rw [e] at h; cases h
  | some j => rw [e] at h; exact ⟨j, rfl, h⟩
theorem dn_at {H : Hp} {vs : List V} {ds : List D} {i : Int} {d : D} (h : DnAll K H vs ds) (e : atI ds i = some d) : ∃ v, atI vs i = some v ∧ Dn K H v d := by
  obtain ⟨j, h1, h2⟩ := at_some e
  obtain ⟨v, h3, h4⟩ := dpAll_get h h2
  refine ⟨v, ?_, h4⟩
  unfold atI
  rw [dpAll_len h, h1]
  exact h3
theorem mem_at {α : Type} {xs : List α} {i : Int} {v : α} (h : atI xs i = some v) : v ∈ xs := let ⟨_, _, h2⟩ := at_some h; List.mem_of_getElem? h2
theorem asc_one {x : Str} {c : Nat} (h : asc x = true) (m : c ∈ cl x) : asc (mk [c]) = true := asc_sub h fun d hd => by
  rw [List.mem_singleton] at hd
  rw [hd]; exact m
theorem len_one (c : Nat) : (mk [c]).length ≤ LIM := by rw [len_mk]; show 1 ≤ LIM; decide
theorem ix_im : Im2 K (rIx K) ixD := by
  intro H O x y dx dy Q t hx hy h
  cases hx <;> cases hy <;> first | exact h.elim | skip
  · rename_i z h1 h2 i
    obtain ⟨c, e, h⟩ := okk_opt h
    exact .inr (.inr ⟨_, _, c, rfl, rfl, Nat.le_trans h2 lim_line, e, h _ _ (Same.refl _) (.str (asc_one h1 (mem_at e)) (len_one c))⟩)
  · rename_i a vs ds h1 h2 h3 i
    obtain ⟨d, e, h⟩ := okk_opt h
    obtain ⟨v, g1, g2⟩ := dn_at h3 e
    exact .inl ⟨_, _, _, v, rfl, rfl, (rd_sub h1).sq, g1, h _ _ (Same.refl _) g2⟩
  · rename_i a vs ds h1 h2 h3 i
    obtain ⟨d, e, h⟩ := okk_opt h
    obtain ⟨v, g1, g2⟩ := dn_at h3 e
    exact .inr (.inl ⟨_, _, _, v, rfl, rfl, sqT_sub h1, g1, h _ _ (Same.refl _) g2⟩)
end
/-- what is not written a:b -/
def noSlice : Expr → Bool
  | .Slice .. => false
  | _ => true
theorem plainIx_of {b : Expr} (h : noSlice b = true) : PlainIx b := fun o i => by cases b <;> first | rfl | cases h
section
variable {X : Cx} {xp : XP} {W : WX} {a b : Expr} {fa fb : Sto → Rs D} {pos : Pos}
theorem ce_ix (ha : CE X xp W a fa) (hb : CE X xp W b fb) (hs : noSlice b = true) : CE X xp W (.Subscript a b pos) (fun ρ => (fa ρ).bind fun x => (fb ρ).bind fun y => pur (ixD x y)) :=
  pe_imp (pe_ix ix_seq ha hb (plainIx_of hs)) fun _ _ _ h => rd2 ix_im h
/-- an item of a list of ours -/
theorem ce_oix {i : Nat} {x : Str} {p : Pos} (hN : X.N[i]? = some x) (hv : Vis X.env.scope x) (hd : (x == ("__debug__" : Str)) = false) (hcd : (x == ("__classdict__" : Str)) = false) (hb : CE X xp W b fb) (hs : noSlice b = true) :
    CE X xp W (.Subscript (.Name x p) b pos) (fun ρ => (getO ρ i).bind fun x => (fb ρ).bind fun y => pur (ixD x y)) :=
  pe_imp (pe_ix ix_seq (pe_var hN hv hd hcd) hb (plainIx_of hs)) fun σ H Q ⟨ρ, O, R, q⟩ => by
    have q : End X.K X.mg W O σ H (fun d H' => ∀ v, Dn X.K (msk H' O) v d → Q v H') ((getO ρ i).bind fun x => (fb ρ).bind fun y => pur (ixD x y)) := q
    unfold getO at q
    split at q
    · rename_i xs e
      by_cases hl : xs.length ≤ LIM
      · rw [if_pos hl] at q
        obtain ⟨v, h1, a, vs, rfl, h3, h4, h5⟩ := R.at_ i _ e
        have q : End X.K X.mg W O σ H (fun d H' => ∀ v, Dn X.K (msk H' O) v d → Q v H') ((fb ρ).bind fun y => pur (ixD (.list xs) y)) := q
        refine ⟨_, h1, ρ, O, R, (End.bind q).imp fun dy H2 _ s2 q2 vy hy => ?_⟩
        have q3 := end_pur q2
        cases hy <;> first | exact q3.elim | skip
        rename_i k
        obtain ⟨d, e2, q4⟩ := okk_opt q3
        obtain ⟨v, g1, g2⟩ := dn_at h5 e2
        exact .inl ⟨_, _, _, v, rfl, rfl, .inl (.inl (s2 _ _ h4)), g1, q4 _ (Same.refl _) v (dp_mono (msk_same s2) g2)⟩
      · rw [if_neg hl] at q; exact q.elim
    · exact q.elim
/-! ### x[a:b] -/
def partD : Option D → Rs (Option Int)
  | none => .ok none
  | some (.int i) => .ok (some i)
  | _ => .bad
def slD (x : D) (lo hi : Option Int) : Rs D := match x with
  | .list xs => .ok (.list (cut xs lo hi))
  | .tuple xs => .ok (.tuple (cut xs lo hi))
  | .str x => .ok (.str (mk (cut (cl x) lo hi)))
  | _ => .bad
def rdO (K : PySem.W.Frag) (mg : Str → Option Value) (xp : XP) (W : WX) (f : Sto → Rs (Option Int)) : TO := fun σ H Q => ∃ ρ O, Rel K xp σ H ρ O ∧ End K mg W O σ H (fun o H' => Q o H') (f ρ)
abbrev CO (X : Cx) (xp : XP) (W : WX) (e : Option Expr) (f : Sto → Rs (Option Int)) : Prop := PO X e (rdO X.K X.mg xp W f)
theorem po_imp {e : Option Expr} {t t' : TO} (h : PO X e t) (k : ∀ σ H Q, t' σ H Q → t σ H Q) : PO X e t' := ⟨fun pins s σ H Q I q => h.run pins s σ H Q I (k σ H Q q)⟩
theorem co_none : CO X xp W none (fun _ => .ok none) := po_imp po_none fun σ H Q ⟨ρ, O, R, q⟩ => q.ok
def asI : D → Rs (Option Int)
  | .int i => .ok (some i)
  | _ => .bad
theorem co_some (h : CE X xp W a fa) : CO X xp W (some a) (fun ρ => (fa ρ).bind asI) := po_imp (po_some h) fun σ H Q ⟨ρ, O, R, q⟩ => ⟨ρ, O, R, (End.bind q).imp fun d H' _ s k v hv => by
  cases hv <;> first | exact k.elim | exact ⟨_, rfl, k.ok⟩⟩
def rSl (K : PySem.W.Frag) : V → Option Int → Option Int → Hp → VK → Prop := fun x lo hi H Q => rSlL K x lo hi H Q ∨ (rSlA K x lo hi H Q ∨ rSlS x lo hi H Q)
theorem sl_all : SlR X (rSl X.K) := sl_list.or (sl_tupA.or sl_str)
theorem cutS_eq (z : Str) (lo hi : Option Int) : cutS z lo hi = mk (cut (cl z) lo hi) := by
  unfold cutS cut
  rw [len_cl]
theorem dnAll_cut {K : PySem.W.Frag} {H : Hp} {vs : List V} {ds : List D} (h : DnAll K H vs ds) (lo hi : Option Int) : DnAll K H (cutV vs lo hi) (cut ds lo hi) := by
  unfold cutV cut
  rw [dpAll_len h]
  exact dpAll_take _ (dpAll_drop _ h)
theorem cutV_whole {xs : List V} {lo hi : Option Int} (h : HT.sIx xs.length 0 lo = 0 ∧ HT.sIx xs.length xs.length hi = xs.length) : cutV xs lo hi = xs := by
  unfold cutV
  rw [h.1, h.2, List.drop_zero, Nat.sub_zero, List.take_length]
theorem sl_im {K : PySem.W.Frag} (H : Hp) (O : List Addr) (l u : Option Int) (vx : V) (dx : D) (Q : VK) (t : Thr H O) (hx : Dn K (msk H O) vx dx) (h : Okk (slD dx l u) fun d => ∀ v H', Same H H' → Dn K (msk H' O) v d → Q v H') : rSl K vx l u H Q := by
  cases hx <;> first | exact h.elim | skip
  · rename_i z h1 h2
    refine .inr (.inr ⟨_, rfl, Nat.le_trans h2 lim_line, ?_⟩)
    rw [cutS_eq]
    exact h _ _ (Same.refl _) (.str (asc_sub h1 fun c hc => cut_mem hc) (by rw [len_mk]; exact Nat.le_trans (cut_le _ _ _) (by rw [← len_cl]; exact h2)))
  · rename_i b vs ds h1 h2 h3
    exact .inl ⟨_, _, rfl, (rd_sub h1).sq, fun p hp => h _ _ (same_new hp) (dn_newL t hp (Nat.le_trans (cutV_length _ _ _) h2) (dnAll_cut h3 l u))⟩
  · rename_i b vs ds h1 h2 h3
    refine .inr (.inl ⟨_, _, rfl, sqT_sub h1, fun e => ?_, fun _ p hp => h _ _ (same_new hp) (dn_newT t hp (Nat.le_trans (cutV_length _ _ _) h2) (dnAll_cut h3 l u))⟩)
    have := dnAll_cut h3 l u
    rw [cutV_whole e] at this
    exact h _ _ (Same.refl _) (.tup h1 h2 this)
variable {lo hi : Option Expr} {fl fh : Sto → Rs (Option Int)} {p2 : Pos}
def slF (fa : Sto → Rs D) (fl fh : Sto → Rs (Option Int)) : Sto → Rs D := fun ρ => (fa ρ).bind fun x => (fl ρ).bind fun l => (fh ρ).bind fun u => pur (slD x l u)
theorem ce_sl (ha : CE X xp W a fa) (hl : CO X xp W lo fl) (hh : CO X xp W hi fh) : CE X xp W (.Subscript a (.Slice lo hi none p2) pos) (slF fa fl fh) :=
  pe_imp (pe_slice sl_all ha hl hh) fun σ H Q ⟨ρ, O, R, q⟩ => ⟨ρ, O, R, (End.bind q).imp fun dx H1 _ s1 q1 vx hx => ⟨ρ, O, R.mono s1, (End.bind q1).imp fun l H2 _ s2 q2 => ⟨ρ, O, (R.mono s1).mono s2, (End.bind q2).imp fun u H3 _ s3 q3 => by
    exact sl_im H3 O l u vx dx Q (((R.mono s1).mono s2).mono s3).thr (dp_mono (msk_same s3) (dp_mono (msk_same s2) hx)) ((end_pur q3).imp fun d k v H' s h => k H' s v h)⟩⟩⟩
end

/-! ### built-in functions -/
/-- the reading r of a call serves g -/
def ImC (K : PySem.W.Frag) (r : List V → Hp → VK → Prop) (g : List D → Rs D) : Prop := ∀ (H : Hp) (O : List Addr) (xs : List V) (ds : List D) (Q : VK), Thr H O → DnAll K (msk H O) xs ds →
  Okk (g ds) (fun d => ∀ v H', Same H H' → Dn K (msk H' O) v d → Q v H') → r xs H Q
/-- .. whose arguments are only looked at, the answer flat -/
def ImCL (K : PySem.W.Frag) (r : List V → Hp → VK → Prop) (g : D → Rs D) : Prop := ∀ (H : Hp) (x : V) (d : D) (Q : VK), Dn K H x d → Okk (g d) (fun d => ∀ v H', Same H H' → (∀ F, Dn K F v d) → Q v H') → r [x] H Q
section
variable {X : Cx} {xp : XP} {W : WX} {e : Expr} {es : List Expr} {fs : Sto → Rs (List D)} {fa : Sto → Rs D} {r : List V → Hp → VK → Prop} {g : List D → Rs D} {g1 : D → Rs D} {x : Str} {id T : String} {p pos : Pos}
theorem rd_call {K : PySem.W.Frag} {mg : Str → Option Value} (im : ImC K r g) {σ : L2.St} {H : Hp} {Q : VK} (h : rdE K mg xp W (fun ρ => (fs ρ).bind fun ds => pur (g ds)) σ H Q) : tCB r (rdA K mg xp W fs) σ H Q := by
  obtain ⟨ρ, O, R, q⟩ := h
  exact ⟨ρ, O, R, (End.bind q).imp fun ds H1 _ s1 q1 vs hv => im H1 O vs ds Q (R.mono s1).thr hv ((end_pur q1).imp fun d k v H' s h => k H' s v h)⟩
theorem ce_callB (hc : CallR X (.builtin id) r) (im : ImC X.K r g) (hg : Gl X x) (hm : X.mg x = none) (hv : bootBuiltins x = some (.builtin id)) (ha : CA X xp W (e :: es) fs) (hn : x ≠ "__name__") (hdb : (x == ("__debug__" : Str)) = false)
    (he : starEach (e :: es) X.env = (false, eval e X.env) :: starEach es X.env) (hpl : (backTo pos (starEach es X.env)).any (·.1) = false) : CE X xp W (.Call (.Name x p) (e :: es) [] pos) (fun ρ => (fs ρ).bind fun ds => pur (g ds)) :=
  pe_imp (pe_callB hc hg hm hv ha hn hdb he hpl) fun _ _ _ h => rd_call im h
theorem ce_callTy (hc : CallR X (.type T) r) (im : ImC X.K r g) (hg : Gl X x) (hm : X.mg x = none) (hv : bootBuiltins x = some (.type T)) (ha : CA X xp W (e :: es) fs) (hn : x ≠ "__name__") (hdb : (x == ("__debug__" : Str)) = false)
    (he : starEach (e :: es) X.env = (false, eval e X.env) :: starEach es X.env) (hpl : (backTo pos (starEach es X.env)).any (·.1) = false) : CE X xp W (.Call (.Name x p) (e :: es) [] pos) (fun ρ => (fs ρ).bind fun ds => pur (g ds)) :=
  pe_imp (pe_callTy hc hg hm hv ha hn hdb he hpl) fun _ _ _ h => rd_call im h
/-- one argument, only looked at -/
theorem ce_callL (hc : CallR X (.builtin id) r) (im : ImCL X.K r g1) (hg : Gl X x) (hm : X.mg x = none) (hv : bootBuiltins x = some (.builtin id)) (ha : CL X xp W e fa) (hn : x ≠ "__name__") (hdb : (x == ("__debug__" : Str)) = false)
    (he : starEach [e] X.env = (false, eval e X.env) :: starEach [] X.env) (hpl : (backTo pos (starEach [] X.env)).any (·.1) = false) : CE X xp W (.Call (.Name x p) [e] [] pos) (fun ρ => (fa ρ).bind fun d => pur (g1 d)) :=
  pe_imp (pe_callB hc hg hm hv (pa_cons ha pa_nil he) hn hdb he hpl) fun σ H Q ⟨ρ, O, R, q⟩ =>
    ⟨ρ, O, R, (End.bind q).imp fun d H1 _ s1 q1 v hv => im H1 v d Q hv ((end_pur q1).imp fun d k v H' s h => k H' s v (h _))⟩
end
end Pf

set_option Elab.async false
set_option linter.all false
set_option maxRecDepth 100000
/-! The built-in functions, each with what it computes. -/
namespace Pf
open PySem PySem.Spec L2

def numS (i : Int) : Str := Str.ofString (toString i)
/-- all ints, all bools -/
def intsOf : List D → Option (List Int)
  | [] => some []
  | .int i :: r => (intsOf r).map (i :: ·)
  | _ => none
def boolsOf : List D → Option (List Bool)
  | [] => some []
  | .bool i :: r => (boolsOf r).map (i :: ·)
  | _ => none
def strsOf : List D → Option (List Str)
  | [] => some []
  | .str i :: r => (strsOf r).map (i :: ·)
  | _ => none
/-- Python's order of data of one shape -/
def leOrd (x y : D) : Bool := !PySem.W.dataLt y x
def sortL (xs : List D) : List D := xs.mergeSort leOrd
def allAlike (xs : List D) : Bool := xs.all fun x => xs.all fun y => PySem.W.alike x y
def sortable (xs : List D) : Bool := (xs.all fun x => match x with | .tuple (_ :: _) => true | _ => false) || xs.all fun x => match x with | .tuple _ => false | .none => false | _ => true
def noneFree (xs : List D) : Bool := xs.all fun x => match x with | .none => false | _ => true
def reprD (d : D) : Rs D := if d.hasDict = false ∧ d.depth ≤ 64 ∧ d.showable = true ∧ d.shown.length ≤ LIM ∧ asc d.shown = true then .ok (.str d.shown) else .bad
def lenD : D → Rs D
  | .str x => .ok (.int x.length)
  | .list xs => .ok (.int xs.length)
  | .tuple xs => .ok (.int xs.length)
  | .dict xs => .ok (.int xs.length)
  | _ => .bad
section
variable {K : PySem.W.Frag} {H : Hp}
theorem ints_of : ∀ {vs : List V} {ds : List D} {ns : List Int}, DnAll K H vs ds → intsOf ds = some ns → vs = ns.map V.int
  | _, _, _, .nil, e => by cases e; rfl
  | _, _, _, .cons h t, e => by
    cases h <;> first | cases e; done | skip
    rename_i i
    unfold intsOf at e
    cases q : intsOf _ with
    | none => rw [q] at e; cases e
    | some ms => rw [q] at e; cases e; rw [ints_of t q]; rfl
theorem bools_of : ∀ {vs : List V} {ds : List D} {ns : List Bool}, DnAll K H vs ds → boolsOf ds = some ns → vs = ns.map V.bl
  | _, _, _, .nil, e => by cases e; rfl
  | _, _, _, .cons h t, e => by
    cases h <;> first | cases e; done | skip
    rename_i i
    unfold boolsOf at e
    cases q : boolsOf _ with
    | none => rw [q] at e; cases e
    | some ms => rw [q] at e; cases e; rw [bools_of t q]; rfl
theorem strs_of : ∀ {vs : List V} {ds : List D} {ns : List Str}, DnAll K H vs ds → strsOf ds = some ns → vs = ns.map V.str ∧ (∀ x ∈ ns, asc x = true ∧ x.length ≤ LIM)
  | _, _, _, .nil, e => by cases e; exact ⟨rfl, fun x hx => by cases hx⟩
  | _, _, _, .cons h t, e => by
    cases h <;> first | cases e; done | skip
    rename_i i h1 h2
    unfold strsOf at e
    cases q : strsOf _ with
    | none => rw [q] at e; cases e
    | some ms =>
      rw [q] at e
      cases e
      obtain ⟨g1, g2⟩ := strs_of t q
      refine ⟨by rw [g1]; rfl, fun x hx => ?_⟩
      rcases List.mem_cons.mp hx with rfl | hx
      · exact ⟨h1, h2⟩
      · exact g2 x hx
end
inductive BI where
  | max2 | min2 | abs | sum | anyy | alll | min1 | max1 | sorted | repr | ord
  deriving DecidableEq
inductive TyI where
  | int | str | list | tuple
  deriving DecidableEq
def BI.id : BI → String
  | .max2 => "max" | .min2 => "min" | .abs => "abs" | .sum => "sum" | .anyy => "any" | .alll => "all" | .min1 => "min" | .max1 => "max" | .sorted => "sorted" | .repr => "repr" | .ord => "ord"
def TyI.id : TyI → String
  | .int => "int" | .str => "str" | .list => "list" | .tuple => "tuple"
def biD : BI → List D → Rs D
  | .max2, [.int i, .int j] => .ok (.int (if j > i then j else i))
  | .min2, [.int i, .int j] => .ok (.int (if j < i then j else i))
  | .abs, [.int i] => .ok (.int (if i < 0 then -i else i))
  | .sum, [.list xs] => opt (intsOf xs) fun ns => .int ns.sum
  | .anyy, [.list xs] => opt (boolsOf xs) fun bs => .bool (bs.any id)
  | .alll, [.list xs] => opt (boolsOf xs) fun bs => .bool (bs.all id)
  | .min1, [.list xs] => (opt (intsOf xs) id).bind fun ns => if 0 < ns.length then .ok (.int (ns.foldl min (ns.headD 0))) else .bad
  | .max1, [.list xs] => (opt (intsOf xs) id).bind fun ns => if 0 < ns.length then .ok (.int (ns.foldl max (ns.headD 0))) else .bad
  | .sorted, [.list xs] => if allAlike xs = true ∧ sortable xs = true ∧ (xs.all fun x => decide (x.depth ≤ 64)) = true ∧ PyData.hasDictAll xs = false then .ok (.list (sortL xs)) else .bad
  | .repr, [d] => reprD d
  | .ord, [.str x] => if x.length = 1 then .ok (.int ((cl x).headD 0 : Nat)) else .bad
  | _, _ => .bad
def tiD : TyI → List D → Rs D
  | .int, [.int i] => .ok (.int i)
  | .int, [.bool b] => .ok (.int (if b then 1 else 0))
  | .int, [.str x] => if x.length ≤ 640 then opt (PySem.intText? x) .int else .bad
  | .str, [.int i] => if i.natAbs.log2 < 1920 ∧ asc (numS i) = true ∧ (numS i).length ≤ LIM then .ok (.str (numS i)) else .bad
  | .str, [.str x] => .ok (.str x)
  | .list, [.list xs] => .ok (.list xs)
  | .list, [.tuple xs] => .ok (.list xs)
  | .tuple, [.list xs] => .ok (.tuple xs)
  | .tuple, [.tuple xs] => .ok (.tuple xs)
  | _, _ => .bad
section
variable {X : Cx}
/-- repr of data -/
def rRepr (K : PySem.W.Frag) : List V → Hp → VK → Prop := fun xs H Q => ∃ x d, xs = [x] ∧ Dp K H x d ∧ d.hasDict = false ∧ d.depth ≤ 64 ∧ d.showable = true ∧ d.shown.length ≤ LIM ∧ Q (.str d.shown) H
theorem call_reprD (nore : NoRepr X.A) (hu : X.A.units + 70 < cLine) : CallR X (.builtin "repr") (rRepr X.K) := by
  rintro pins s σ H xs us Q I r ⟨x, d, rfl, hd, nod, dep, sho, sz, q⟩
  obtain ⟨u, rfl, ru⟩ := Vals.one r
  have sz' : d.shown.length ≤ sizeLine := Nat.le_trans sz lim_line
  cases hd with
  | non =>
    cases ru
    exact PySem.P.repr_of_none ⟨V.str _, H, I.tok _, ⟨_, rfl⟩, q⟩
  | bl b =>
    cases ru
    refine PySem.P.repr_of_bool ⟨V.str _, H, I.tok _, ⟨_, rfl⟩, ?_⟩
    simp only [PyData.shown] at q
    exact q
  | int i =>
    obtain ⟨t, rfl⟩ := ru
    simp only [PyData.showable, decide_eq_true_eq] at sho
    refine PySem.P.repr_of_int sho ⟨V.str _, H, I.tok _, ⟨_, rfl⟩, ?_⟩
    simp only [PyData.shown] at q
    exact q
  | str z =>
    obtain ⟨t, rfl⟩ := ru
    simp only [PyData.shown] at q sz'
    exact PySem.P.repr_of_str ⟨V.str _, H, I.tok _, ⟨_, rfl⟩, q⟩ sz'
  | lst h1 h2 =>
    obtain ⟨as, rd⟩ := Dp.reads I _ _ _ (Dp.lst h1 h2) ru
    cases ru
    exact repr_of_reads' rd sho (PyData.noDict_hsm nod) nore (by omega) (fun _ _ g => g) (fun h' u tk keep => ⟨V.str _, H, I.kept (t' := tk) keep, ⟨_, rfl⟩, q⟩) sz'
  | tup h1 h2 =>
    obtain ⟨as, rd⟩ := Dp.reads I _ _ _ (Dp.tup h1 h2) ru
    cases ru
    exact repr_of_reads' rd sho (PyData.noDict_hsm nod) nore (by omega) (fun _ _ g => g) (fun h' u tk keep => ⟨V.str _, H, I.kept (t' := tk) keep, ⟨_, rfl⟩, q⟩) sz'
/-- sorted of data of one shape -/
def rSortD (K : PySem.W.Frag) : List V → Hp → VK → Prop := fun vs H Q => ∃ (a : Addr) (bs : List (V × D)), vs = [.ref a] ∧ SqL K H a (bs.map (·.1)) ∧ (∀ b ∈ bs, Dp K H b.1 b.2) ∧ PySem.W.AllAlike (bs.map (·.2)) ∧ PySem.W.Sortable (bs.map (·.2)) ∧ (∀ b ∈ bs, b.2.depth ≤ 64) ∧
  ∀ p, H p = none → Q (.ref p) (upd H p (.lst ((bs.mergeSort (PySem.W.dataLe false fun b => b.2)).map (·.1))))
theorem each_of {R : Value → V × D → Prop} : ∀ {us : List Value} {bs : List (V × D)}, Vals (bs.map (·.1)) us → (∀ u b, b ∈ bs → RelV b.1 u → R u b) → PySem.W.EachIs R us bs
  | _, [], .nil, _ => .nil
  | _, b :: bs, .cons r t, h => .cons (h _ b (by simp) r) (each_of t fun u c hc => h u c (List.mem_cons_of_mem _ hc))
theorem vals_each : ∀ {us : List Value} {bs : List (V × D)}, PySem.W.EachIs (fun u b => RelV b.1 u) us bs → Vals (bs.map (·.1)) us
  | _, _, .nil => .nil
  | _, _, .cons r t => .cons r (vals_each t)
theorem call_sortD (hu : X.A.units + 70 < cLine) : CallR X (.builtin "sorted") (rSortD X.K) := by
  rintro pins s σ H xs us Q I r ⟨a, bs, rfl, hs, hd, al, so, dep, q⟩
  obtain ⟨its, rv, pl, sz⟩ := I.list hs
  rw [Vals.ref1 r]
  have lenB : bs.length ≤ sizeLine := by rw [List.length_map] at sz; exact sz
  refine PySem.W.sorted_data (R := fun u b => RelV b.1 u) (enc := fun b : V × D => b.2) pl.isList (each_of rv fun _ _ _ r => r) (each_of rv fun u b hb r => Dp.reads I _ _ _ (hd b hb) r) al so lenB (fun b hb => by have := dep b hb; omega) fun out ol oe => ?_
  obtain ⟨ep, atp⟩ := PyProof.Rows.sortedAll_at s.heap its out.toArray
  have lenS : ((bs.mergeSort (PySem.W.dataLe false fun b => b.2)).map (·.1)).length ≤ sizeLine := by rw [List.length_map, List.length_mergeSort]; exact lenB
  exact ⟨V.ref _, upd H (s.heap.objs.size + 1) (.lst _), I.laid (t' := s.toks) (fun _ _ => PyProof.Rows.sortedAll_old) (Nat.le_succ _) ⟨lenS, out, ep, vals_each oe, atp⟩, rfl, q _ (I.hok.fresh (Nat.le_succ _))⟩
def rBI (K : PySem.W.Frag) : BI → List V → Hp → VK → Prop
  | .max2 => fun xs H Q => ∃ i j, xs = [.int i, .int j] ∧ Q (.int (if j > i then j else i)) H
  | .min2 => fun xs H Q => ∃ i j, xs = [.int i, .int j] ∧ Q (.int (if j < i then j else i)) H
  | .abs => fun xs H Q => ∃ i, xs = [.int i] ∧ Q (.int (if i < 0 then -i else i)) H
  | .sum => rSum K
  | .anyy => rAny K
  | .alll => rAll K
  | .min1 => rMin K
  | .max1 => rMax K
  | .sorted => rSortD K
  | .repr => rRepr K
  | .ord => fun xs H Q => ∃ x, xs = [.str x] ∧ x.length = 1 ∧ Q (.int (x.cps.getD 0 0 : Nat)) H
theorem bi_op (hc : X.calm = true) (nore : NoRepr X.A) (hu : X.A.units + 70 < cLine) : ∀ b : BI, CallR X (.builtin b.id) (rBI X.K b)
  | .max2 => call_max2 hc
  | .min2 => call_min2 hc
  | .abs => call_abs
  | .sum => cr_sum hc
  | .anyy => cr_any hc
  | .alll => cr_all hc
  | .min1 => cr_min hc
  | .max1 => cr_max hc
  | .sorted => call_sortD hu
  | .repr => call_reprD nore hu
  | .ord => call_ord
def rTI (K : PySem.W.Frag) : TyI → List V → Hp → VK → Prop
  | .int => fun xs H Q => ((∃ i, xs = [.int i] ∧ Q (.int i) H) ∨ ∃ k, xs = [.bl k] ∧ Q (.int (if k then 1 else 0)) H) ∨ (∃ a n, xs = [.str a] ∧ PySem.intText? a = some n ∧ a.length ≤ 640 ∧ Q (.int n) H)
  | .str => fun xs H Q => (∃ i, xs = [.int i] ∧ i.natAbs.log2 < 1920 ∧ Q (.str (numS i)) H) ∨ ∃ a, xs = [.str a] ∧ Q (.str a) H
  | .list => fun xs H Q => ∃ p ys, xs = [.ref p] ∧ (SqL K H p ys ∨ SqT K H p ys) ∧ ∀ l, H l = none → Q (.ref l) (upd H l (.lst ys))
  | .tuple => fun xs H Q => ∃ p ys, xs = [.ref p] ∧ ((SqL K H p ys ∧ ∀ l, H l = none → Q (.ref l) (upd H l (.tup ys))) ∨ (SqT K H p ys ∧ Q (.ref p) H))
theorem ti_op : ∀ b : TyI, CallR X (.type b.id) (rTI X.K b)
  | .int => call_int1.or call_int_str
  | .str => call_str_int.or SkE.call_str_str
  | .list => call_list_of
  | .tuple => call_tuple_of
end
section
variable {K : PySem.W.Frag}
theorem okk_ite {c : Prop} [Decidable c] {r : Rs D} {P : D → Prop} (h : Okk (if c then r else .bad) P) : c ∧ Okk r P := by
  by_cases e : c
  · rw [if_pos e] at h; exact ⟨e, h⟩
  · rw [if_neg e] at h; exact h.elim
theorem foldl_min {ns : List Int} : ∀ (m : Int), (∀ y ∈ ns, ns.foldl min m ≤ y) ∧ ns.foldl min m ≤ m ∧ (ns.foldl min m = m ∨ ns.foldl min m ∈ ns) := by
  induction ns with
  | nil => intro m; exact ⟨fun y h => (by cases h), Int.le_refl _, .inl rfl⟩
  | cons n ns ih =>
    intro m
    rw [List.foldl_cons]
    obtain ⟨h1, h2, h3⟩ := ih (min m n)
    refine ⟨fun y hy => ?_, by omega, ?_⟩
    · rcases List.mem_cons.mp hy with rfl | hy
      · omega
      · exact h1 y hy
    · rcases h3 with h3 | h3
      · rw [h3]
        by_cases e : m ≤ n
        · rw [Int.min_eq_left e]; exact .inl rfl
        · rw [Int.min_eq_right (by omega)]; exact .inr (by simp)
      · exact .inr (List.mem_cons_of_mem _ h3)
theorem foldl_max {ns : List Int} : ∀ (m : Int), (∀ y ∈ ns, y ≤ ns.foldl max m) ∧ m ≤ ns.foldl max m ∧ (ns.foldl max m = m ∨ ns.foldl max m ∈ ns) := by
  induction ns with
  | nil => intro m; exact ⟨fun y h => (by cases h), Int.le_refl _, .inl rfl⟩
  | cons n ns ih =>
    intro m
    rw [List.foldl_cons]
    obtain ⟨h1, h2, h3⟩ := ih (max m n)
    refine ⟨fun y hy => ?_, by omega, ?_⟩
    · rcases List.mem_cons.mp hy with rfl | hy
      · omega
      · exact h1 y hy
    · rcases h3 with h3 | h3
      · rw [h3]
        by_cases e : n ≤ m
        · rw [Int.max_eq_left e]; exact .inl rfl
        · rw [Int.max_eq_right (by omega)]; exact .inr (by simp)
      · exact .inr (List.mem_cons_of_mem _ h3)
theorem min_is {ns : List Int} (h : 0 < ns.length) {m : Int} (hm : m ∈ ns) (hl : ∀ y ∈ ns, m ≤ y) : m = ns.foldl min (ns.headD 0) := by
  obtain ⟨h1, h2, h3⟩ := foldl_min (ns := ns) (ns.headD 0)
  have hh : ns.headD 0 ∈ ns := by
    cases ns with
    | nil => cases h
    | cons a r => simp
  have := h1 m hm
  rcases h3 with h3 | h3
  · have := hl _ hh; omega
  · have := hl _ h3; omega
theorem max_is {ns : List Int} (h : 0 < ns.length) {m : Int} (hm : m ∈ ns) (hl : ∀ y ∈ ns, y ≤ m) : m = ns.foldl max (ns.headD 0) := by
  obtain ⟨h1, h2, h3⟩ := foldl_max (ns := ns) (ns.headD 0)
  have hh : ns.headD 0 ∈ ns := by
    cases ns with
    | nil => cases h
    | cons a r => simp
  have := h1 m hm
  rcases h3 with h3 | h3
  · have := hl _ hh; omega
  · have := hl _ h3; omega
theorem zip_fst {H : Hp} : ∀ {vs : List V} {ds : List D}, DnAll K H vs ds → (vs.zip ds).map (·.1) = vs ∧ (vs.zip ds).map (·.2) = ds ∧ ∀ b ∈ vs.zip ds, Dn K H b.1 b.2
  | _, _, .nil => ⟨rfl, rfl, fun b hb => by cases hb⟩
  | _, _, .cons h t => by
    obtain ⟨h1, h2, h3⟩ := zip_fst t
    refine ⟨by rw [List.zip_cons_cons, List.map_cons, h1], by rw [List.zip_cons_cons, List.map_cons, h2], fun b hb => ?_⟩
    rw [List.zip_cons_cons] at hb
    rcases List.mem_cons.mp hb with rfl | hb
    · exact h
    · exact h3 b hb
theorem dnAll_of {H : Hp} : ∀ {bs : List (V × D)}, (∀ b ∈ bs, Dn K H b.1 b.2) → DnAll K H (bs.map (·.1)) (bs.map (·.2))
  | [], _ => .nil
  | b :: bs, h => .cons (h b (by simp)) (dnAll_of fun c hc => h c (List.mem_cons_of_mem _ hc))
theorem nodict_mem : ∀ {xs : List D} {x : D}, PyData.hasDictAll xs = false → x ∈ xs → x.hasDict = false
  | [], _, _, h => by cases h
  | y :: ys, x, e, h => by
    simp only [PyData.hasDictAll, Bool.or_eq_false_iff] at e
    rcases List.mem_cons.mp h with rfl | h
    · exact e.1
    · exact nodict_mem e.2 h
theorem sortable_of {xs : List D} (h : sortable xs = true) : PySem.W.Sortable xs := by
  rcases Bool.or_eq_true _ _ ▸ h with h | h
  · refine .inl fun d hd => ?_
    have := List.all_eq_true.mp h d hd
    split at this
    · exact ⟨_, _, rfl⟩
    · cases this
  · refine .inr fun d hd => ?_
    have := List.all_eq_true.mp h d hd
    refine ⟨fun e => ?_, fun ys e => ?_⟩ <;> (subst e; cases this)
theorem sortL_zip (bs : List (V × D)) : (bs.mergeSort (PySem.W.dataLe false fun b => b.2)).map (·.2) = sortL (bs.map (·.2)) :=
  PySem.W.sort_maps (Prod.snd : V × D → D) fun _ _ _ _ => rfl
theorem bi_im (b : BI) : ImC K (rBI K b) (biD b) := by
  intro H O xs ds Q t ha h
  cases b
  case max2 =>
    match ds, ha, h with
    | [.int i, .int j], .cons (.int _) (.cons (.int _) .nil), h => exact ⟨_, _, rfl, h _ _ (Same.refl _) (.int _)⟩
  case min2 =>
    match ds, ha, h with
    | [.int i, .int j], .cons (.int _) (.cons (.int _) .nil), h => exact ⟨_, _, rfl, h _ _ (Same.refl _) (.int _)⟩
  case abs =>
    match ds, ha, h with
    | [.int i], .cons (.int _) .nil, h => exact ⟨_, rfl, h _ _ (Same.refl _) (.int _)⟩
  case sum =>
    match ds, ha, h with
    | [.list xs], .cons (.lst h1 h2 h3) .nil, h =>
      obtain ⟨ns, e, h⟩ := okk_opt h
      have := ints_of h3 e
      subst this
      exact ⟨_, ns, rfl, (rd_sub h1).sq, h _ _ (Same.refl _) (.int _)⟩
  case anyy =>
    match ds, ha, h with
    | [.list xs], .cons (.lst h1 h2 h3) .nil, h =>
      obtain ⟨ns, e, h⟩ := okk_opt h
      have := bools_of h3 e
      subst this
      exact ⟨_, ns, rfl, (rd_sub h1).sq, h _ _ (Same.refl _) (.bl _)⟩
  case alll =>
    match ds, ha, h with
    | [.list xs], .cons (.lst h1 h2 h3) .nil, h =>
      obtain ⟨ns, e, h⟩ := okk_opt h
      have := bools_of h3 e
      subst this
      exact ⟨_, ns, rfl, (rd_sub h1).sq, h _ _ (Same.refl _) (.bl _)⟩
  case min1 =>
    match ds, ha, h with
    | [.list xs], .cons (.lst h1 h2 h3) .nil, h =>
      have h : Okk ((opt (intsOf xs) id).bind fun ns => if 0 < ns.length then .ok (.int (ns.foldl min (ns.headD 0))) else .bad) _ := h
      cases e : intsOf xs with
      | none => rw [e] at h; exact h.elim
      | some ns =>
        rw [e] at h
        obtain ⟨h4, h⟩ := okk_ite h
        have := ints_of h3 e
        subst this
        refine ⟨_, ns, rfl, (rd_sub h1).sq, h4, fun m hm hl => ?_⟩
        rw [min_is h4 hm hl]
        exact h _ _ (Same.refl _) (.int _)
  case max1 =>
    match ds, ha, h with
    | [.list xs], .cons (.lst h1 h2 h3) .nil, h =>
      have h : Okk ((opt (intsOf xs) id).bind fun ns => if 0 < ns.length then .ok (.int (ns.foldl max (ns.headD 0))) else .bad) _ := h
      cases e : intsOf xs with
      | none => rw [e] at h; exact h.elim
      | some ns =>
        rw [e] at h
        obtain ⟨h4, h⟩ := okk_ite h
        have := ints_of h3 e
        subst this
        refine ⟨_, ns, rfl, (rd_sub h1).sq, h4, fun m hm hl => ?_⟩
        rw [max_is h4 hm hl]
        exact h _ _ (Same.refl _) (.int _)
  case sorted =>
    match ds, ha, h with
    | [.list xs], .cons (.lst (xs := vs) h1 h2 h3) .nil, h =>
      obtain ⟨⟨c1, c2, c3, c4⟩, h⟩ := okk_ite h
      obtain ⟨z1, z2, z3⟩ := zip_fst h3
      refine ⟨_, vs.zip xs, rfl, by rw [z1]; exact (rd_sub h1).sq, fun b hb => ?_, ?_, ?_, fun b hb => ?_, fun p hp => ?_⟩
      · refine dn_dp (dp_mono msk_sub (z3 b hb)) (nodict_mem c4 ?_)
        rw [← z2]
        exact List.mem_map_of_mem hb
      · rw [z2]
        exact fun d hd d' hd' => List.all_eq_true.mp (List.all_eq_true.mp c1 d hd) d' hd'
      · rw [z2]; exact sortable_of c2
      · refine of_decide_eq_true (List.all_eq_true.mp c3 b.2 ?_)
        rw [← z2]
        exact List.mem_map_of_mem hb
      · have dn := dnAll_of (K := K) (H := msk H O) (bs := (vs.zip xs).mergeSort (PySem.W.dataLe false fun b => b.2)) fun b hb => z3 b (List.mem_mergeSort.mp hb)
        rw [sortL_zip, z2] at dn
        refine h _ _ (same_new hp) (dn_newL t hp ?_ dn)
        rw [List.length_map, List.length_mergeSort, ← List.length_map (f := (·.1)), z1]
        exact h2
  case repr =>
    match ds, ha, h with
    | [d], .cons (v := v) hv .nil, h =>
      obtain ⟨⟨c1, c2, c3, c4, c5⟩, h⟩ := okk_ite h
      exact ⟨v, d, rfl, dn_dp (dp_mono msk_sub hv) c1, c1, c2, c3, c4, h _ _ (Same.refl _) (.str c5 c4)⟩
  case ord =>
    match ds, ha, h with
    | [.str x], .cons (.str h1 h2) .nil, h =>
      obtain ⟨c1, h⟩ := okk_ite h
      refine ⟨x, rfl, c1, ?_⟩
      have e : x.cps.getD 0 0 = (cl x).headD 0 := by
        have : x.cps.getD 0 0 = x.cps.toList.getD 0 0 := by simp [Array.getD_eq_getD_getElem?]
        rw [this]
        show x.cps.toList.getD 0 0 = x.cps.toList.headD 0
        cases x.cps.toList <;> rfl
      rw [e]
      exact h _ _ (Same.refl _) (.int _)
theorem ti_im (b : TyI) : ImC K (rTI K b) (tiD b) := by
  intro H O xs ds Q t ha h
  cases b
  case int =>
    match ds, ha, h with
    | [.int i], .cons (.int _) .nil, h => exact .inl (.inl ⟨_, rfl, h _ _ (Same.refl _) (.int _)⟩)
    | [.bool b], .cons (.bl _) .nil, h => exact .inl (.inr ⟨_, rfl, h _ _ (Same.refl _) (.int _)⟩)
    | [.str x], .cons (.str h1 h2) .nil, h =>
      obtain ⟨c1, h⟩ := okk_ite h
      obtain ⟨n, e, h⟩ := okk_opt h
      exact .inr ⟨_, n, rfl, e, c1, h _ _ (Same.refl _) (.int _)⟩
  case str =>
    match ds, ha, h with
    | [.int i], .cons (.int _) .nil, h =>
      obtain ⟨⟨c1, c2, c3⟩, h⟩ := okk_ite h
      exact .inl ⟨_, rfl, c1, h _ _ (Same.refl _) (.str c2 c3)⟩
    | [.str x], .cons (.str h1 h2) .nil, h => exact .inr ⟨_, rfl, h _ _ (Same.refl _) (.str h1 h2)⟩
  case list =>
    match ds, ha, h with
    | [.list xs], .cons (.lst h1 h2 h3) .nil, h => exact ⟨_, _, rfl, .inl (rd_sub h1).sq, fun l hl => h _ _ (same_new hl) (dn_newL t hl h2 h3)⟩
    | [.tuple xs], .cons (.tup h1 h2 h3) .nil, h => exact ⟨_, _, rfl, .inr (sqT_sub h1), fun l hl => h _ _ (same_new hl) (dn_newL t hl h2 h3)⟩
  case tuple =>
    match ds, ha, h with
    | [.list xs], .cons (.lst h1 h2 h3) .nil, h => exact ⟨_, _, rfl, .inl ⟨(rd_sub h1).sq, fun l hl => h _ _ (same_new hl) (dn_newT t hl h2 h3)⟩⟩
    | [.tuple xs], .cons (.tup h1 h2 h3) .nil, h => exact ⟨_, _, rfl, .inr ⟨sqT_sub h1, h _ _ (Same.refl _) (.tup h1 h2 h3)⟩⟩
def rLen (K : PySem.W.Frag) : List V → Hp → VK → Prop := fun xs H Q => (∃ x n, xs = [x] ∧ LenV K x H n ∧ Q (.int n) H) ∨ ∃ a kvs, xs = [V.ref a] ∧ H a = some (.dK kvs) ∧ Q (.int kvs.length) H
theorem call_lenA {X : Cx} : CallR X (.builtin "len") (rLen X.K) := call_len.or call_lenD
theorem dpKV_len {H : Hp} : ∀ {vs : List (Key × V)} {ds : List (D × D)}, DnKV K H vs ds → vs.length = ds.length
  | _, _, .nil => rfl
  | _, _, .cons _ t => congrArg Nat.succ (dpKV_len t)
theorem len_im : ImCL K (rLen K) lenD := by
  intro H x d Q hx h
  cases hx <;> first | exact h.elim | skip
  · rename_i z h1 h2
    exact .inl ⟨_, _, rfl, ⟨Nat.le_trans h2 lim_line, rfl⟩, h _ _ (Same.refl _) fun _ => .int _⟩
  · rename_i a vs ds h1 h2 h3
    have e := dpAll_len h3
    exact .inl ⟨_, _, rfl, .inl ⟨vs, h1.sq, rfl⟩, by rw [e]; exact h _ _ (Same.refl _) fun _ => .int _⟩
  · rename_i a vs ds h1 h2 h3
    have e := dpAll_len h3
    exact .inl ⟨_, _, rfl, .inr ⟨vs, h1, rfl⟩, by rw [e]; exact h _ _ (Same.refl _) fun _ => .int _⟩
  · rename_i a vs ds h1 h2 h3
    have e := dpKV_len h3
    exact .inr ⟨_, vs, rfl, h1, by rw [e]; exact h _ _ (Same.refl _) fun _ => .int _⟩
end
end Pf

set_option Elab.async false
set_option linter.all false
set_option maxRecDepth 100000
/-! Methods of texts. -/
namespace Pf
open PySem PySem.Spec L2

def splitS (a b : Str) : List Str := (TL.spl (cl b) 0 [] (cl a)).map mk
def partS (a b : Str) : Str × Str × Str := match TL.par (cl b) [] (cl a) with
  | some (p, q) => (mk p, b, mk q)
  | none => (a, Str.empty, Str.empty)
def joinS (a : Str) (ys : List Str) : Str := mk (TL.joinL (cl a) (ys.map cl))
theorem asc_kind {a b : Str} (h : asc b = true) : ¬ Builtin.Str.strKind a < Builtin.Str.strKind b := TL.kind_ok (by
  rw [← Array.all_toList]
  refine List.all_eq_true.mpr fun c hc => ?_
  have := asc_iff.mp h c hc
  exact decide_eq_true (by omega))
theorem cl_ne {b : Str} (h : (b.length == 0) = false) : cl b ≠ [] := fun e => by
  rw [len_cl, e] at h
  cases h
theorem map_mk_cl : ∀ l : List Str, (l.map cl).map mk = l
  | [] => rfl
  | x :: r => by rw [List.map_cons, List.map_cons, mk_cl, map_mk_cl r]
theorem split_is {a b : Str} (hb : (b.length == 0) = false) (h : asc b = true) : Txt.split a b = splitS a b := by
  unfold splitS
  rw [← TL.split_spl a b (cl_ne hb) (asc_kind h)]
  exact (map_mk_cl _).symm
theorem part_is {a b : Str} (hb : (b.length == 0) = false) : Txt.partition a b = partS a b := TL.partition_par a b (cl_ne hb)
theorem join_is (a : Str) (ys : List Str) : Txt.join a ys = joinS a ys := by
  unfold joinS
  rw [TL.join_eq, ← TL.tl_join]
theorem spl_mem {S : List Nat} : ∀ {k : Nat} {acc l p : List Nat}, p ∈ TL.spl S k acc l → ∀ c ∈ p, c ∈ acc ∨ c ∈ l
  | 0, acc, [], p, h, c, hc => by
    rw [TL.spl_nil, List.mem_singleton] at h
    subst h; exact .inl hc
  | k + 1, acc, [], p, h, c, hc => by
    rw [TL.spl_nil, List.mem_singleton] at h
    subst h; exact .inl hc
  | 0, acc, d :: r, p, h, c, hc => by
    cases e : TL.pre S (d :: r) with
    | true =>
      rw [TL.spl_hit e] at h
      rcases List.mem_cons.mp h with rfl | h
      · exact .inl hc
      · rcases spl_mem h c hc with z | z
        · cases z
        · exact .inr (List.mem_cons_of_mem _ z)
    | false =>
      rw [TL.spl_miss e] at h
      rcases spl_mem h c hc with z | z
      · rcases List.mem_append.mp z with z | z
        · exact .inl z
        · rw [List.mem_singleton] at z; subst z; exact .inr (by simp)
      · exact .inr (List.mem_cons_of_mem _ z)
  | k + 1, acc, d :: r, p, h, c, hc => by
    rcases spl_mem (k := k) (acc := acc) (l := r) h c hc with z | z
    · exact .inl z
    · exact .inr (List.mem_cons_of_mem _ z)
theorem spl_len {S : List Nat} : ∀ {k : Nat} {acc l p : List Nat}, p ∈ TL.spl S k acc l → p.length ≤ acc.length + l.length
  | 0, acc, [], p, h => by
    rw [TL.spl_nil, List.mem_singleton] at h
    subst h; simp
  | k + 1, acc, [], p, h => by
    rw [TL.spl_nil, List.mem_singleton] at h
    subst h; simp
  | 0, acc, d :: r, p, h => by
    cases e : TL.pre S (d :: r) with
    | true =>
      rw [TL.spl_hit e] at h
      rcases List.mem_cons.mp h with rfl | h
      · simp
      · have := spl_len h
        simp at this ⊢
        omega
    | false =>
      rw [TL.spl_miss e] at h
      have := spl_len h
      simp at this ⊢
      omega
  | k + 1, acc, d :: r, p, h => by
    have := spl_len (k := k) (acc := acc) (l := r) h
    simp at this ⊢
    omega
theorem spl_count {S : List Nat} : ∀ {k : Nat} {acc l : List Nat}, (TL.spl S k acc l).length ≤ l.length + 1
  | 0, acc, [] => by rw [TL.spl_nil]; simp
  | k + 1, acc, [] => by rw [TL.spl_nil]; simp
  | 0, acc, d :: r => by
    cases e : TL.pre S (d :: r) with
    | true =>
      rw [TL.spl_hit e]
      have := spl_count (S := S) (k := S.length - 1) (acc := []) (l := r)
      simp; omega
    | false =>
      rw [TL.spl_miss e]
      have := spl_count (S := S) (k := 0) (acc := acc ++ [d]) (l := r)
      simp; omega
  | k + 1, acc, d :: r => by
    have := spl_count (S := S) (k := k) (acc := acc) (l := r)
    show (TL.spl S k acc r).length ≤ _
    simp; omega
theorem par_some {S : List Nat} : ∀ {acc l p q : List Nat}, TL.par S acc l = some (p, q) → (∀ c ∈ p, c ∈ acc ∨ c ∈ l) ∧ (∀ c ∈ q, c ∈ l) ∧ p.length ≤ acc.length + l.length ∧ q.length ≤ l.length
  | acc, [], p, q, h => by cases h
  | acc, d :: r, p, q, h => by
    cases e : TL.pre S (d :: r) with
    | true =>
      rw [TL.par_hit e] at h
      cases h
      exact ⟨fun c hc => .inl hc, fun c hc => List.mem_of_mem_drop hc, by omega, by rw [List.length_drop]; omega⟩
    | false =>
      rw [TL.par_miss e] at h
      obtain ⟨h1, h2, h3, h4⟩ := par_some h
      refine ⟨fun c hc => ?_, fun c hc => List.mem_cons_of_mem _ (h2 c hc), by simp at h3 ⊢; omega, by simp; omega⟩
      rcases h1 c hc with z | z
      · rcases List.mem_append.mp z with z | z
        · exact .inl z
        · rw [List.mem_singleton] at z; subst z; exact .inr (by simp)
      · exact .inr (List.mem_cons_of_mem _ z)
theorem empty_ok : asc Str.empty = true ∧ Str.empty.length ≤ LIM := ⟨by decide, by decide⟩
theorem part_ok {a b : Str} (ha : asc a = true) (la : a.length ≤ LIM) (hb : asc b = true) (lb : b.length ≤ LIM) : (asc (partS a b).1 = true ∧ (partS a b).1.length ≤ LIM) ∧ (asc (partS a b).2.1 = true ∧ (partS a b).2.1.length ≤ LIM) ∧ (asc (partS a b).2.2 = true ∧ (partS a b).2.2.length ≤ LIM) := by
  unfold partS
  split
  · rename_i p q e
    obtain ⟨h1, h2, h3, h4⟩ := par_some e
    rw [len_cl] at la
    refine ⟨⟨asc_sub ha fun c hc => (h1 c hc).elim (fun z => by cases z) id, by rw [len_mk]; simp only [List.length_nil, Nat.zero_add] at h3; omega⟩, ⟨hb, lb⟩, asc_sub ha h2, by rw [len_mk]; omega⟩
  · exact ⟨⟨ha, la⟩, empty_ok, empty_ok⟩
theorem split_ok {a b : Str} (ha : asc a = true) (la : a.length ≤ LIM) : ∀ x ∈ splitS a b, asc x = true ∧ x.length ≤ LIM := fun x hx => by
  obtain ⟨p, hp, rfl⟩ := List.mem_map.mp hx
  rw [len_cl] at la
  refine ⟨asc_sub ha fun c hc => (spl_mem hp c hc).elim (fun z => by cases z) id, ?_⟩
  have := spl_len hp
  rw [len_mk]
  simp only [List.length_nil, Nat.zero_add] at this
  omega
theorem join_mem {S : List Nat} : ∀ {ps : List (List Nat)} {c : Nat}, c ∈ TL.joinL S ps → c ∈ S ∨ ∃ p ∈ ps, c ∈ p
  | [], c, h => by cases h
  | [p], c, h => .inr ⟨p, by simp, h⟩
  | p :: q :: r, c, h => by
    have h : c ∈ p ++ (S ++ TL.joinL S (q :: r)) := h
    rcases List.mem_append.mp h with h | h
    · exact .inr ⟨p, by simp, h⟩
    · rcases List.mem_append.mp h with h | h
      · exact .inl h
      · rcases join_mem h with h | ⟨z, hz, hc⟩
        · exact .inl h
        · exact .inr ⟨z, List.mem_cons_of_mem _ hz, hc⟩
theorem join_asc {a : Str} {ys : List Str} (ha : asc a = true) (hy : ∀ x ∈ ys, asc x = true) : asc (joinS a ys) = true := asc_iff.mpr fun c hc => by
  rcases join_mem hc with h | ⟨p, hp, h⟩
  · exact asc_iff.mp ha c h
  · obtain ⟨x, hx, rfl⟩ := List.mem_map.mp hp
    exact asc_iff.mp (hy x hx) c h

inductive MI where
  | split | partition | join | startswith | endswith
  deriving DecidableEq
def MI.nm : MI → String
  | .split => "split" | .partition => "partition" | .join => "join" | .startswith => "startswith" | .endswith => "endswith"
def MI.id : MI → String
  | .split => "str.split" | .partition => "str.partition" | .join => "str.join" | .startswith => "str.startswith" | .endswith => "str.endswith"
def miD : MI → D → List D → Rs D
  | .split, .str a, [.str b] => if (b.length == 0) = false ∧ a.length + 1 ≤ LIM then .ok (.list ((splitS a b).map .str)) else .bad
  | .partition, .str a, [.str b] => if (b.length == 0) = false then .ok (.tuple [.str (partS a b).1, .str (partS a b).2.1, .str (partS a b).2.2]) else .bad
  | .join, .str a, [.list xs] => (opt (strsOf xs) id).bind fun ys => if (joinS a ys).length ≤ LIM ∧ (ys.map (·.length)).sum + ys.length * a.length ≤ 16777216 then .ok (.str (joinS a ys)) else .bad
  | .join, .str a, [.tuple xs] => (opt (strsOf xs) id).bind fun ys => if (joinS a ys).length ≤ LIM ∧ (ys.map (·.length)).sum + ys.length * a.length ≤ 16777216 then .ok (.str (joinS a ys)) else .bad
  | .startswith, .str a, [.str b] => .ok (.bool (Txt.startswith a b))
  | .endswith, .str a, [.str b] => .ok (.bool (Txt.endswith a b))
  | _, _, _ => .bad
def rMI (K : PySem.W.Frag) : MI → V → List V → Hp → VK → Prop
  | .split => fun x xs H Q => ∃ a b, x = .str a ∧ xs = [.str b] ∧ (b.length == 0) = false ∧ a.length + 2 ≤ sizeLine ∧ rNewStrs (Txt.split a b) H Q
  | .partition => fun x xs H Q => ∃ a b, x = .str a ∧ xs = [.str b] ∧ (b.length == 0) = false ∧ a.length ≤ sizeLine ∧ ∀ p, H p = none → Q (.ref p) (upd H p (.tup [.str (Txt.partition a b).1, .str (Txt.partition a b).2.1, .str (Txt.partition a b).2.2]))
  | .join => fun x xs H Q => ∃ a p, ∃ ys : List Str, x = .str a ∧ xs = [.ref p] ∧ (SqL K H p (ys.map V.str) ∨ SqT K H p (ys.map V.str)) ∧ (ys.map (·.length)).sum + ys.length * a.length ≤ 16777216 ∧ Q (.str (Txt.join a ys)) H
  | .startswith => fun x xs H Q => ∃ a b, x = .str a ∧ xs = [.str b] ∧ Q (.bl (Txt.startswith a b)) H
  | .endswith => fun x xs H Q => ∃ a b, x = .str a ∧ xs = [.str b] ∧ Q (.bl (Txt.endswith a b)) H
section
variable {X : Cx}
theorem mi_op : ∀ m : MI, MtR X m.id (rMI X.K m)
  | .split => mt_split
  | .partition => mt_partition
  | .join => mt_join
  | .startswith => mt_startswith
  | .endswith => mt_endswith
theorem mi_slot : ∀ m : MI, Slot "str" m.nm m.id
  | .split => PySem.F.slot_str_split
  | .partition => PySem.F.slot_str_partition
  | .join => PySem.F.slot_str_join
  | .startswith => PySem.F.slot_str_startswith
  | .endswith => PySem.F.slot_str_endswith
theorem mi_ty : ∀ m : MI, typeOf (.builtin m.id) = pure (.type "method_descriptor")
  | .split => PySem.F.type_str_split
  | .partition => PySem.F.type_str_partition
  | .join => PySem.F.type_str_join
  | .startswith => PySem.F.type_str_startswith
  | .endswith => PySem.F.type_str_endswith
end
section
variable {K : PySem.W.Frag}
theorem mi_im (m : MI) (H : Hp) (O : List Addr) (x : V) (dx : D) (xs : List V) (ds : List D) (Q : VK) (t : Thr H O) (hx : Dn K (msk H O) x dx) (ha : DnAll K (msk H O) xs ds)
    (h : Okk (miD m dx ds) fun d => ∀ v H', Same H H' → Dn K (msk H' O) v d → Q v H') : (∃ z, x = .str z) ∧ rMI K m x xs H Q := by
  cases m
  case split =>
    match dx, ds, hx, ha, h with
    | .str a, [.str b], .str h1 h2, .cons (.str h3 h4) .nil, h =>
      obtain ⟨⟨c1, c2⟩, h⟩ := okk_ite h
      refine ⟨⟨_, rfl⟩, a, b, rfl, rfl, c1, Nat.le_trans (Nat.succ_le_succ c2) (by decide), fun p hp => ?_⟩
      rw [split_is c1 h3]
      refine h _ _ (same_new hp) (dn_newL t hp ?_ (dpAll_strs _ (split_ok h1 h2)))
      rw [List.length_map]
      unfold splitS
      rw [List.length_map]
      have := spl_count (S := cl b) (k := 0) (acc := []) (l := cl a)
      rw [len_cl] at c2
      omega
  case partition =>
    match dx, ds, hx, ha, h with
    | .str a, [.str b], .str h1 h2, .cons (.str h3 h4) .nil, h =>
      obtain ⟨c1, h⟩ := okk_ite h
      refine ⟨⟨_, rfl⟩, a, b, rfl, rfl, c1, Nat.le_trans h2 lim_line, fun p hp => ?_⟩
      rw [part_is c1]
      obtain ⟨g1, g2, g3⟩ := part_ok h1 h2 h3 h4
      exact h _ _ (same_new hp) (dn_newT t hp (by show 3 ≤ LIM; decide) (.cons (.str g1.1 g1.2) (.cons (.str g2.1 g2.2) (.cons (.str g3.1 g3.2) .nil))))
  case join =>
    match dx, ds, hx, ha, h with
    | .str a, [.list xs], .str h1 h2, .cons (.lst h3 h4 h5) .nil, h =>
      have h : Okk ((opt (strsOf xs) id).bind fun ys => if (joinS a ys).length ≤ LIM ∧ (ys.map (·.length)).sum + ys.length * a.length ≤ 16777216 then .ok (.str (joinS a ys)) else .bad) _ := h
      cases e : strsOf xs with
      | none => rw [e] at h; exact h.elim
      | some ys =>
        rw [e] at h
        obtain ⟨⟨c1, c2⟩, h⟩ := okk_ite h
        obtain ⟨g1, g2⟩ := strs_of h5 e
        subst g1
        refine ⟨⟨_, rfl⟩, a, _, ys, rfl, rfl, .inl (rd_sub h3).sq, c2, ?_⟩
        rw [join_is]
        exact h _ _ (Same.refl _) (.str (join_asc h1 fun x hx => (g2 x hx).1) c1)
    | .str a, [.tuple xs], .str h1 h2, .cons (.tup h3 h4 h5) .nil, h =>
      have h : Okk ((opt (strsOf xs) id).bind fun ys => if (joinS a ys).length ≤ LIM ∧ (ys.map (·.length)).sum + ys.length * a.length ≤ 16777216 then .ok (.str (joinS a ys)) else .bad) _ := h
      cases e : strsOf xs with
      | none => rw [e] at h; exact h.elim
      | some ys =>
        rw [e] at h
        obtain ⟨⟨c1, c2⟩, h⟩ := okk_ite h
        obtain ⟨g1, g2⟩ := strs_of h5 e
        subst g1
        refine ⟨⟨_, rfl⟩, a, _, ys, rfl, rfl, .inr (sqT_sub h3), c2, ?_⟩
        rw [join_is]
        exact h _ _ (Same.refl _) (.str (join_asc h1 fun x hx => (g2 x hx).1) c1)
  case startswith =>
    match dx, ds, hx, ha, h with
    | .str a, [.str b], .str h1 h2, .cons (.str h3 h4) .nil, h => exact ⟨⟨_, rfl⟩, a, b, rfl, rfl, h _ _ (Same.refl _) (.bl _)⟩
  case endswith =>
    match dx, ds, hx, ha, h with
    | .str a, [.str b], .str h1 h2, .cons (.str h3 h4) .nil, h => exact ⟨⟨_, rfl⟩, a, b, rfl, rfl, h _ _ (Same.refl _) (.bl _)⟩
end
/-- o is no call of super -/
def noSup : Expr → Bool
  | .Call (.Name id _) [] [] _ => !(id == ("super" : Str))
  | _ => true
theorem base_of {o : Expr} {name : Str} {env : Env} {w : Sem Value} (h : noSup o = true) : attributeBase o name env w = w := by
  unfold attributeBase
  split
  · rename_i id p1 p2
    have : (id == ("super" : Str)) = false := by simpa [noSup] using h
    have e : (id != ("super" : Str)) = true := by rw [bne, this]; rfl
    simp [e]
  · rfl
section
variable {X : Cx} {xp : XP} {W : WX} {e o : Expr} {es : List Expr} {fs : Sto → Rs (List D)} {fo : Sto → Rs D} {apos cpos : Pos}
def strR : D → Rs Str
  | .str z => .ok z
  | _ => .bad
def mtF (m : MI) (fo : Sto → Rs D) (fs : Sto → Rs (List D)) : Sto → Rs D := fun ρ => (fo ρ).bind fun x => (strR x).bind fun z => (fs ρ).bind fun ds => pur (miD m (.str z) ds)
theorem ce_mt (m : MI) (ho : CE X xp W o fo) (ha : CA X xp W (e :: es) fs) (hb : noSup o = true)
    (hfew : ((backTo cpos (starEach (e :: es) X.env)).all (fun x => !x.1) && (backToKw cpos (keywordEach [] X.env)).all (fun x => x.1.isSome) && decide ((e :: es).length + ([] : List Keyword).length + (if ([] : List Keyword).isEmpty then 0 else 1) < 30)) = true)
    (hl : (apos.endLine == cpos.line) = true) (he : starEach (e :: es) X.env = (false, eval e X.env) :: starEach es X.env) (hpl : (backTo cpos (starEach es X.env)).any (·.1) = false) :
    CE X xp W (.Call (.Attribute o m.nm apos) (e :: es) [] cpos) (mtF m fo fs) :=
  pe_imp (pe_bm PySem.F.plainAttrs_str (mi_slot m) (mi_ty m) (mi_op m) ho ha (base_of hb) hfew hl he hpl) fun σ H Q ⟨ρ, O, R, q⟩ => ⟨ρ, O, R, (End.bind q).imp fun dx H1 _ s1 q1 vx hx => by
    cases dx with
    | str z =>
      refine ⟨by cases hx; rfl, ρ, O, R.mono s1, (End.bind (show End _ _ _ _ _ _ _ ((fs ρ).bind fun ds => pur (miD m (.str z) ds)) from q1)).imp fun ds H2 _ s2 q2 vs hv => ?_⟩
      exact (mi_im m H2 O vx _ vs ds Q ((R.mono s1).mono s2).thr (dp_mono (msk_same s2) hx) hv ((end_pur q2).imp fun d k v H' s h => k H' s v h)).2
    | _ => exact q1.elim⟩
end
end Pf

set_option Elab.async false
set_option linter.all false
set_option maxRecDepth 100000
/-! What is walked; targets; comprehensions. -/
namespace Pf
open PySem PySem.Spec L2

/-! ### targets -/
inductive Tg where
  | nm (i : Nat)
  | tp (is : List Nat)
def Tg.slots : Tg → List Nat
  | .nm i => [i]
  | .tp is => is
def setAll : List Nat → List D → Sto → Sto
  | i :: is, d :: ds, ρ => setAll is ds (ρ.set i (some (.pd d)))
  | _, _, ρ => ρ
def seqOf : D → Rs (List D)
  | .tuple ds => .ok ds
  | .list ds => .ok ds
  | _ => .bad
def asgT : Tg → D → Sto → Rs Sto
  | .nm i, d, ρ => .ok (ρ.set i (some (.pd d)))
  | .tp is, d, ρ => (seqOf d).bind fun ds => if ds.length = is.length then .ok (setAll is ds ρ) else .bad
def setAllV : List Nat → List V → L2.St → L2.St
  | i :: is, d :: ds, σ => setAllV is ds (σ.set i (some d))
  | _, _, σ => σ
theorem rel_setAll {K : PySem.W.Frag} {xp : XP} {H : Hp} {O : List Addr} : ∀ {is : List Nat} {vs : List V} {ds : List D} {σ : L2.St} {ρ : Sto}, Rel K xp σ H ρ O → DnAll K (msk H O) vs ds → Rel K xp (setAllV is vs σ) H (setAll is ds ρ) O
  | [], _, _, _, _, r, _ => r
  | _ :: _, _, _, _, _, r, .nil => r
  | i :: is, _, _, _, _, r, .cons h t => rel_setAll (is := is) (r.set h) t
theorem wipe_set_in : ∀ {vs : List Nat} {σ : L2.St} {i : Nat} {x : Option V}, i ∈ vs → wipe (σ.set i x) vs = wipe σ vs
  | [], _, _, _, h => by cases h
  | v :: vs, σ, i, x, h => by
    show (wipe (σ.set i x) vs).set v none = (wipe σ vs).set v none
    by_cases hi : i ∈ vs
    · rw [wipe_set_in hi]
    · rcases List.mem_cons.mp h with rfl | h
      · have : ∀ (ws : List Nat) (τ : L2.St), (wipe (τ.set i x) ws).set i none = (wipe τ ws).set i none := by
          intro ws
          induction ws with
          | nil => intro τ; show (τ.set i x).set i none = τ.set i none; rw [List.set_set]
          | cons w ws ih =>
            intro τ
            show ((wipe (τ.set i x) ws).set w none).set i none = ((wipe τ ws).set w none).set i none
            by_cases hw : w = i
            · subst hw; rw [List.set_set, List.set_set]; exact ih τ
            · rw [List.set_comm _ _ hw, List.set_comm _ _ hw, ih τ]
        exact this vs σ
      · exact absurd h hi
theorem wipe_setAllV {vs : List Nat} : ∀ {is : List Nat} {xs : List V} {σ : L2.St}, (∀ i ∈ is, i ∈ vs) → wipe (setAllV is xs σ) vs = wipe σ vs
  | [], _, _, _ => rfl
  | _ :: _, [], _, _ => rfl
  | i :: is, x :: xs, σ, h => by
    show wipe (setAllV is xs (σ.set i (some x))) vs = wipe σ vs
    rw [wipe_setAllV fun j hj => h j (List.mem_cons_of_mem _ hj), wipe_set_in (h i (by simp))]
/-- the reading of a target: what comes is d; the slots of t take it -/
def rdG (K : PySem.W.Frag) (xp : XP) (t : Tg) : TG := fun v σ H Q => ∃ ρ O d ρ', Rel K xp σ H ρ O ∧ Dn K (msk H O) v d ∧ asgT t d ρ = .ok ρ' ∧
  ∀ σ', Rel K xp σ' H ρ' O → (∀ vs : List Nat, (∀ i ∈ t.slots, i ∈ vs) → wipe σ' vs = wipe σ vs) → Q σ' H
abbrev CG (X : Cx) (xp : XP) (tg : Expr) (t : Tg) : Prop := PG X tg (rdG X.K xp t)
theorem pg_imp {X : Cx} {tg : Expr} {g g' : TG} (h : PG X tg g) (k : ∀ v σ H Q, g' v σ H Q → g v σ H Q) : PG X tg g' := ⟨fun pins s σ H v u Q I r q => h.run pins s σ H v u Q I r (k v σ H Q q)⟩
theorem pg_or {X : Cx} {tg : Expr} {g g' : TG} (h : PG X tg g) (h' : PG X tg g') : PG X tg (fun v σ H Q => g v σ H Q ∨ g' v σ H Q) :=
  ⟨fun pins s σ H v u Q I r q => q.elim (h.run pins s σ H v u Q I r) (h'.run pins s σ H v u Q I r)⟩
section
variable {X : Cx} {xp : XP}
theorem cg_nm {i : Nat} {x : Str} {pos : Pos} (hN : X.N.Nodup) (hi : X.N[i]? = some x) (hx : Loc X.env.scope x) (hf : X.fn x = true ∨ X.env.scope.names.lookup x = some .local) : CG X xp (.Name x pos) (.nm i) :=
  pg_imp (pg_name hN hi hx hf) fun v σ H Q ⟨ρ, O, d, ρ', R, hd, e, k⟩ => by
    cases e
    exact k _ (R.set hd) fun vs h => wipe_set_in (h i (by simp [Tg.slots]))
/-- several names, one after another -/
def gNames : List Nat → TGs
  | [] => gNil
  | i :: is => gCons (gName i) (gNames is)
theorem gNames_ok : ∀ {is : List Nat} {vs : List V} {σ : L2.St} {H : Hp} {Q : L2.St → Hp → Prop}, vs.length = is.length → Q (setAllV is vs σ) H → gNames is vs σ H Q
  | [], [], _, _, _, _, h => ⟨rfl, h⟩
  | i :: is, v :: vs, σ, H, Q, hl, h => ⟨v, vs, rfl, gNames_ok (by simpa using hl) h⟩
abbrev CGs (X : Cx) (es : List Expr) (is : List Nat) : Prop := PGs X es (gNames is)
theorem cg_tp {es : List Expr} {is : List Nat} {k : Nat} {pos : Pos} (hc : X.calm = true) (h : CGs X es is) (hn : (assignEach es X.env).length = is.length) (hst : (assignEach es X.env).findIdx? (·.1) = none) : CG X xp (.Tuple es k pos) (.tp is) :=
  pg_imp (pg_or (pg_tup hc h hn hst) (pg_lst hc h hn hst)) fun v σ H Q ⟨ρ, O, d, ρ', R, hd, e, q⟩ => by
    match d, hd, e with
    | .list ds, .lst (a := a) (xs := vs) h1 h2 h3, e =>
      have e : (if ds.length = is.length then Rs.ok (setAll is ds ρ) else .bad) = .ok ρ' := e
      by_cases hl : ds.length = is.length
      · rw [if_pos hl] at e
        cases e
        have hl' : vs.length = is.length := (dpAll_len h3).trans hl
        exact .inr ⟨a, vs, rfl, (rd_sub h1).sq, hl', gNames_ok hl' (q _ (rel_setAll R h3) fun ws hw => wipe_setAllV hw)⟩
      · rw [if_neg hl] at e; cases e
    | .tuple ds, .tup (a := a) (xs := vs) h1 h2 h3, e =>
      have e : (if ds.length = is.length then Rs.ok (setAll is ds ρ) else .bad) = .ok ρ' := e
      by_cases hl : ds.length = is.length
      · rw [if_pos hl] at e
        cases e
        have hl' : vs.length = is.length := (dpAll_len h3).trans hl
        exact .inl ⟨a, vs, rfl, sqT_sub h1, hl', gNames_ok hl' (q _ (rel_setAll R h3) fun ws hw => wipe_setAllV hw)⟩
      · rw [if_neg hl] at e; cases e
end

/-! ### what is walked -/
structure WalkD (K : PySem.W.Frag) (J : It) (ds : List D) (G : Hp → Prop) : Prop where
  mono : ∀ F F', G F → Same F F' → G F'
  goes : ∀ i H O, i < ds.length → G (msk H O) → J.go i H
  stops : ∀ H O, G (msk H O) → J.stop ds.length H
  yields : ∀ i H O x H', i < ds.length → G (msk H O) → Thr H O → J.yld i H x H' → Same H H' ∧ ∃ d, ds[i]? = some d ∧ Dn K (msk H' O) x d
def rdI (K : PySem.W.Frag) (mg : Str → Option Value) (xp : XP) (W : WX) (f : Sto → Rs (List D)) : TI := fun σ H R => ∃ ρ O, Rel K xp σ H ρ O ∧
  End K mg W O σ H (fun ds H' => ∀ J G, G (msk H' O) → WalkD K J ds G → R J H') (f ρ)
abbrev CI (X : Cx) (xp : XP) (W : WX) (tg iter : Expr) (f : Sto → Rs (List D)) : Prop := PI X tg iter (rdI X.K X.mg xp W f)
theorem pi_imp {X : Cx} {tg e : Expr} {t t' : TI} (h : PI X tg e t) (k : ∀ σ H Q, t' σ H Q → t σ H Q) : PI X tg e t' := ⟨fun pins s σ H R I q => h.run pins s σ H R I (k σ H R q)⟩
theorem pi_or {X : Cx} {tg e : Expr} {t t' : TI} (h : PI X tg e t) (h' : PI X tg e t') : PI X tg e (fun σ H R => t σ H R ∨ t' σ H R) :=
  ⟨fun pins s σ H R I q => q.elim (h.run pins s σ H R I) (h'.run pins s σ H R I)⟩
/-- the items of a datum -/
def itemsD : D → Rs (List D)
  | .list xs => .ok xs
  | .tuple xs => .ok xs
  | .str z => .ok ((cl z).map fun c => .str (mk [c]))
  | _ => .bad
section
variable {K : PySem.W.Frag}
theorem walkD_list {a : Addr} {vs : List V} {ds : List D} : WalkD K (Itl K a) ds (fun F => RL K F a vs ∧ DnAll K F vs ds) where
  mono := fun F F' h s => ⟨Same.rl s h.1, dpAll_mono s h.2⟩
  goes := fun i H O hi h => by
    have hi' : i < vs.length := by rw [dpAll_len h.2]; exact hi
    exact ⟨vs, vs[i], (rd_sub h.1).sq, by simp [hi']⟩
  stops := fun H O h => ⟨vs, (rd_sub h.1).sq, by rw [dpAll_len h.2]; exact Nat.le_refl _⟩
  yields := fun i H O x H' hi h t y => by
    obtain ⟨rfl, y⟩ := y
    obtain ⟨d, h1, h2⟩ := dpAll_get' h.2 (y vs (rd_sub h.1).sq)
    exact ⟨Same.refl _, d, h1, h2⟩
theorem walkD_tup {a : Addr} {vs : List V} {ds : List D} : WalkD K (Itt K a) ds (fun F => SqT K F a vs ∧ DnAll K F vs ds) where
  mono := fun F F' h s => ⟨Same.seqT s h.1, dpAll_mono s h.2⟩
  goes := fun i H O hi h => by
    have hi' : i < vs.length := by rw [dpAll_len h.2]; exact hi
    exact ⟨vs, vs[i], sqT_sub h.1, by simp [hi']⟩
  stops := fun H O h => ⟨vs, sqT_sub h.1, by rw [dpAll_len h.2]; exact Nat.le_refl _⟩
  yields := fun i H O x H' hi h t y => by
    obtain ⟨rfl, y⟩ := y
    obtain ⟨d, h1, h2⟩ := dpAll_get' h.2 (y vs (sqT_sub h.1))
    exact ⟨Same.refl _, d, h1, h2⟩
theorem walkD_str {z : Str} (ha : asc z = true) : WalkD K (Its z) ((cl z).map fun c => .str (mk [c])) (fun _ => True) where
  mono := fun _ _ _ _ => trivial
  goes := fun i H O hi _ => by
    rw [List.length_map, Array.length_toList] at hi
    exact hi
  stops := fun H O _ => by
    show z.cps.size ≤ _
    rw [List.length_map, Array.length_toList]
    exact Nat.le_refl _
  yields := fun i H O x H' hi _ t y => by
    obtain ⟨rfl, c, h1, rfl⟩ := y
    have h2 : (cl z)[i]? = some c := by rw [Array.getElem?_toList]; exact h1
    exact ⟨Same.refl _, _, by rw [List.getElem?_map, h2]; rfl, .str (asc_one ha (List.mem_of_getElem? h2)) (len_one c)⟩
theorem walkD_rng {lo : Int} {n : Nat} : WalkD K (Itr lo n) ((List.range n).map fun (i : Nat) => .int (lo + i)) (fun _ => True) where
  mono := fun _ _ _ _ => trivial
  goes := fun i H O hi _ => by
    show i < n
    simpa using hi
  stops := fun H O _ => by
    show n ≤ _
    simp
  yields := fun i H O x H' hi _ t y => by
    obtain ⟨rfl, rfl⟩ := y
    have hi : i < n := by simpa using hi
    exact ⟨Same.refl _, _, by rw [List.getElem?_map, List.getElem?_range hi]; rfl, .int _⟩
def enumD (k : Nat) : List D → List D
  | [] => []
  | d :: ds => .tuple [.int k, d] :: enumD (k + 1) ds
theorem enumD_len : ∀ (k : Nat) (ds : List D), (enumD k ds).length = ds.length
  | _, [] => rfl
  | k, _ :: ds => congrArg Nat.succ (enumD_len (k + 1) ds)
theorem enumD_get : ∀ {k : Nat} {ds : List D} {i : Nat} {d : D}, ds[i]? = some d → (enumD k ds)[i]? = some (.tuple [.int (k + i : Nat), d])
  | _, [], _, _, h => by simp at h
  | k, _ :: _, 0, _, h => by simp at h; subst h; rfl
  | k, _ :: ds, i + 1, d, h => by
    have := enumD_get (k := k + 1) (i := i) (d := d) (by simpa using h)
    rw [show k + 1 + i = k + (i + 1) by omega] at this
    simpa [enumD] using this
theorem walkD_enum {a : Addr} {vs : List V} {ds : List D} : WalkD K (Ite K a) (enumD 0 ds) (fun F => RL K F a vs ∧ DnAll K F vs ds) where
  mono := fun F F' h s => ⟨Same.rl s h.1, dpAll_mono s h.2⟩
  goes := fun i H O hi h => by
    rw [enumD_len, ← dpAll_len h.2] at hi
    exact ⟨vs, vs[i], (rd_sub h.1).sq, by simp [hi]⟩
  stops := fun H O h => ⟨vs, (rd_sub h.1).sq, by rw [enumD_len, dpAll_len h.2]; exact Nat.le_refl _⟩
  yields := fun i H O x H' hi h t y => by
    obtain ⟨T, x', rfl, h2, rfl, h4⟩ := y
    obtain ⟨d, g1, g2⟩ := dpAll_get' h.2 (h4 vs (rd_sub h.1).sq)
    refine ⟨same_new h2, _, enumD_get g1, ?_⟩
    rw [Nat.zero_add]
    exact dn_newT t h2 (by show 2 ≤ LIM; decide) (.cons (.int _) (.cons g2 .nil))
end
section
variable {X : Cx} {xp : XP} {W : WX} {tg e a b : Expr} {f fa fb : Sto → Rs D} {es : List Expr} {p pos : Pos}
theorem ci_val (h : CE X xp W e f) : CI X xp W tg e (fun ρ => (f ρ).bind itemsD) :=
  pi_imp (pi_or (pi_list h) (pi_or (pi_tup h) (pi_str h))) fun σ H R ⟨ρ, O, rl, q⟩ => by
    have q : End X.K X.mg W O σ H (fun ds H' => ∀ J G, G (msk H' O) → WalkD X.K J ds G → R J H') ((f ρ).bind itemsD) := q
    cases e1 : f ρ with
    | ok d =>
      have g : ∀ {P : D → Hp → Prop}, (∀ H', Same H H' → P d H') → End X.K X.mg W O σ H P (f ρ) := fun k => by rw [e1]; exact k
      rw [e1] at q
      cases d with
      | list ds => exact .inl ⟨ρ, O, rl, g fun H' s v hv => by
          cases hv with
          | lst h1 h2 h3 => exact ⟨_, rfl, ⟨_, (rd_sub h1).sq⟩, q H' s _ _ ⟨h1, h3⟩ walkD_list⟩⟩
      | tuple ds => exact .inr (.inl ⟨ρ, O, rl, g fun H' s v hv => by
          cases hv with
          | tup h1 h2 h3 => exact ⟨_, rfl, ⟨_, sqT_sub h1⟩, q H' s _ _ ⟨h1, h3⟩ walkD_tup⟩⟩)
      | str z => exact .inr (.inr ⟨ρ, O, rl, g fun H' s v hv => by
          cases hv with
          | str h1 h2 => exact ⟨_, rfl, q H' s _ (fun _ => True) trivial (walkD_str h1)⟩⟩)
      | none => exact q.elim
      | bool b => exact q.elim
      | int b => exact q.elim
      | dict b => exact q.elim
    | ex x =>
      rw [e1] at q
      exact .inl ⟨ρ, O, rl, by rw [e1]; exact q⟩
    | bad => rw [e1] at q; exact q.elim
def rngOk (n : Int) : Bool := decide (-1000000 ≤ n) && decide (n ≤ 1000000)
theorem rngOk_iff {n : Int} : rngOk n = true ↔ -1000000 ≤ n ∧ n ≤ 1000000 := by simp [rngOk]
def rng (lo : Int) (n : Nat) : List D := (List.range n).map fun (i : Nat) => .int (lo + i)
def rng1 : D → Rs (List D)
  | .int n => if rngOk n = true then .ok (rng 0 n.toNat) else .bad
  | _ => .bad
def rng2 : D → D → Rs (List D)
  | .int m, .int n => if rngOk m = true ∧ rngOk n = true then .ok (rng m (n - m).toNat) else .bad
  | _, _ => .bad
theorem end_ite {K : PySem.W.Frag} {mg : Str → Option Value} {O : List Addr} {σ : L2.St} {H : Hp} {α : Type} {P : α → Hp → Prop} {c : Prop} [Decidable c] {r : Rs α} (h : End K mg W O σ H P (if c then r else .bad)) : c ∧ End K mg W O σ H P r := by
  by_cases e : c
  · rw [if_pos e] at h; exact ⟨e, h⟩
  · rw [if_neg e] at h; exact h.elim
theorem ci_range1 (hg : Gl X "range") (hm : X.mg "range" = none) (ha : CE X xp W a fa) (hs : starEach [a] X.env = (false, eval a X.env) :: starEach [] X.env) : CI X xp W tg (.Call (.Name "range" p) [a] [] pos) (fun ρ => (fa ρ).bind rng1) :=
  pi_imp (pi_range1 hg hm (pa_cons ha pa_nil hs) hs) fun σ H R ⟨ρ, O, rl, q⟩ => ⟨ρ, O, rl, (End.bind q).imp fun d H' _ s k v hv => by
    match d, hv, k with
    | .int n, .int _, k =>
      obtain ⟨hl, k⟩ := end_ite k
      have hl := rngOk_iff.mp hl
      exact ⟨n, rfl, by omega, by omega, k H' (Same.refl _) _ (fun _ => True) trivial walkD_rng⟩⟩
theorem ci_range2 (hg : Gl X "range") (hm : X.mg "range" = none) (ha : CE X xp W a fa) (hb : CE X xp W b fb) (hs1 : starEach [b] X.env = (false, eval b X.env) :: starEach [] X.env) (hs : starEach [a, b] X.env = (false, eval a X.env) :: starEach [b] X.env) :
    CI X xp W tg (.Call (.Name "range" p) [a, b] [] pos) (fun ρ => (fa ρ).bind fun x => (fb ρ).bind fun y => rng2 x y) :=
  pi_imp (pi_range2 hg hm (pa_cons ha (pa_cons hb pa_nil hs1) hs) (by rw [hs, hs1]; rfl) hs1) fun σ H R ⟨ρ, O, rl, q⟩ => ⟨ρ, O, rl, (End.bind q).imp fun d H1 _ s k v hv => ⟨ρ, O, rl.mono s, (End.bind k).imp fun d2 H2 _ s2 k2 v2 hv2 => by
    match d, hv, d2, hv2, k2 with
    | .int m, .int _, .int n, .int _, k2 =>
      obtain ⟨⟨hl1, hl2⟩, k2⟩ := end_ite k2
      have hl1 := rngOk_iff.mp hl1
      have hl2 := rngOk_iff.mp hl2
      exact ⟨m, n, rfl, ⟨by omega, by omega, by omega, by omega⟩, k2 H2 (Same.refl _) _ (fun _ => True) trivial walkD_rng⟩⟩⟩
def enumL : D → Rs (List D)
  | .list xs => .ok (enumD 0 xs)
  | _ => .bad
theorem ci_enum {elts : List Expr} {kk : Nat} {tpos : Pos} (hg : Gl X "enumerate") (hm : X.mg "enumerate" = none) (ha : CE X xp W a fa) (hs : starEach [a] X.env = [(false, eval a X.env)]) :
    CI X xp W (.Tuple elts kk tpos) (.Call (.Name "enumerate" p) [a] [] pos) (fun ρ => (fa ρ).bind enumL) :=
  pi_imp (pi_enum hg hm (pa_cons ha pa_nil hs) hs) fun σ H R ⟨ρ, O, rl, q⟩ => ⟨ρ, O, rl, (End.bind q).imp fun d H' _ s k v hv => by
    match d, hv, k with
    | .list xs, .lst h1 h2 h3, k => exact ⟨_, _, rfl, (rd_sub h1).sq, k H' (Same.refl _) _ _ ⟨h1, h3⟩ walkD_enum⟩⟩
end
end Pf

set_option Elab.async false
set_option linter.all false
set_option maxRecDepth 100000
/-! Comprehensions over one source. -/
namespace Pf
open PySem PySem.Spec L2

def wipeR (ρ : Sto) : List Nat → Sto
  | [] => ρ
  | v :: vs => (wipeR ρ vs).set v none
/-- an exception has no place here -/
def noEx {α : Type} : Rs α → Rs α
  | .ok a => .ok a
  | _ => .bad
def compL (t : Tg) (cond : Sto → Rs Bool) (elt : Sto → Rs D) (ρ0 : Sto) : List D → Rs (List D)
  | [] => .ok []
  | d :: ds => (asgT t d ρ0).bind fun ρ1 => (noEx (cond ρ1)).bind fun b =>
    if b = true then (noEx (elt ρ1)).bind fun y => (compL t cond elt ρ0 ds).bind fun ys => .ok (y :: ys) else compL t cond elt ρ0 ds
def lcF (t : Tg) (vs : List Nat) (items : Sto → Rs (List D)) (cond : Sto → Rs Bool) (elt : Sto → Rs D) : Sto → Rs (List D) := fun ρ => (items ρ).bind fun ds => if ds.length ≤ LIM then noEx (compL t cond elt (wipeR ρ vs) ds) else .bad
abbrev W0 : WX := fun _ _ _ _ => False
section
variable {K : PySem.W.Frag} {xp : XP}
theorem rel_wipe {σ : L2.St} {H : Hp} {ρ : Sto} {O : List Addr} (r : Rel K xp σ H ρ O) : ∀ vs : List Nat, Rel K xp (wipe σ vs) H (wipeR ρ vs) O
  | [] => r
  | v :: vs => (rel_wipe r vs).unset v none
/-- a new list of ours besides -/
theorem Rel.grow {σ : L2.St} {H H' : Hp} {ρ : Sto} {O : List Addr} {p : Addr} (r : Rel K xp σ H ρ O) (hp : H p = none) (s : Same H H') (hp' : H' p ≠ none) : Rel K xp σ H' ρ (p :: O) := by
  have sm : Same (msk H O) (msk H' (p :: O)) := msk_cons_new hp s
  refine ⟨r.len, fun i sv h => ?_, r.inj, fun a ha => ?_⟩
  · obtain ⟨v, h1, h2⟩ := r.at_ i sv h
    refine ⟨v, h1, ?_⟩
    cases sv with
    | pd d => exact dp_mono sm h2
    | own xs =>
      obtain ⟨a, vs, h3, h4, h5, h6⟩ := h2
      exact ⟨a, vs, h3, List.mem_cons_of_mem _ h4, s _ _ h5, dpAll_mono sm h6⟩
    | exc e =>
      obtain ⟨a, dd, w, h3, h4, h5, h6⟩ := h2
      exact ⟨a, dd, w, h3, h4, sm _ _ h5, dp_mono sm h6⟩
  · rcases List.mem_cons.mp ha with rfl | ha
    · exact hp'
    · exact r.thr.same s a ha
theorem wipe_idem {us : List Nat} : ∀ {vs : List Nat} {σ : L2.St}, (∀ i ∈ vs, i ∈ us) → wipe (wipe σ vs) us = wipe σ us
  | [], _, _ => rfl
  | v :: vs, σ, h => by
    show wipe ((wipe σ vs).set v none) us = _
    rw [wipe_set_in (h v (by simp)), wipe_idem fun i hi => h i (List.mem_cons_of_mem _ hi)]
theorem compL_len {t : Tg} {cond : Sto → Rs Bool} {elt : Sto → Rs D} {ρ0 : Sto} : ∀ {ds ys : List D}, compL t cond elt ρ0 ds = .ok ys → ys.length ≤ ds.length
  | [], ys, h => by cases h; exact Nat.le_refl _
  | d :: ds, ys, h => by
    unfold compL at h
    obtain ⟨ρ1, _, h⟩ := bind_ok h
    obtain ⟨b, _, h⟩ := bind_ok h
    cases b with
    | true =>
      rw [if_pos rfl] at h
      obtain ⟨y, _, h⟩ := bind_ok h
      obtain ⟨zs, h1, h⟩ := bind_ok h
      cases h
      exact Nat.succ_le_succ (compL_len h1)
    | false =>
      rw [if_neg Bool.false_ne_true] at h
      exact Nat.le_succ_of_le (compL_len h)
theorem noEx_ok {α : Type} {r : Rs α} {a : α} (h : noEx r = .ok a) : r = .ok a := by
  cases r <;> first | exact h | cases h
end
section
variable {X : Cx} {xp : XP} {W : WX}
abbrev CTs (X : Cx) (xp : XP) (W : WX) (ifs : List Expr) (f : Sto → Rs Bool) : Prop := PTs X ifs (rdT X.K X.mg xp W f)
theorem cts_nil : CTs X xp W [] (fun _ => .ok true) := ⟨fun pins s σ H Q I ⟨ρ, O, R, q⟩ => pts_nil.run pins s σ H Q I q.ok⟩
theorem cts_one {c : Expr} {f : Sto → Rs Bool} (h : CT X xp W c f) : CTs X xp W [c] f := pts_one h
/-- the turns of a comprehension -/
theorem rd_lc {K : PySem.W.Frag} {mg : Str → Option Value} {t : Tg} {vs : List Nat} {items : Sto → Rs (List D)} {cond : Sto → Rs Bool} {elt : Sto → Rs D} (ht : ∀ i ∈ t.slots, i ∈ vs) {σ : L2.St} {H : Hp} {Q : VK}
    (h : rdF K mg xp W (lcF t vs items cond elt) σ H Q) : tLc (rdI K mg xp W items) (rdG K xp t) (rdT K mg xp W0 cond) (rdE K mg xp W0 elt) vs σ H Q := by
  obtain ⟨ρ, O, R, q⟩ := h
  refine ⟨ρ, O, R, (End.bind q).imp fun ds H1 _ s1 q1 J G hG wk D hD => ?_⟩
  obtain ⟨lim, q1⟩ := end_ite q1
  cases ec : compL t cond elt (wipeR ρ vs) ds with
  | ex x => rw [ec] at q1; exact q1.elim
  | bad => rw [ec] at q1; exact q1.elim
  | ok ys =>
    rw [ec] at q1
    have R1 := R.mono s1
    have fin := fun (H' : Hp) (s : Same H1 H') => q1 H' s
    -- what holds ahead of turn i
    let Pv : Nat → Hp → Prop := fun i H' => Same H1 H' ∧ G (msk H' (D :: O)) ∧ ∃ acc va rest, H' D = some (.lst va) ∧ DnAll K (msk H' (D :: O)) va acc ∧ acc.length ≤ i ∧ compL t cond elt (wipeR ρ vs) (ds.drop i) = .ok rest ∧ acc ++ rest = ys
    have sD : ∀ {H' : Hp} {o : HO}, Same H1 H' → Same H1 (upd H' D o) := fun s b u e => by
      rw [upd_ne (ne_of_none e hD)]; exact s b u e
    have mD : ∀ {H' : Hp} {o : HO}, msk (upd H' D o) (D :: O) = msk H' (D :: O) := fun {H' o} => by
      funext b
      by_cases hb : b ∈ D :: O
      · rw [msk_in hb, msk_in hb]
      · rw [msk_out hb, msk_out hb, upd_ne fun e => hb (by rw [e]; simp)]
    refine ⟨fun i m H' => m = ds.length - i ∧ i ≤ ds.length ∧ Pv i H', ⟨ds.length, by simp, Nat.zero_le _, sD (Same.refl _), ?_, [], [], ys, upd_same, .nil, Nat.le_refl _, ec, rfl⟩, ?_⟩
    · rw [mD]
      exact wk.mono _ _ hG (msk_cons_new hD (Same.refl _))
    · rintro i m H' ⟨rfl, hi, s', g', acc, va, rest, hl, hda, hla, hc, hy⟩
      by_cases hlt : i < ds.length
      · refine .inr ⟨wk.goes i H' _ hlt g', Pv (i + 1), fun H2 p2 => ⟨ds.length - (i + 1), by omega, rfl, hlt, p2⟩, fun x H2 y => ?_⟩
        have hD' : H' D ≠ none := by rw [hl]; exact Option.some_ne_none _
        have R' : Rel K xp (wipe σ vs) H' (wipeR ρ vs) (D :: O) := (rel_wipe R1 vs).grow hD s' hD'
        obtain ⟨s2, d, e1, hd⟩ := wk.yields i H' _ x H2 hlt g' R'.thr y
        rw [List.drop_eq_getElem_cons hlt] at hc
        have e2 : ds[i] = d := by
          rw [List.getElem?_eq_getElem hlt] at e1
          exact Option.some.inj e1
        rw [e2] at hc
        unfold compL at hc
        obtain ⟨ρ1, a1, hc⟩ := bind_ok hc
        obtain ⟨b, a2, hc⟩ := bind_ok hc
        have a2 := noEx_ok a2
        have hl2 : H2 D = some (.lst va) := s2 _ _ hl
        refine ⟨wipeR ρ vs, D :: O, d, ρ1, R'.mono s2, hd, a1, fun σ2 R2 wp => ⟨(wp vs ht).trans (wipe_idem fun _ h => h), ρ1, D :: O, R2, ?_⟩⟩
        rw [a2]
        intro H3 s3
        have hl3 : H3 D = some (.lst va) := s3 _ _ hl2
        have g3 : G (msk H3 (D :: O)) := wk.mono _ _ g' (msk_same (s2.trans s3))
        have s13 : Same H1 H3 := s'.trans (s2.trans s3)
        have hda3 := dpAll_mono (msk_same (O := D :: O) (s2.trans s3)) hda
        cases b with
        | true =>
          rw [if_pos rfl] at hc
          refine iteT ?_
          obtain ⟨yy, a3, hc⟩ := bind_ok hc
          obtain ⟨zs, a4, hc⟩ := bind_ok hc
          cases hc
          have a3 := noEx_ok a3
          refine ⟨ρ1, D :: O, R2.mono s3, ?_⟩
          rw [a3]
          intro H4 s4 v hv
          have hl4 : H4 D = some (.lst va) := s4 _ _ hl3
          have lenv : va.length ≤ ds.length := by rw [dpAll_len hda]; omega
          refine ⟨va, hl4, Nat.lt_of_le_of_lt (Nat.le_trans lenv lim) (by decide), sD (s13.trans s4), ?_, acc ++ [yy], va ++ [v], zs, upd_same, ?_, by rw [List.length_append]; simp; omega, a4, by rw [List.append_assoc]; exact hy⟩
          · rw [mD]
            exact wk.mono _ _ g3 (msk_same s4)
          · rw [mD]
            exact dpAll_app (dpAll_mono (msk_same s4) hda3) (.cons hv .nil)
        | false =>
          rw [if_neg Bool.false_ne_true] at hc
          refine iteF ?_
          exact ⟨s13, g3, acc, va, rest, hl3, hda3, by omega, hc, hy⟩
      · have e : i = ds.length := by omega
        subst e
        refine .inl ⟨wk.stops H' _ g', ?_⟩
        rw [List.drop_length] at hc
        cases hc
        rw [List.append_nil] at hy
        subst hy
        exact fin H' s' D va (s1.free hD) hl (by rw [dpAll_len hda]; exact Nat.le_trans hla lim) hda
end
section
variable {X : Cx} {xp : XP} {W : WX} {elt tg iter : Expr} {ifs : List Expr} {scope : Scope} {own : List (Str × Nat)} {pos : Pos} {t : Tg} {items : Sto → Rs (List D)} {cond : Sto → Rs Bool} {fe : Sto → Rs D}
theorem cf_lc (hc : X.calm = true) (hN : X.N.Nodup) (hi : CI X xp W tg iter items) (ok : BlkOk X.N X.env.scope scope own)
    (hg : ∀ (s : Shared) (H : Hp) (C : Addr) (cl : List (Str × Addr)) (fp : List Addr), CG (X.blk s H scope (compEnvC scope cl C X.env) fp) xp tg t)
    (ht : ∀ (s : Shared) (H : Hp) (C : Addr) (cl : List (Str × Addr)) (fp : List Addr), CTs (X.blk s H scope (compEnvC scope cl C X.env) fp) xp W0 ifs cond)
    (he : ∀ (s : Shared) (H : Hp) (C : Addr) (cl : List (Str × Addr)) (fp : List Addr), CE (X.blk s H scope (compEnvC scope cl C X.env) fp) xp W0 elt fe)
    (hs : ∀ x, foldedSetIterable iter X.env x = pure x) (hts : ∀ i ∈ t.slots, i ∈ own.map (·.2)) : CF X xp W (.ListComp elt [⟨tg, iter, ifs, 0⟩] scope pos) (lcF t (own.map (·.2)) items cond fe) :=
  pe_imp (pe_lc hc hN hi ok hg ht he hs) fun _ _ _ h => rd_lc hts h
end
end Pf

set_option Elab.async false
set_option linter.all false
set_option maxRecDepth 100000
/-! Set comprehensions whose members are ints and texts. -/
namespace Pf
open PySem PySem.Spec PyProof.Rows L2

section
variable {X : Cx}
/-- a set being filled: D its place -/
def tKs (P : Program) (w : World) (wi : TI) (g : TG) (tt : TT) (te : TE) (vs : List Nat) : TE := fun σ H Q => wi σ H fun J H1 => ∀ D, H1 D = none →
  ∃ W : Nat → Nat → Hp → Prop, (∃ m, W 0 m (upd H1 D (SetK P w D (fun _ => false) 0))) ∧
    ∀ i m H, W i m H → (J.stop i H ∧ Q (.ref D) H) ∨
      (J.go i H ∧ ∃ Nx : Hp → Prop, (∀ H', Nx H' → ∃ m', m' < m ∧ W (i + 1) m' H') ∧
        ∀ x H', J.yld i H x H' → g x (wipe σ vs) H' fun σ2 H2 => wipe σ2 vs = wipe σ vs ∧
          tt σ2 H2 fun b H3 => if b = true then te σ2 H3 fun y H4 => rSAddK P w (.ref D) [y] H4 fun _ H5 => Nx H5 else Nx H3)
theorem ks_fresh {P : Program} {w : World} {h : Heap} : (h.push { cls := .type "set", dict := none, data := .set #[] 0 (.fresh 0 0 (!w.params.followText "set-order")) }).SetOf (mixKind P w) h.objs.size (fun _ => false) 0 :=
  ⟨_, #[], 0, _, Heap.get?_push_size _ rfl, ⟨rfl, rfl, rfl⟩, rfl,
    (fun e he => by simp at he), (fun k => by simp), (by decide), (by rfl), rfl⟩
theorem pe_ks {elt tg iter : Expr} {ifs : List Expr} {scope : Scope} {own : List (PySem.Str × Nat)} {pos : Pos} {wi : TI} {g : TG} {tt : TT} {te : TE}
    (calm : X.calm = true) (nodup : X.N.Nodup) (src : PI X tg iter wi) (blk : BlkOk X.N X.env.scope scope own)
    (tgt : ∀ (s : Shared) (H : Hp) (C : Addr) (cl : List (PySem.Str × Addr)) (fp : List Addr), PG (X.blk s H scope (compEnvC scope cl C X.env) fp) tg g)
    (tst : ∀ (s : Shared) (H : Hp) (C : Addr) (cl : List (PySem.Str × Addr)) (fp : List Addr), PTs (X.blk s H scope (compEnvC scope cl C X.env) fp) ifs tt)
    (mem : ∀ (s : Shared) (H : Hp) (C : Addr) (cl : List (PySem.Str × Addr)) (fp : List Addr), PE (X.blk s H scope (compEnvC scope cl C X.env) fp) elt te)
    (plain : ∀ x, foldedSetIterable iter X.env x = pure x) :
    PE X (.SetComp elt [⟨tg, iter, ifs, 0⟩] scope pos) (tKs X.prog X.w wi g tt te (own.map (·.2))) := by
  constructor
  intro pins s σ H Q inv wish
  rw [PpSet.eval_SetComp]
  have closes : ∀ y ∈ scope.names, y.2 = .free → ∃ c, X.env.cells.lookup y.1 = some c := by
    intro y hy e
    exact (blk.free y hy e).elim (fun k => inv.ok.has _ (.inl k)) fun k => inv.ok.has _ (.inr k)
  refine wpAny_comprehension_free (use := none) rfl plain (closure_ok closes) blk.kind (fun y hy e => by rw [blk.uniq y hy, e]) (thn (src.run pins s σ H _ inv wish) ?_)
  intro xv s1 hx
  refine thn hx ?_
  rintro itv s2 ⟨it, fp, tn, J, H2, rfl, inv2, Wk, at2, fr2, q⟩
  refine PpSet.newSet_ok (newEnv_comp ?_)
  generalize hD : s2.heap.objs.size = D
  obtain ⟨W, ⟨m0, w0⟩, turn⟩ := q D (inv2.hok.fresh (Nat.le_of_eq hD))
  generalize hs3 : ({ s2 with heap := s2.heap.push { cls := .type "set", dict := none, data := .set #[] 0 (.fresh 0 0 (!X.w.params.followText "set-order")) } } : Shared) = s3
  have h3 : s3.heap = s2.heap.push { cls := .type "set", dict := none, data := .set #[] 0 (.fresh 0 0 (!X.w.params.followText "set-order")) } := by
    rw [← hs3]
  have inv3 : Inv X pins σ (upd H2 D (SetK X.prog X.w D (fun _ => false) 0)) s3 := by
    subst hs3
    refine inv2.laid (t' := s2.toks) (fun b o e => Heap.get?_push_of_some _ e) (Nat.le_of_eq hD) ?_
    subst hD
    exact setK_new ks_fresh
  have below : ∀ b ∈ fp, b < s2.heap.objs.size := fun b hb =>
    let ⟨_, e, _⟩ := Wk.obj _ _ at2 b hb
    Heap.lt_size e
  have fr3 : ∀ b ∈ fp, FpOk X pins (upd H2 D (SetK X.prog X.w D (fun _ => false) 0)) b ∧ b < s3.heap.objs.size := by
    intro b hb
    have lt := below b hb
    have ne : b ≠ D := by rw [← hD]; exact Nat.ne_of_lt lt
    have old := fr2 b hb
    refine ⟨⟨by rw [upd_ne ne]; exact old.1, old.2⟩, ?_⟩
    rw [h3, Heap.size_push]
    exact Nat.lt_succ_of_lt lt
  have at3 : tn 0 s3.heap := Wk.keep _ _ _ at2 fun b _ o e => by
    rw [h3]
    exact Heap.get?_push_of_some _ e
  have inv4 := block_start inv3 blk nodup fr3
  generalize hcells : cellsFrom (s3.heap.objs.size + 1) scope.names (cloFrom X.env.cells scope.names []) = cells at inv4 ⊢
  have pg := tgt s3 (upd H2 D (SetK X.prog X.w D (fun _ => false) 0)) s3.heap.objs.size cells fp
  have pt := tst s3 (upd H2 D (SetK X.prog X.w D (fun _ => false) 0)) s3.heap.objs.size cells fp
  have pm := mem s3 (upd H2 D (SetK X.prog X.w D (fun _ => false) 0)) s3.heap.objs.size cells fp
  have gone : ∀ b ∈ fp, (upd H2 D (SetK X.prog X.w D (fun _ => false) 0)) b = none := fun b hb => (fr3 b hb).1.1
  generalize hce : compEnvC scope cells s3.heap.objs.size X.env = ce at inv4 pg pt pm
  have loc : ce.locals = s3.heap.objs.size := by rw [← hce]; rfl
  let post := compPost (model X.prog X.w) X.A X.xe none (EP X pins σ Q) (.ref D) s3.heap.objs.size
  show codeAny _ _ (.compStart (.SetComp elt [⟨tg, iter, ifs, 0⟩] scope pos) 0 (.ref it) (.ref D) (compEnvC scope cells s3.heap.objs.size X.env)) post { s3 with heap := pushCells (s3.heap.push { cls := .type "dict", data := .dict #[] }) scope.names }
  rw [hce]
  generalize hH3 : upd H2 D (SetK X.prog X.w D (fun _ => false) 0) = H3 at inv3 inv4 pg pt pm w0 gone fr3
  generalize hs4 : ({ s3 with heap := pushCells (s3.heap.push { cls := .type "dict", data := .dict #[] }) scope.names } : Shared) = s4 at inv4 ⊢
  have at4 : tn 0 s4.heap := Wk.keep _ _ _ at3 fun b _ o e => by
    rw [← hs4]
    exact pushCells_keeps _ _ _ _ (Heap.get?_push_of_some _ e)
  let Y : Cx := X.blk s3 H3 scope ce fp
  have still : ∀ {σ' : L2.St} {H' : Hp} {s' : Shared}, Inv Y [] σ' H' s' → (∀ b ∈ fp, H' b = none) → ∀ b ∈ fp, FpOk Y [] H' b := by
    intro σ' H' s' iv nn b hb
    exact ⟨nn b hb, (iv.ok.exf b hb).1, iv.ok.exfs b hb, Or.inl hb, fun x c e => (iv.ok.exf b hb).2 x c e, fun p hp => (List.not_mem_nil (show p ∈ [] from hp)).elim⟩
  have loop : codeAny (model X.prog X.w) X.A (.compLoop (.SetComp elt [⟨tg, iter, ifs, 0⟩] scope pos) 0 (.ref it) (.ref D) ce) post s4 := by
    let Iv : Nat → Shared → Prop := fun n s' => ∃ i H', Inv Y [] (wipe σ (own.map (·.2))) H' s' ∧ tn i s'.heap ∧ (∀ b ∈ fp, H' b = none) ∧ W i n H'
    refine PpSet.compLoopS_any Iv ?_ m0 ⟨0, H3, inv4, at4, gone, w0⟩
    rintro n s5 ⟨i, H5, inv5, at5, gone5, w5⟩
    rcases turn i n H5 w5 with ⟨stop, final⟩ | ⟨go, Nx, less, step⟩
    · refine thnF (Wk.done Y rfl rfl rfl calm i [] s5 _ H5 (fun _ _ => False) inv5 (still inv5 gone5) at5 stop) fun r s6 ⟨hr, inv6⟩ => ?_
      subst hr
      have inv7 : Inv X pins σ H5 s6 := inv3.call' (ch := fp) inv6.os inv6.base inv6.hok inv6.bare fun b hb =>
        let f := (fr3 b hb).1.2
        ⟨f.2.2.1, f.1, f.2.2.2.1, f.2.2.2.2⟩
      have noC : H5 s3.heap.objs.size = none := by
        rw [← loc]
        exact inv6.free
      obtain ⟨m, ns, _⟩ := inv6.loc
      have ns : s6.heap.Ns s3.heap.objs.size m := by
        rw [← loc]
        exact ns
      obtain ⟨f0, f1, f2, f3, f4, f5⟩ := inv3.fpOk (Nat.le_refl _) noC
      exact ⟨m, ns, fun h'' sb => ⟨.ref D, H5, inv7.turned (t' := s6.toks) (fun b o hb e => (sb.2 b hb).trans e) f0 f1 f3 f4 f5, rfl, final⟩⟩
    · refine thnF (Wk.item Y rfl rfl rfl calm i [] s5 _ H5 (fun _ _ => False) inv5 (still inv5 gone5) at5 go) fun r s6 ⟨u, hr, h6⟩ => ?_
      subst hr
      refine thnF h6 fun _ s7 ⟨x, H7, inv7, r7, y7, at7, gone7⟩ => ?_
      refine thnF (pg.run _ s7 _ H7 x u _ (inv7.pinned (still inv7 gone7) (Wk.obj _ _ at7)) r7 (step x H7 y7)) fun _ s8 ⟨σ8, H8, inv8, same8, q8⟩ => ?_
      refine thnF (pt.run _ s8 σ8 H8 _ inv8 q8) fun b s9 ⟨H9, inv9, q9⟩ => ?_
      have back : ∀ {s' : Shared} {H' : Hp}, Inv Y ([] ++ pinsAt fp s7.heap) σ8 H' s' → Nx H' → ∃ m, m < n ∧ Iv m s' := by
        intro s' H' iv nx
        obtain ⟨m', lt, w'⟩ := less H' nx
        have kept : ∀ b ∈ fp, ∀ o, s7.heap.get? b = some o → s'.heap.get? b = some o ∧ H' b = none := by
          intro b hb o e
          have z := iv.pin (b, o) (List.mem_append_right _ (List.mem_append_right _ (mem_pinsAt hb e)))
          exact ⟨z.1, z.2.1⟩
        have len : (wipe σ (own.map (·.2))).length = σ8.length := by
          rw [← same8, wipe_length]
        refine ⟨m', lt, i + 1, H', (iv.unpinned (pins := [])).weak len ?_, Wk.keep _ _ _ at7 fun b hb o e => (kept b hb o e).1, ?_, w'⟩
        · intro j v e
          rw [← same8] at e
          exact (wipe_some e).1
        · intro b hb
          obtain ⟨o, e, _⟩ := Wk.obj _ _ at7 b hb
          exact (kept b hb o e).2
      cases b with
      | false =>
        rw [if_neg Bool.false_ne_true] at q9
        rw [if_neg Bool.false_ne_true]
        exact back inv9 q9
      | true =>
        rw [if_pos rfl] at q9
        rw [if_pos rfl]
        refine thnF (pm.run _ s9 σ8 H9 _ inv9 q9) fun z s10 ⟨yv, H10, inv10, r10, q10⟩ => ?_
        have add := mt_saddK (X := Y) _ s10 σ8 H10 (.ref D) [yv] (.ref D) [z] _ inv10 rfl (.cons r10 .nil) q10
        exact thnF add fun _ s11 ⟨_, H11, inv11, _, nx⟩ => back inv11 nx
  exact PpSet.codeAny_compStart_set loop (Wk.self X.A 0 _ _ _ at4 loop)
end
end Pf

set_option Elab.async false
set_option linter.all false
set_option maxRecDepth 100000
/-! Sets of ints and texts, by content. -/
namespace Pf
open PySem PySem.Spec PyProof.Rows L2

instance keyLaw : LawfulBEq Key where
  eq_of_beq := fun {a b} h => by
    cases a with
    | inl i => cases b with
      | inl j => exact congrArg Sum.inl (eq_of_beq (show (i == j) = true from h))
      | inr y => cases (show false = true from h)
    | inr x => cases b with
      | inl j => cases (show false = true from h)
      | inr y => exact congrArg Sum.inr (eq_of_beq (show (x == y) = true from h))
  rfl := fun {a} => by
    cases a with
    | inl i => exact beq_self_eq_true i
    | inr x => exact beq_self_eq_true x
def keyOf : D → Rs Key
  | .int i => .ok (.inl i)
  | .str x => .ok (.inr x)
  | _ => .bad
def addK (acc : List Key) (k : Key) : List Key := if k ∈ acc then acc else acc ++ [k]
def ksL (t : Tg) (cond : Sto → Rs Bool) (elt : Sto → Rs D) (ρ0 : Sto) : List D → List Key → Rs (List Key)
  | [], acc => .ok acc
  | d :: ds, acc => (asgT t d ρ0).bind fun ρ1 => (noEx (cond ρ1)).bind fun b =>
    if b = true then (noEx (elt ρ1)).bind fun y => (keyOf y).bind fun k => ksL t cond elt ρ0 ds (addK acc k) else ksL t cond elt ρ0 ds acc
def ksF (t : Tg) (vs : List Nat) (items : Sto → Rs (List D)) (cond : Sto → Rs Bool) (elt : Sto → Rs D) : Sto → Rs (List Key) := fun ρ => (items ρ).bind fun ds => if ds.length ≤ 4000 then noEx (ksL t cond elt (wipeR ρ vs) ds []) else .bad
theorem addK_len (acc : List Key) (k : Key) : (addK acc k).length = if decide (k ∈ acc) = true then acc.length else acc.length + 1 := by
  unfold addK
  by_cases h : k ∈ acc
  · rw [if_pos h, if_pos (decide_eq_true h)]
  · rw [if_neg h, if_neg (by simpa using h), List.length_append]
    rfl
theorem addK_le (acc : List Key) (k : Key) : (addK acc k).length ≤ acc.length + 1 := by
  rw [addK_len]
  split <;> omega
theorem addK_mem (acc : List Key) (k : Key) : (fun j => decide (j ∈ acc) || decide (j = k)) = fun j => decide (j ∈ addK acc k) := by
  funext j
  unfold addK
  by_cases h : k ∈ acc
  · rw [if_pos h]
    by_cases e : j = k
    · subst e; simp [h]
    · simp [e]
  · rw [if_neg h]
    simp [List.mem_append]
theorem kV_of {K : PySem.W.Frag} {F : Hp} {v : V} {d : D} {k : Key} (h : Dn K F v d) (e : keyOf d = .ok k) : v = kV k := by
  cases h <;> cases e <;> rfl
/-- a set that was made for this -/
def rdS (P : Program) (w : World) (K : PySem.W.Frag) (mg : Str → Option Value) (xp : XP) (W : WX) (f : Sto → Rs (List Key)) : TE := fun σ H Q => ∃ ρ O, Rel K xp σ H ρ O ∧
  End K mg W O σ H (fun ks H' => ∀ p, H p = none → H' p = some (SetK P w p (fun j => decide (j ∈ ks)) ks.length) → ks.length < 4096 → Q (.ref p) H') (f ρ)
abbrev CS (X : Cx) (xp : XP) (W : WX) (e : Expr) (f : Sto → Rs (List Key)) : Prop := PE X e (rdS X.prog X.w X.K X.mg xp W f)
section
variable {xp : XP} {W : WX}
theorem rd_ks {P : Program} {w : World} {K : PySem.W.Frag} {mg : Str → Option Value} {t : Tg} {vs : List Nat} {items : Sto → Rs (List D)} {cond : Sto → Rs Bool} {elt : Sto → Rs D} (ht : ∀ i ∈ t.slots, i ∈ vs) {σ : L2.St} {H : Hp} {Q : VK}
    (h : rdS P w K mg xp W (ksF t vs items cond elt) σ H Q) : tKs P w (rdI K mg xp W items) (rdG K xp t) (rdT K mg xp W0 cond) (rdE K mg xp W0 elt) vs σ H Q := by
  obtain ⟨ρ, O, R, q⟩ := h
  refine ⟨ρ, O, R, (End.bind q).imp fun ds H1 _ s1 q1 J G hG wk D hD => ?_⟩
  obtain ⟨lim, q1⟩ := end_ite q1
  cases ec : ksL t cond elt (wipeR ρ vs) ds [] with
  | ex x => rw [ec] at q1; exact q1.elim
  | bad => rw [ec] at q1; exact q1.elim
  | ok ys =>
    rw [ec] at q1
    have R1 := R.mono s1
    let Pv : Nat → Hp → Prop := fun i H' => Same H1 H' ∧ G (msk H' (D :: O)) ∧ ∃ acc, H' D = some (SetK P w D (fun j => decide (j ∈ acc)) acc.length) ∧ acc.length ≤ i ∧ ksL t cond elt (wipeR ρ vs) (ds.drop i) acc = .ok ys
    have sD : ∀ {H' : Hp} {o : HO}, Same H1 H' → Same H1 (upd H' D o) := fun s b u e => by
      rw [upd_ne (ne_of_none e hD)]; exact s b u e
    have mD : ∀ {H' : Hp} {o : HO}, msk (upd H' D o) (D :: O) = msk H' (D :: O) := fun {H' o} => by
      funext b
      by_cases hb : b ∈ D :: O
      · rw [msk_in hb, msk_in hb]
      · rw [msk_out hb, msk_out hb, upd_ne fun e => hb (by rw [e]; simp)]
    refine ⟨fun i m H' => m = ds.length - i ∧ i ≤ ds.length ∧ Pv i H', ⟨ds.length, by simp, Nat.zero_le _, sD (Same.refl _), ?_, [], ?_, Nat.le_refl _, ec⟩, ?_⟩
    · rw [mD]
      exact wk.mono _ _ hG (msk_cons_new hD (Same.refl _))
    · have e : (fun j => decide (j ∈ ([] : List Key))) = fun _ => false := by funext j; simp
      rw [e, upd_same]
      rfl
    · rintro i m H' ⟨rfl, hi, s', g', acc, hl, hla, hc⟩
      by_cases hlt : i < ds.length
      · refine .inr ⟨wk.goes i H' _ hlt g', Pv (i + 1), fun H2 p2 => ⟨ds.length - (i + 1), by omega, rfl, hlt, p2⟩, fun x H2 y => ?_⟩
        have hD' : H' D ≠ none := by rw [hl]; exact Option.some_ne_none _
        have R' : Rel K xp (wipe σ vs) H' (wipeR ρ vs) (D :: O) := (rel_wipe R1 vs).grow hD s' hD'
        obtain ⟨s2, d, e1, hd⟩ := wk.yields i H' _ x H2 hlt g' R'.thr y
        rw [List.drop_eq_getElem_cons hlt] at hc
        have e2 : ds[i] = d := by
          rw [List.getElem?_eq_getElem hlt] at e1
          exact Option.some.inj e1
        rw [e2] at hc
        unfold ksL at hc
        obtain ⟨ρ1, a1, hc⟩ := bind_ok hc
        obtain ⟨b, a2, hc⟩ := bind_ok hc
        have a2 := noEx_ok a2
        have hl2 := s2 _ _ hl
        refine ⟨wipeR ρ vs, D :: O, d, ρ1, R'.mono s2, hd, a1, fun σ2 R2 wp => ⟨(wp vs ht).trans (wipe_idem fun _ h => h), ρ1, D :: O, R2, ?_⟩⟩
        rw [a2]
        intro H3 s3
        have hl3 := s3 _ _ hl2
        have g3 : G (msk H3 (D :: O)) := wk.mono _ _ g' (msk_same (s2.trans s3))
        have s13 : Same H1 H3 := s'.trans (s2.trans s3)
        cases b with
        | true =>
          rw [if_pos rfl] at hc
          refine iteT ?_
          obtain ⟨yy, a3, hc⟩ := bind_ok hc
          obtain ⟨k, a4, hc⟩ := bind_ok hc
          have a3 := noEx_ok a3
          refine ⟨ρ1, D :: O, R2.mono s3, ?_⟩
          rw [a3]
          intro H4 s4 v hv
          have hl4 := s4 _ _ hl3
          refine ⟨D, k, _, _, rfl, by rw [kV_of hv a4], hl4, by have : scanBound = 4096 := rfl; omega, sD (s13.trans s4), ?_, addK acc k, ?_, Nat.le_trans (addK_le _ _) (by omega), hc⟩
          · rw [mD]
            exact wk.mono _ _ g3 (msk_same s4)
          · rw [addK_mem, upd_same, addK_len]
        | false =>
          rw [if_neg Bool.false_ne_true] at hc
          refine iteF ?_
          exact ⟨s13, g3, acc, hl3, by omega, hc⟩
      · have e : i = ds.length := by omega
        subst e
        refine .inl ⟨wk.stops H' _ g', ?_⟩
        rw [List.drop_length] at hc
        cases hc
        exact q1 H' s' D (s1.free hD) hl (by omega)
end
section
variable {X : Cx} {xp : XP} {W : WX} {elt tg iter : Expr} {ifs : List Expr} {scope : Scope} {own : List (Str × Nat)} {pos : Pos} {t : Tg} {items : Sto → Rs (List D)} {cond : Sto → Rs Bool} {fe : Sto → Rs D}
theorem cs_ks (hc : X.calm = true) (hN : X.N.Nodup) (hi : CI X xp W tg iter items) (ok : BlkOk X.N X.env.scope scope own)
    (hg : ∀ (s : Shared) (H : Hp) (C : Addr) (cl : List (Str × Addr)) (fp : List Addr), CG (X.blk s H scope (compEnvC scope cl C X.env) fp) xp tg t)
    (ht : ∀ (s : Shared) (H : Hp) (C : Addr) (cl : List (Str × Addr)) (fp : List Addr), CTs (X.blk s H scope (compEnvC scope cl C X.env) fp) xp W0 ifs cond)
    (he : ∀ (s : Shared) (H : Hp) (C : Addr) (cl : List (Str × Addr)) (fp : List Addr), CE (X.blk s H scope (compEnvC scope cl C X.env) fp) xp W0 elt fe)
    (hs : ∀ x, foldedSetIterable iter X.env x = pure x) (hts : ∀ i ∈ t.slots, i ∈ own.map (·.2)) : CS X xp W (.SetComp elt [⟨tg, iter, ifs, 0⟩] scope pos) (ksF t (own.map (·.2)) items cond fe) :=
  pe_imp (pe_ks hc hN hi ok hg ht he hs) fun _ _ _ h => rd_ks hts h
/-- len of a set -/
def rLenK (P : Program) (w : World) : List V → Hp → VK → Prop := fun xs H Q => ∃ a S n, xs = [V.ref a] ∧ H a = some (SetK P w a S n) ∧ n < 4096 ∧ Q (.int n) H
theorem call_lenK : CallR X (.builtin "len") (rLenK X.prog X.w) := by
  intro pins s σ H xs us Q I r h
  obtain ⟨a, S, n, rfl, e, hn, q⟩ := h
  obtain ⟨u, rfl, rx⟩ := vals1 r
  obtain rfl : u = Value.ref a := rx
  obtain ⟨o, es, ep, t, ho, hex, hd, _, _, _, hf, hz⟩ := setK_get I e
  exact call_len_set ho hex hd hf (by omega) ⟨.int n, H, I.tok _, ⟨_, by rw [hz]⟩, q⟩
variable {e : Expr} {f : Sto → Rs (List Key)} {p : Pos}
theorem ce_lenS (hg : Gl X "len") (hm : X.mg "len" = none) (ha : CS X xp W e f) (he : starEach [e] X.env = (false, eval e X.env) :: starEach [] X.env) (hpl : (backTo pos (starEach [] X.env)).any (·.1) = false) :
    CE X xp W (.Call (.Name "len" p) [e] [] pos) (fun ρ => (f ρ).bind fun ks => .ok (.int ks.length)) :=
  pe_imp (pe_callB call_lenK hg hm rfl (pa_cons ha pa_nil he) (by decide) (by decide) he hpl) fun σ H Q ⟨ρ, O, R, q⟩ =>
    ⟨ρ, O, R, (End.bind q).imp fun ks H1 _ s1 q1 p hp h1 hl => ⟨p, _, _, rfl, h1, hl, q1.ok _ (.int _)⟩⟩
end
end Pf

set_option Elab.async false
set_option linter.all false
set_option maxRecDepth 100000
/-! isinstance, by content. -/
namespace Pf
open PySem PySem.Spec PyProof.Rows L2

inductive TyN where
  | str | int | bool | list | tuple | dict
  deriving DecidableEq
def TyN.nm : TyN → String
  | .str => "str" | .int => "int" | .bool => "bool" | .list => "list" | .tuple => "tuple" | .dict => "dict"
/-- the kinds of data -/
inductive Kd where
  | non | bl | int | str | lst | tup | dct
def kd : D → Kd
  | .none => .non | .bool _ => .bl | .int _ => .int | .str _ => .str | .list _ => .lst | .tuple _ => .tup | .dict _ => .dct
def Kd.nm : Kd → String
  | .non => "NoneType" | .bl => "bool" | .int => "int" | .str => "str" | .lst => "list" | .tup => "tuple" | .dct => "dict"
def isaK : TyN → Kd → Bool
  | .str, .str => true
  | .int, .int => true
  | .int, .bl => true
  | .bool, .bl => true
  | .list, .lst => true
  | .tuple, .tup => true
  | .dict, .dct => true
  | _, _ => false
theorem isa_kit : ∀ (T : TyN) (k : Kd), kitB k.nm T.nm = some (isaK T k) := by
  intro T k
  cases k <;> cases T <;> decide +kernel
theorem dn_ty {K : PySem.W.Frag} {H : Hp} {v : V} {d : D} (h : Dn K H v d) : TyX K H v (.type (kd d).nm) := by
  cases h with
  | non => exact .base .non
  | bl b => exact .base (.bl b)
  | int i => exact .base (.int i)
  | str h1 h2 => exact .base (.str _)
  | lst h1 h2 h3 =>
    rcases h1 with (h1 | ⟨o, h1⟩) | ⟨its, n, h1, _⟩
    · exact .base (.lst h1)
    · exact .base (.frz h1)
    · exact .kList h1 rfl
  | tup h1 h2 h3 =>
    rcases h1 with (h1 | ⟨o, h1⟩) | h1
    · exact .base (.tup h1)
    · exact .fTuple h1
    · obtain ⟨o, _, _, h1, h2, _⟩ := h1
      exact .kTuple h1 h2
  | dct h1 h2 h3 => exact .base (.dK h1)
theorem boot_ty : ∀ T : TyN, bootBuiltins (T.nm : Str) = some (.type T.nm) := by
  intro T
  cases T <;> rfl
section
variable {X : Cx} {xp : XP} {W : WX} {e : Expr} {fa : Sto → Rs D} {p p1 p2 pos : Pos}
theorem pe_tyn (T : TyN) (hg : Gl X T.nm) (hm : X.mg T.nm = none) : PE X (.Name T.nm p) (tC (.ty T.nm)) :=
  pe_bltn hg hm (boot_ty T) rfl (by cases T <;> decide) (by cases T <;> decide)
theorem ce_isa (T : TyN) (hg : Gl X "isinstance") (hm : X.mg "isinstance" = none) (hg2 : Gl X T.nm) (hm2 : X.mg T.nm = none) (ha : CL X xp W e fa) (hs : starEach [e, .Name T.nm p2] X.env = (false, eval e X.env) :: starEach [.Name T.nm p2] X.env) :
    CE X xp W (.Call (.Name "isinstance" p) [e, .Name T.nm p2] [] pos) (fun ρ => (fa ρ).bind fun d => .ok (.bool (isaK T (kd d)))) :=
  pe_imp (pe_callB call_isi hg hm rfl (pa_cons ha (pa_cons (pe_tyn T hg2 hm2) pa_nil rfl) hs) (by decide) (by decide) hs rfl) fun σ H Q ⟨ρ, O, R, q⟩ =>
    ⟨ρ, O, R, (End.bind q).imp fun d H1 _ s1 q1 v hv => ⟨_, _, _, _, _, rfl, .ty _, dn_ty hv, kit_ty (isa_kit T (kd d)), q1.ok _ (.bl _)⟩⟩
theorem ce_isa2 (T U : TyN) {k : Nat} {p3 : Pos} (hg : Gl X "isinstance") (hm : X.mg "isinstance" = none) (hg2 : Gl X T.nm) (hm2 : X.mg T.nm = none) (hg3 : Gl X U.nm) (hm3 : X.mg U.nm = none) (ha : CL X xp W e fa)
    (hs : starEach [e, .Tuple [.Name T.nm p2, .Name U.nm p3] k p1] X.env = (false, eval e X.env) :: starEach [.Tuple [.Name T.nm p2, .Name U.nm p3] k p1] X.env) :
    CE X xp W (.Call (.Name "isinstance" p) [e, .Tuple [.Name T.nm p2, .Name U.nm p3] k p1] [] pos) (fun ρ => (fa ρ).bind fun d => .ok (.bool (isaK T (kd d) || isaK U (kd d)))) :=
  pe_imp (pe_callB call_isiT hg hm rfl (pa_cons ha (pa_cons (pe_tup (pa_cons (pe_tyn T hg2 hm2) (pa_cons (pe_tyn U hg3 hm3) pa_nil rfl) rfl)) pa_nil rfl) hs) (by decide) (by decide) hs rfl) fun σ H Q ⟨ρ, O, R, q⟩ =>
    ⟨ρ, O, R, (End.bind q).imp fun d H1 _ s1 q1 v hv => ⟨by show 2 ≤ sizeLine; decide, fun tp hp => ⟨_, tp, _, _, _, isaK T (kd d) || isaK U (kd d), rfl, upd_same, .cons (.ty _) (.cons (.ty _) .nil), dn_ty (dp_mono (same_new hp) hv), kitAny_cons (kit_ty (isa_kit T (kd d))) (fun e => kitAny_cons (kit_ty (isa_kit U (kd d))) (fun e' => by rw [e, e']; rfl) (fun e' => by rw [e, e']; rfl)) (fun e => by rw [e]; rfl), q1 _ (same_new hp) _ (.bl _)⟩⟩⟩
end

/-! ### the defs of the program, by content -/
/-- the promise of a def of n parameters that computes m -/
def spF (K : PySem.W.Frag) (mg : Str → Option Value) (n : Nat) (m : List D → Rs D) : Sp := fun vs H Q E => ∃ (O : List Addr) (ds : List D), Thr H O ∧ DnAll K (msk H O) vs ds ∧ ds.length = n ∧ match m ds with
  | .ok d => ∀ H' v, Same H H' → Dn K (msk H' O) v d → Q v H'
  | .ex e => ∀ H' cls dd, Same H H' → ExAt K mg (msk H' O) e cls dd → E cls dd H'
  | .bad => False
/-- the def named x, of n parameters, computes m -/
def Does (X : Cx) (x : Str) (n : Nat) (m : List D → Rs D) : Prop :=
  ∃ (k : Nat) (f : Addr) (fd : FuncData) (ps : List Str), FnG X.prog X.w X.K X.mg X.base k f fd ps (spF X.K X.mg n m) ∧ Room k X.A ∧ X.mg x = some (.ref f) ∧ PySem.W.keepIn X.K (.ref f) = true ∧ Binds X.K fd ps []
section
variable {X : Cx} {xp : XP} {W : WX} {x : Str} {e : Expr} {es : List Expr} {fs : Sto → Rs (List D)} {n : Nat} {m : List D → Rs D} {p pos : Pos}
theorem rd_user {K : PySem.W.Frag} {mg : Str → Option Value} {σ : L2.St} {H : Hp} {Q : VK} (h : rdE K mg xp W (fun ρ => (fs ρ).bind fun ds => if ds.length = n then m ds else .bad) σ H Q) : tCallSD (spF K mg n m) [] (fun σ cls d H' => W cls d σ H') (rdA K mg xp W fs) σ H Q := by
  obtain ⟨ρ, O, R, q⟩ := h
  refine ⟨ρ, O, R, (End.bind q).imp fun ds H1 _ s1 q1 vs hv => ?_⟩
  obtain ⟨hl, q1⟩ := end_ite q1
  refine ⟨O, ds, (R.mono s1).thr, by rw [List.append_nil]; exact hv, hl, ?_⟩
  cases e : m ds with
  | ok d => rw [e] at q1; exact fun H' v s hd => q1 H' s v hd
  | ex x => rw [e] at q1; exact fun H' cls dd s hx => q1 H' cls dd s hx
  | bad => rw [e] at q1; exact q1.elim
theorem ce_user (tk : Takes X W) (nore : NoRepr X.A) (hg : Gl X x) (hd : Does X x n m) (ha : CA X xp W (e :: es) fs) (hdb : (x == ("__debug__" : Str)) = false) (he : starEach (e :: es) X.env = (false, eval e X.env) :: starEach es X.env) (hpl : (backTo pos (starEach es X.env)).any (·.1) = false) :
    CE X xp W (.Call (.Name x p) (e :: es) [] pos) (fun ρ => (fs ρ).bind fun ds => if ds.length = n then m ds else .bad) := by
  obtain ⟨k, f, fd, ps, F, room, hm, hk, hb⟩ := hd
  exact pe_imp (pe_callG F room nore hg hm hk hb (ds := []) (dvs := []) .nil (fun σ => passAt tk σ) ha hdb he hpl) fun _ _ _ h => rd_user h
theorem ce_user0 (tk : Takes X W) (nore : NoRepr X.A) (hg : Gl X x) (hd : Does X x n m) (hdb : (x == ("__debug__" : Str)) = false) :
    CE X xp W (.Call (.Name x p) [] [] pos) (fun _ => if 0 = n then m [] else .bad) := by
  obtain ⟨k, f, fd, ps, F, room, hm, hk, hb⟩ := hd
  refine pe_imp (pe_call0G F room nore hg hm hk hb (ds := []) (dvs := []) .nil (fun σ => passAt tk σ) hdb) fun σ H Q ⟨ρ, O, R, q⟩ => ?_
  obtain ⟨hl, q⟩ := end_ite q
  refine ⟨O, [], R.thr, .nil, hl, ?_⟩
  cases e : m [] with
  | ok d => rw [e] at q; exact fun H' v s hd => q H' s v hd
  | ex x => rw [e] at q; exact fun H' cls dd s hx => q H' cls dd s hx
  | bad => rw [e] at q; exact q.elim
end
end Pf

set_option Elab.async false
set_option linter.all false
set_option maxRecDepth 100000
/-! Statements, by content. -/
namespace Pf
open PySem PySem.Spec PyProof.Rows L2

/-- how a suite ends -/
inductive Out where
  | nx (ρ : Sto)
  | rt (d : D)
  | bk (ρ : Sto)
  | ct (ρ : Sto)
  | ex (e : EX) (ρ : Sto)
  | bad
def Out.seq : Out → (Sto → Out) → Out
  | .nx ρ, k => k ρ
  | o, _ => o
def Out.ofR {α : Type} (r : Rs α) (ρ : Sto) (k : α → Out) : Out := match r with
  | .ok a => k a
  | .ex e => .ex e ρ
  | .bad => .bad
/-- the frame: the lists that are ours here (O), those of the callers (B) -/
structure Fr (K : PySem.W.Frag) (xp : XP) (B : List Addr) (σ : L2.St) (H : Hp) (ρ : Sto) (O : List Addr) : Prop where
  rel : Rel K xp σ H ρ (O ++ B)
  own : ∀ (i : Nat) (xs : List D) (a : Addr), ρ[i]? = some (some (.own xs)) → σ[i]? = some (some (.ref a)) → a ∈ O ∧ a ∉ B
/-- what stands outside of ours stands -/
def Stp (H : Hp) (O : List Addr) (H' : Hp) (O' : List Addr) : Prop := Same (msk H O) (msk H' O')
theorem Stp.refl {H : Hp} {O : List Addr} : Stp H O H O := Same.refl _
theorem Stp.trans {H H' H'' : Hp} {O O' O'' : List Addr} (s : Stp H O H' O') (t : Stp H' O' H'' O'') : Stp H O H'' O'' := fun b o e => t b o (s b o e)
theorem Stp.same {H H' : Hp} {O : List Addr} (s : Same H H') : Stp H O H' O := msk_same s
theorem Fr.mono {K : PySem.W.Frag} {xp : XP} {B O : List Addr} {σ : L2.St} {H H' : Hp} {ρ : Sto} (f : Fr K xp B σ H ρ O) (s : Same H H') : Fr K xp B σ H' ρ O := ⟨f.rel.mono s, f.own⟩
def EndS (K : PySem.W.Frag) (mg : Str → Option Value) (xp : XP) (W : WX) (B : List Addr) (T : Ends) (H : Hp) (O : List Addr) : Out → Prop
  | .nx ρ => ∀ σ' H' O', Stp H O H' O' → Fr K xp B σ' H' ρ O' → T.nx σ' H'
  | .rt d => ∀ v H' O', Stp H O H' O' → Thr H' (O' ++ B) → Dn K (msk H' (O' ++ B)) v d → T.rt v H'
  | .bk ρ => ∀ σ' H' O', Stp H O H' O' → Fr K xp B σ' H' ρ O' → T.bk σ' H'
  | .ct ρ => ∀ σ' H' O', Stp H O H' O' → Fr K xp B σ' H' ρ O' → T.ct σ' H'
  | .ex e ρ => ∀ σ' H' O' cls d, Stp H O H' O' → Fr K xp B σ' H' ρ O' → ExAt K mg (msk H' (O' ++ B)) e cls d → W cls d σ' H'
  | .bad => False
section
variable {K : PySem.W.Frag} {mg : Str → Option Value} {xp : XP} {W : WX} {B O O1 : List Addr} {T T' : Ends} {H H1 : Hp} {o : Out}
theorem EndS.grow (h : EndS K mg xp W B T H O o) (s : Stp H O H1 O1) : EndS K mg xp W B T H1 O1 o := by
  cases o with
  | nx ρ => exact fun σ' H' O' t f => h σ' H' O' (s.trans t) f
  | rt d => exact fun v H' O' t f => h v H' O' (s.trans t) f
  | bk ρ => exact fun σ' H' O' t f => h σ' H' O' (s.trans t) f
  | ct ρ => exact fun σ' H' O' t f => h σ' H' O' (s.trans t) f
  | ex e ρ => exact fun σ' H' O' cls d t f => h σ' H' O' cls d (s.trans t) f
  | bad => exact h
/-- the expression first -/
theorem EndS.ofR {α : Type} {r : Rs α} {ρ : Sto} {k : α → Out} {σ : L2.St} (h : EndS K mg xp W B T H O (.ofR r ρ k)) (f : Fr K xp B σ H ρ O) : End K mg W (O ++ B) σ H (fun a H' => EndS K mg xp W B T H' O (k a)) r := by
  cases r with
  | ok a => exact fun H' s => EndS.grow h (Stp.same s)
  | ex e => exact fun H' cls d s x => h σ H' O cls d (Stp.same s) (f.mono s) x
  | bad => exact h
theorem EndS.ofR0 {α : Type} {r : Rs α} {ρ : Sto} {k : α → Out} {σ : L2.St} (h : EndS K mg xp W B T H O (.ofR r ρ k)) (f : Fr K xp B σ H ρ O) : End K mg W (O ++ B) σ H (fun a _ => EndS K mg xp W B T H O (k a)) r := by
  cases r with
  | ok a => exact fun H' s => h
  | ex e => exact fun H' cls d s x => h σ H' O cls d (Stp.same s) (f.mono s) x
  | bad => exact h
theorem EndS.seq {k : Sto → Out} (h : EndS K mg xp W B T H O (o.seq k)) : EndS K mg xp W B { T with nx := fun σ' H' => ∃ ρ O', Fr K xp B σ' H' ρ O' ∧ EndS K mg xp W B T H' O' (k ρ) } H O o := by
  cases o with
  | nx ρ => exact fun σ' H' O' t f => ⟨ρ, O', f, EndS.grow h t⟩
  | rt d => exact h
  | bk ρ => exact h
  | ct ρ => exact h
  | ex e ρ => exact h
  | bad => exact h
end
def rdSt (K : PySem.W.Frag) (mg : Str → Option Value) (xp : XP) (W : WX) (B : List Addr) (f : Sto → Out) : TS := fun T σ H => ∃ ρ O, Fr K xp B σ H ρ O ∧ EndS K mg xp W B T H O (f ρ)
abbrev CSt (X : Cx) (xp : XP) (W : WX) (B : List Addr) (st : Stmt) (f : Sto → Out) : Prop := PS X st (rdSt X.K X.mg xp W B f)
abbrev CSs (X : Cx) (xp : XP) (W : WX) (B : List Addr) (sts : List Stmt) (f : Sto → Out) : Prop := PSs X sts (rdSt X.K X.mg xp W B f)
theorem ps_imp {X : Cx} {st : Stmt} {t t' : TS} (h : PS X st t) (k : ∀ T σ H, t' T σ H → t T σ H) : PS X st t' := ⟨fun pins s σ H T I q => h.run pins s σ H T I (k T σ H q)⟩
theorem pss_imp {X : Cx} {st : List Stmt} {t t' : TS} (h : PSs X st t) (k : ∀ T σ H, t' T σ H → t T σ H) : PSs X st t' := ⟨fun pins s σ H T I q => h.run pins s σ H T I (k T σ H q)⟩
section
variable {X : Cx} {xp : XP} {W : WX} {B : List Addr} {st : Stmt} {sts : List Stmt} {f g : Sto → Out} {e : Expr} {fe : Sto → Rs D} {ft : Sto → Rs Bool} {pos : Pos}
theorem cst_nil : CSs X xp W B [] (fun ρ => .nx ρ) := pss_imp pss_nil fun T σ H ⟨ρ, O, fr, q⟩ => q σ H O .refl fr
theorem cst_cons (h : CSt X xp W B st f) (h2 : CSs X xp W B sts g) : CSs X xp W B (st :: sts) (fun ρ => (f ρ).seq g) := pss_imp (pss_cons h h2) fun T σ H ⟨ρ, O, fr, q⟩ => ⟨ρ, O, fr, q.seq⟩
theorem cst_one (h : CSt X xp W B st f) : CSs X xp W B [st] f := pss_one h
theorem cst_pass : CSt X xp W B (.Pass pos) (fun ρ => .nx ρ) := ps_imp ps_pass fun T σ H ⟨ρ, O, fr, q⟩ => q σ H O .refl fr
theorem cst_break : CSt X xp W B (.Break pos) (fun ρ => .bk ρ) := ps_imp ps_break fun T σ H ⟨ρ, O, fr, q⟩ => q σ H O .refl fr
theorem cst_cont : CSt X xp W B (.Continue pos) (fun ρ => .ct ρ) := ps_imp ps_continue fun T σ H ⟨ρ, O, fr, q⟩ => q σ H O .refl fr
theorem cst_ret (h : CE X xp W e fe) : CSt X xp W B (.Return (some e) pos) (fun ρ => .ofR (fe ρ) ρ fun d => .rt d) :=
  ps_imp (ps_ret h) fun T σ H ⟨ρ, O, fr, q⟩ => ⟨ρ, O ++ B, fr.rel, (EndS.ofR q fr).imp fun d H' _ s k v hv => k v H' O .refl (fr.rel.thr.same s) hv⟩
theorem cst_retN : CSt X xp W B (.Return none pos) (fun _ => .rt .none) := ps_imp ps_retN fun T σ H ⟨ρ, O, fr, q⟩ => q .non H O .refl fr.rel.thr .non
theorem cst_expr (h : CE X xp W e fe) (hs : swapsWith e none pos.line X.env = pure false) : CSt X xp W B (.Expr e pos) (fun ρ => .ofR (fe ρ) ρ fun _ => .nx ρ) :=
  ps_imp (ps_expr h hs) fun T σ H ⟨ρ, O, fr, q⟩ => ⟨ρ, O ++ B, fr.rel, (EndS.ofR q fr).imp fun d H' _ s k v hv => k σ H' O .refl (fr.mono s)⟩
theorem cst_if {c : Expr} {a b : List Stmt} (hc : CT X xp W c ft) (ha : CSs X xp W B a f) (hb : CSs X xp W B b g) : CSt X xp W B (.If c a b pos) (fun ρ => .ofR (ft ρ) ρ fun k => if k = true then f ρ else g ρ) :=
  ps_imp (ps_if hc ha hb) fun T σ H ⟨ρ, O, fr, q⟩ => ⟨ρ, O ++ B, fr.rel, (EndS.ofR q fr).imp fun k H' _ s z => by
    cases k with
    | true => exact ⟨ρ, O, fr.mono s, z⟩
    | false => exact ⟨ρ, O, fr.mono s, z⟩⟩
/-! ### x = .. -/
theorem setAll_own {xs : List D} : ∀ {is : List Nat} {ds : List D} {ρ : Sto} {i : Nat}, ds.length = is.length → (setAll is ds ρ)[i]? = some (some (.own xs)) → i ∉ is ∧ ρ[i]? = some (some (.own xs))
  | [], _, _, _, _, h => ⟨by simp, h⟩
  | j :: is, [], _, _, hl, _ => by cases hl
  | j :: is, d :: ds, ρ, i, hl, h => by
    obtain ⟨h1, h2⟩ := setAll_own (is := is) (ds := ds) (by simpa using hl) h
    rcases get_set h2 with ⟨_, e⟩ | ⟨ne, e⟩
    · cases e
    · exact ⟨by simp only [List.mem_cons, not_or]; exact ⟨fun z => ne z.symm, h1⟩, e⟩
theorem asgT_own {t : Tg} {d : D} {ρ ρ' : Sto} {i : Nat} {xs : List D} (e : asgT t d ρ = .ok ρ') (h : ρ'[i]? = some (some (.own xs))) : i ∉ t.slots ∧ ρ[i]? = some (some (.own xs)) := by
  cases t with
  | nm j =>
    cases e
    rcases get_set h with ⟨_, e⟩ | ⟨ne, e⟩
    · cases e
    · exact ⟨by simp only [Tg.slots, List.mem_singleton]; exact fun z => ne z.symm, e⟩
  | tp is =>
    have e : ((seqOf d).bind fun ds => if ds.length = is.length then Rs.ok (setAll is ds ρ) else .bad) = .ok ρ' := e
    obtain ⟨ds, _, e⟩ := bind_ok e
    by_cases hl : ds.length = is.length
    · rw [if_pos hl] at e
      cases e
      exact setAll_own hl h
    · rw [if_neg hl] at e; cases e
theorem wipe_get {σ : L2.St} {i : Nat} : ∀ {vs : List Nat}, i ∉ vs → (wipe σ vs)[i]? = σ[i]?
  | [], _ => rfl
  | v :: vs, h => by
    simp only [List.mem_cons, not_or] at h
    show ((wipe σ vs).set v none)[i]? = _
    rw [List.getElem?_set_ne fun z => h.1 z.symm]
    exact wipe_get h.2
theorem Fr.asg {K : PySem.W.Frag} {O : List Addr} {σ σ' : L2.St} {H : Hp} {ρ ρ' : Sto} {t : Tg} {d : D} (fr : Fr K xp B σ H ρ O) (e : asgT t d ρ = .ok ρ') (r : Rel K xp σ' H ρ' (O ++ B)) (w : wipe σ' t.slots = wipe σ t.slots) : Fr K xp B σ' H ρ' O :=
  ⟨r, fun i xs a h1 h2 => by
    obtain ⟨h3, h4⟩ := asgT_own e h1
    refine fr.own i xs a h4 ?_
    rw [← wipe_get (σ := σ) h3, ← w, wipe_get h3, h2]⟩
/-- a target takes a value -/
theorem rd_asg {K : PySem.W.Frag} {mg : Str → Option Value} {O : List Addr} {t : Tg} {T : Ends} {σ : L2.St} {H : Hp} {ρ : Sto} {d : D} {v : V} {k : Sto → Out} (fr : Fr K xp B σ H ρ O) (hv : Dn K (msk H (O ++ B)) v d) (q : EndS K mg xp W B T H O (.ofR (asgT t d ρ) ρ k))
    (nx : ∀ ρ' σ', asgT t d ρ = .ok ρ' → Fr K xp B σ' H ρ' O → EndS K mg xp W B T H O (k ρ') → T.nx σ' H) : asgT t d ρ ≠ .bad → (∀ x, asgT t d ρ ≠ .ex x) → rdG K xp t v σ H T.nx := by
  intro h1 h2
  cases e : asgT t d ρ with
  | bad => exact absurd e h1
  | ex x => exact absurd e (h2 x)
  | ok ρ' =>
    rw [e] at q
    exact ⟨ρ, O ++ B, d, ρ', fr.rel, hv, e, fun σ' r w => nx ρ' σ' e (fr.asg e r (w _ fun _ h => h)) q⟩
theorem asgT_noex {t : Tg} {d : D} {ρ : Sto} (x : EX) : asgT t d ρ ≠ .ex x := by
  cases t with
  | nm i => intro h; cases h
  | tp is =>
    intro h
    have h : ((seqOf d).bind fun ds => if ds.length = is.length then Rs.ok (setAll is ds ρ) else .bad) = .ex x := h
    cases d with
    | list ds =>
      have h : (if ds.length = is.length then Rs.ok (setAll is ds ρ) else .bad) = .ex x := h
      split at h <;> cases h
    | tuple ds =>
      have h : (if ds.length = is.length then Rs.ok (setAll is ds ρ) else .bad) = .ex x := h
      split at h <;> cases h
    | _ => cases h
def asgO (t : Tg) (d : D) (ρ : Sto) : Out := .ofR (asgT t d ρ) ρ fun ρ' => .nx ρ'
theorem rd_asgO {K : PySem.W.Frag} {mg : Str → Option Value} {O : List Addr} {t : Tg} {T : Ends} {σ : L2.St} {H : Hp} {ρ : Sto} {d : D} {v : V} (fr : Fr K xp B σ H ρ O) (hv : Dn K (msk H (O ++ B)) v d) (q : EndS K mg xp W B T H O (asgO t d ρ)) : rdG K xp t v σ H T.nx :=
  rd_asg (k := fun ρ' => .nx ρ') fr hv q (fun ρ' σ' _ f z => z σ' H O .refl f) (fun e => by
    have q : EndS K mg xp W B T H O (.ofR (asgT t d ρ) ρ fun ρ' => .nx ρ') := q
    rw [e] at q; exact q) asgT_noex
theorem cst_asg {tg : Expr} {t : Tg} (h : CE X xp W e fe) (hg : CG X xp tg t) (hs : swapsWithSole [tg] e pos.line X.env = pure false) (hw : swappedStores [tg] e X.env = pure none) (h1 : (assignEach [tg] X.env).map (·.2) = [assign tg X.env]) :
    CSt X xp W B (.Assign [tg] e pos) (fun ρ => .ofR (fe ρ) ρ fun d => asgO t d ρ) :=
  ps_imp (ps_asg h hg hs hw h1) fun T σ H ⟨ρ, O, fr, q⟩ => ⟨ρ, O ++ B, fr.rel, (EndS.ofR q fr).imp fun d H' _ s k v hv => rd_asgO (fr.mono s) hv k⟩
/-! ### lists of ours -/
/-- a new list of ours in slot i -/
theorem Fr.new {K : PySem.W.Frag} {O : List Addr} {σ : L2.St} {H H' : Hp} {ρ : Sto} {p i : Nat} {vs : List V} {ds : List D} (fr : Fr K xp B σ H ρ O) (hp : H p = none) (s : Same H H') (h : H' p = some (.lst vs)) (a : DnAll K (msk H' (p :: (O ++ B))) vs ds) :
    Fr K xp B (σ.set i (some (.ref p))) H' (ρ.set i (some (.own ds))) (p :: O) := by
  have r : Rel K xp σ H' ρ (p :: (O ++ B)) := fr.rel.grow hp s (by rw [h]; exact Option.some_ne_none _)
  have nB : p ∉ O ++ B := fr.rel.thr.out hp
  have fresh : ∀ (j : Nat) (xs : List D), ρ[j]? = some (some (.own xs)) → σ[j]? ≠ some (some (.ref p)) := fun j xs e1 e2 => by
    obtain ⟨v, h1, b, us, h2, h3, _⟩ := fr.rel.at_ j _ e1
    rw [e2] at h1
    cases h1
    cases h2
    exact nB h3
  refine ⟨⟨by simp [r.len], fun j sv q => ?_, fun j k xs ys v q1 q2 p1 p2 => ?_, r.thr⟩, fun j xs b q1 q2 => ?_⟩
  · rcases get_set q with ⟨rfl, e⟩ | ⟨ne, e⟩
    · obtain rfl := Option.some.inj e
      have hl : i < σ.length := by rw [r.len]; have := (List.getElem?_eq_some_iff.mp q).1; simpa using this
      exact ⟨_, List.getElem?_set_self hl, p, vs, rfl, by simp, h, a⟩
    · rw [List.getElem?_set_ne ne]; exact r.at_ j sv e
  · rcases get_set q1 with ⟨rfl, e⟩ | ⟨ne, e⟩ <;> rcases get_set q2 with ⟨rfl, e'⟩ | ⟨ne', e'⟩
    · rfl
    · rw [List.getElem?_set_ne ne'] at p2
      rcases get_set p1 with ⟨_, z⟩ | ⟨z, _⟩
      · have z : v = .ref p := Option.some.inj z
        rw [z] at p2
        exact absurd p2 (fresh k ys e')
      · exact absurd rfl z
    · rw [List.getElem?_set_ne ne] at p1
      rcases get_set p2 with ⟨_, z⟩ | ⟨z, _⟩
      · have z : v = .ref p := Option.some.inj z
        rw [z] at p1
        exact absurd p1 (fresh j xs e)
      · exact absurd rfl z
    · rw [List.getElem?_set_ne ne] at p1; rw [List.getElem?_set_ne ne'] at p2
      exact r.inj j k xs ys v e e' p1 p2
  · rcases get_set q1 with ⟨rfl, e⟩ | ⟨ne, e⟩
    · rcases get_set q2 with ⟨_, z⟩ | ⟨z, _⟩
      · cases z
        exact ⟨by simp, fun z => nB (List.mem_append_right _ z)⟩
      · exact absurd rfl z
    · rw [List.getElem?_set_ne ne] at q2
      have := fr.own j xs b e q2
      exact ⟨List.mem_cons_of_mem _ this.1, this.2⟩
theorem stp_new {H H' : Hp} {O : List Addr} {p : Addr} (hp : H p = none) (s : Same H H') : Stp H O H' (p :: O) := msk_cons_new hp s
theorem cst_own {ff : Sto → Rs (List D)} {i : Nat} {x : Str} {pos' : Pos} (h : CF X xp W e ff) (hN : X.N.Nodup) (hi : X.N[i]? = some x) (hx : Loc X.env.scope x) (hf : X.fn x = true ∨ X.env.scope.names.lookup x = some .local) (hs : swapsWith e (some (.Name x pos')) pos.line X.env = pure false) :
    CSt X xp W B (.Assign [.Name x pos'] e pos) (fun ρ => .ofR (ff ρ) ρ fun ds => .nx (ρ.set i (some (.own ds)))) :=
  ps_imp (ps_set hN hi hx h hs hf) fun T σ H ⟨ρ, O, fr, q⟩ => ⟨ρ, O ++ B, fr.rel, (EndS.ofR0 q fr).imp fun ds H' _ s k p vs hp h1 hl h2 => k _ H' (p :: O) (stp_new hp s) (fr.new hp s h1 h2)⟩
/-- a list of ours is written in place -/
theorem Fr.put {K : PySem.W.Frag} {O : List Addr} {σ : L2.St} {H : Hp} {ρ : Sto} {a : Addr} {i : Nat} {xs ys : List D} {vs : List V} (fr : Fr K xp B σ H ρ O) (e1 : ρ[i]? = some (some (.own xs))) (e2 : σ[i]? = some (some (.ref a))) (h : DnAll K (msk H (O ++ B)) vs ys) :
    Fr K xp B σ (upd H a (.lst vs)) (ρ.set i (some (.own ys))) O ∧ Stp H O (upd H a (.lst vs)) O := by
  obtain ⟨aO, aB⟩ := fr.own i xs a e1 e2
  have mk : msk (upd H a (.lst vs)) (O ++ B) = msk H (O ++ B) := by
    funext b
    by_cases hb : b ∈ O ++ B
    · rw [msk_in hb, msk_in hb]
    · rw [msk_out hb, msk_out hb, upd_ne fun e => hb (by rw [e]; exact List.mem_append_left _ aO)]
  have mkO : msk (upd H a (.lst vs)) O = msk H O := by
    funext b
    by_cases hb : b ∈ O
    · rw [msk_in hb, msk_in hb]
    · rw [msk_out hb, msk_out hb, upd_ne fun e => hb (by rw [e]; exact aO)]
  have r := fr.rel
  have old : ∀ {j : Nat} {zs : List D}, (ρ.set i (some (.own ys)))[j]? = some (some (.own zs)) → ∃ ws, ρ[j]? = some (some (.own ws)) := fun {j zs} q => by
    rcases get_set q with ⟨rfl, _⟩ | ⟨_, e⟩
    · exact ⟨xs, e1⟩
    · exact ⟨zs, e⟩
  refine ⟨⟨⟨by simp [r.len], fun j sv q => ?_, fun j k zs ws v q1 q2 p1 p2 => ?_, fun b hb e => ?_⟩, fun j zs b q1 q2 => ?_⟩, by show Same (msk H O) (msk (upd H a (.lst vs)) O); rw [mkO]; exact Same.refl _⟩
  · rcases get_set q with ⟨rfl, e⟩ | ⟨ne, e⟩
    · cases e
      exact ⟨_, e2, a, vs, rfl, List.mem_append_left _ aO, upd_same, by rw [mk]; exact h⟩
    · obtain ⟨v, h1, h2⟩ := r.at_ j sv e
      refine ⟨v, h1, ?_⟩
      cases sv with
      | pd d => show Dn K _ v d; rw [mk]; exact h2
      | own zs =>
        obtain ⟨b, us', h3, h4, h5, h6⟩ := h2
        refine ⟨b, us', h3, h4, ?_, by rw [mk]; exact h6⟩
        rw [upd_ne fun z => ?_]
        · exact h5
        · subst z; subst h3
          exact ne (r.inj i j xs zs _ e1 e e2 h1)
      | exc x =>
        obtain ⟨b, dd, w, h3, h4, h5, h6⟩ := h2
        exact ⟨b, dd, w, h3, h4, by rw [mk]; exact h5, by rw [mk]; exact h6⟩
  · obtain ⟨_, o1⟩ := old q1
    obtain ⟨_, o2⟩ := old q2
    exact r.inj j k _ _ v o1 o2 p1 p2
  · by_cases z : b = a
    · subst z; rw [upd_same] at e; cases e
    · rw [upd_ne z] at e; exact r.thr b hb e
  · obtain ⟨_, o⟩ := old q1
    exact fr.own j _ b o q2
theorem Fr.get {K : PySem.W.Frag} {O : List Addr} {σ : L2.St} {H : Hp} {ρ : Sto} {i : Nat} {xs : List D} (fr : Fr K xp B σ H ρ O) (e1 : ρ[i]? = some (some (.own xs))) : ∃ a vs, σ[i]? = some (some (.ref a)) ∧ H a = some (.lst vs) ∧ DnAll K (msk H (O ++ B)) vs xs := by
  obtain ⟨v, h1, a, vs, rfl, _, h2, h3⟩ := fr.rel.at_ i _ e1
  exact ⟨a, vs, h1, h2, h3⟩
def ownAt (ρ : Sto) (i : Nat) : Rs (List D) := match ρ[i]? with
  | some (some (.own xs)) => .ok xs
  | _ => .bad
theorem EndS.ownAt {K : PySem.W.Frag} {mg : Str → Option Value} {T : Ends} {H : Hp} {O : List Addr} {ρ : Sto} {i : Nat} {k : List D → Out} (h : EndS K mg xp W B T H O (.ofR (ownAt ρ i) ρ k)) : ∃ xs, ρ[i]? = some (some (.own xs)) ∧ EndS K mg xp W B T H O (k xs) := by
  unfold Pf.ownAt at h
  split at h
  · rename_i xs e
    exact ⟨xs, e, h⟩
  · exact h.elim
/-- x.append(e), x a list of ours -/
def apF (i : Nat) (fe : Sto → Rs D) : Sto → Out := fun ρ => .ofR (ownAt ρ i) ρ fun xs => .ofR (fe ρ) ρ fun d => if xs.length < LIM then .nx (ρ.set i (some (.own (xs ++ [d])))) else .bad
theorem endS_ite {K : PySem.W.Frag} {mg : Str → Option Value} {T : Ends} {H : Hp} {O : List Addr} {c : Prop} [Decidable c] {o : Out} (h : EndS K mg xp W B T H O (if c then o else .bad)) : c ∧ EndS K mg xp W B T H O o := by
  by_cases e : c
  · rw [if_pos e] at h; exact ⟨e, h⟩
  · rw [if_neg e] at h; exact h.elim
theorem cst_append {i : Nat} {x : Str} {apos cpos p : Pos} (hi : X.N[i]? = some x) (hv : Vis X.env.scope x) (hd : (x == ("__debug__" : Str)) = false) (hcd : (x == ("__classdict__" : Str)) = false) (h : CE X xp W e fe)
    (hfew : ((backTo cpos (starEach [e] X.env)).all (fun x => !x.1) && (backToKw cpos (keywordEach [] X.env)).all (fun x => x.1.isSome) && decide ([e].length + ([] : List Keyword).length + (if ([] : List Keyword).isEmpty then 0 else 1) < 30)) = true)
    (hl : (apos.endLine == cpos.line) = true) (he : starEach [e] X.env = (false, eval e X.env) :: starEach [] X.env) (hpl : (backTo cpos (starEach [] X.env)).any (·.1) = false) (hs : swapsWith (.Call (.Attribute (.Name x p) "append" apos) [e] [] cpos) none pos.line X.env = pure false) :
    CSt X xp W B (.Expr (.Call (.Attribute (.Name x p) "append" apos) [e] [] cpos) pos) (apF i fe) :=
  ps_imp (ps_expr (pe_bm PySem.F.plainAttrs_list PySem.F.slot_list_append PySem.F.type_list_append mt_append (pe_var hi hv hd hcd) (pa_cons h pa_nil he) rfl hfew hl he hpl) hs) fun T σ H ⟨ρ, O, fr, q⟩ => by
    obtain ⟨xs, e1, q⟩ := EndS.ownAt q
    obtain ⟨a, vs, e2, e3, e4⟩ := fr.get e1
    refine ⟨_, e2, .inl ⟨rfl, _, .inl (.inl e3)⟩, ρ, O ++ B, fr.rel, (EndS.ofR q fr).imp fun d H' _ s k v hv => ?_⟩
    obtain ⟨lt, k⟩ := endS_ite k
    have f' := fr.mono s
    have len : vs.length = xs.length := dpAll_len e4
    obtain ⟨g1, g2⟩ := f'.put (vs := vs ++ [v]) (ys := xs ++ [d]) e1 e2 (dpAll_app (dpAll_mono (msk_same s) e4) (.cons hv .nil))
    exact ⟨a, vs, v, rfl, rfl, s _ _ e3, Nat.lt_of_lt_of_le (by omega) lim_line, k _ _ O g2 g1⟩
/-- a list of ours is given away: from here on it is data -/
def frz (i : Nat) (ρ : Sto) : Sto := match ρ[i]? with
  | some (some (.own xs)) => if xs.length ≤ LIM then ρ.set i (some (.pd (.list xs))) else ρ
  | _ => ρ
theorem msk_less {H : Hp} {O O' : List Addr} (h : ∀ b ∈ O', b ∈ O) : Same (msk H O) (msk H O') := fun b o e => by
  obtain ⟨h1, h2⟩ := msk_some e
  rw [msk_out fun z => h1 (h b z)]; exact h2
theorem Fr.frz {K : PySem.W.Frag} {O : List Addr} {σ : L2.St} {H : Hp} {ρ : Sto} (fr : Fr K xp B σ H ρ O) (i : Nat) : ∃ O', Fr K xp B σ H (frz i ρ) O' ∧ Stp H O H O' := by
  unfold Pf.frz
  split
  · rename_i xs e1
    by_cases hl : xs.length ≤ LIM
    · rw [if_pos hl]
      obtain ⟨a, vs, e2, e3, e4⟩ := fr.get e1
      obtain ⟨aO, aB⟩ := fr.own i xs a e1 e2
      let O' := O.filter fun b => decide (b ≠ a)
      have sub : ∀ b ∈ O', b ∈ O := fun b hb => (List.mem_filter.mp hb).1
      have subB : ∀ b ∈ O' ++ B, b ∈ O ++ B := fun b hb => (List.mem_append.mp hb).elim (fun z => List.mem_append_left _ (sub b z)) fun z => List.mem_append_right _ z
      have less : Same (msk H (O ++ B)) (msk H (O' ++ B)) := msk_less subB
      have out : a ∉ O' ++ B := fun z => (List.mem_append.mp z).elim (fun z => by simpa using (List.mem_filter.mp z).2) aB
      have r := fr.rel
      have old : ∀ {j : Nat} {zs : List D}, (ρ.set i (some (SV.pd (.list xs))))[j]? = some (some (.own zs)) → i ≠ j ∧ ρ[j]? = some (some (.own zs)) := fun {j zs} q => by
        rcases get_set q with ⟨rfl, e⟩ | ⟨ne, e⟩
        · cases e
        · exact ⟨ne, e⟩
      have keep : ∀ {j : Nat} {zs : List D} {b : Addr}, i ≠ j → ρ[j]? = some (some (.own zs)) → σ[j]? = some (some (.ref b)) → b ∈ O' := fun {j zs b} ne q1 q2 =>
        List.mem_filter.mpr ⟨(fr.own j zs b q1 q2).1, by simpa using fun z => ne (r.inj i j xs zs (.ref a) e1 q1 e2 (by rw [q2, z]))⟩
      refine ⟨O', ⟨⟨by simp [r.len], fun j sv q => ?_, fun j k zs ws v q1 q2 p1 p2 => r.inj j k _ _ v (old q1).2 (old q2).2 p1 p2, fun b hb => r.thr b (subB b hb)⟩, fun j zs b q1 q2 => ⟨keep (old q1).1 (old q1).2 q2, (fr.own j zs b (old q1).2 q2).2⟩⟩, msk_less sub⟩
      rcases get_set q with ⟨rfl, e⟩ | ⟨ne, e⟩
      · cases e
        exact ⟨_, e2, .lst (.inl (.inl (by rw [msk_out out]; exact e3))) (by rw [dpAll_len e4]; exact hl) (dpAll_mono less e4)⟩
      · obtain ⟨v, h1, h2⟩ := r.at_ j sv e
        refine ⟨v, h1, ?_⟩
        cases sv with
        | pd d => exact dp_mono less h2
        | own zs =>
          obtain ⟨b, us', h3, h4, h5, h6⟩ := h2
          subst h3
          exact ⟨b, us', rfl, List.mem_append_left _ (keep ne e h1), h5, dpAll_mono less h6⟩
        | exc x =>
          obtain ⟨b, dd, w, h3, h4, h5, h6⟩ := h2
          exact ⟨b, dd, w, h3, h4, less _ _ h5, dp_mono less h6⟩
    · rw [if_neg hl]
      exact ⟨O, fr, .refl⟩
  · exact ⟨O, fr, .refl⟩
theorem cst_frz {i : Nat} (h : CSs X xp W B sts f) : CSs X xp W B sts (fun ρ => f (frz i ρ)) := pss_imp h fun T σ H ⟨ρ, O, fr, q⟩ => by
  obtain ⟨O', fr', st⟩ := fr.frz i
  exact ⟨Pf.frz i ρ, O', fr', EndS.grow q st⟩
theorem stp_app {H H' : Hp} {O O' B : List Addr} (s : Stp H O H' O') : Same (msk H (O ++ B)) (msk H' (O' ++ B)) := fun b o e => by
  obtain ⟨h1, h2⟩ := msk_some e
  simp only [List.mem_append, not_or] at h1
  obtain ⟨h3, h4⟩ := msk_some (s b o (by rw [msk_out h1.1]; exact h2))
  rw [msk_out fun z => (List.mem_append.mp z).elim h3 h1.2]
  exact h4
/-! ### for, while -/
def forL (step : D → Sto → Out) : List D → Sto → Out
  | [], ρ => .nx ρ
  | d :: ds, ρ => match step d ρ with
    | .nx ρ' => forL step ds ρ'
    | .ct ρ' => forL step ds ρ'
    | .bk ρ' => .nx ρ'
    | o => o
def forF (t : Tg) (items : Sto → Rs (List D)) (body : Sto → Out) : Sto → Out := fun ρ => .ofR (items ρ) ρ fun ds => forL (fun d ρ' => (asgO t d ρ').seq body) ds ρ
theorem rd_for {K : PySem.W.Frag} {mg : Str → Option Value} {t : Tg} {items : Sto → Rs (List D)} {body : Sto → Out} {T : Ends} {σ : L2.St} {H : Hp} (h : rdSt K mg xp W B (forF t items body) T σ H) : tFor (rdI K mg xp W items) (rdG K xp t) (rdSt K mg xp W B body) T σ H := by
  obtain ⟨ρ, O, fr, q⟩ := h
  refine ⟨ρ, O ++ B, fr.rel, (EndS.ofR q fr).imp fun ds H1 _ s1 q1 J G hG wk => ?_⟩
  let step : D → Sto → Out := fun d ρ' => (asgO t d ρ').seq body
  let Pv : Nat → L2.St → Hp → Prop := fun i σ' H' => ∃ ρ' O', Fr K xp B σ' H' ρ' O' ∧ G (msk H' (O' ++ B)) ∧ EndS K mg xp W B T H' O' (forL step (ds.drop i) ρ')
  refine ⟨fun i m σ' H' => m = ds.length - i ∧ i ≤ ds.length ∧ Pv i σ' H', ⟨ds.length, by simp, Nat.zero_le _, ρ, O, fr.mono s1, hG, q1⟩, ?_⟩
  rintro i m σ' H' ⟨rfl, hi, ρ', O', fr', g', q'⟩
  by_cases lt : i < ds.length
  · refine .inr ⟨wk.goes i H' _ lt g', Pv (i + 1), fun σ2 H2 p2 => ⟨ds.length - (i + 1), by omega, rfl, lt, p2⟩, fun x H2 y => ?_⟩
    obtain ⟨s2, d, e1, hd⟩ := wk.yields i H' _ x H2 lt g' fr'.rel.thr y
    rw [List.drop_eq_getElem_cons lt] at q'
    have e2 : ds[i] = d := by
      rw [List.getElem?_eq_getElem lt] at e1
      exact Option.some.inj e1
    rw [e2] at q'
    have fr2 := fr'.mono s2
    have q2 : EndS K mg xp W B T H2 O' (forL step (d :: ds.drop (i + 1)) ρ') := q'.grow (Stp.same s2)
    -- the walk goes on wherever data stands
    have gk : ∀ {H3 : Hp} {O3 : List Addr}, Same (msk H2 (O' ++ B)) (msk H3 (O3 ++ B)) → G (msk H3 (O3 ++ B)) := fun s => wk.mono _ _ (wk.mono _ _ g' (msk_same s2)) s
    cases ea : asgT t d ρ' with
    | ex z => exact absurd ea (asgT_noex z)
    | bad =>
      have : step d ρ' = .bad := by show (Out.ofR (asgT t d ρ') ρ' fun ρ' => .nx ρ').seq body = _; rw [ea]; rfl
      unfold forL at q2
      rw [this] at q2
      exact q2.elim
    | ok ρ3 =>
      have st : step d ρ' = body ρ3 := by show (Out.ofR (asgT t d ρ') ρ' fun ρ' => .nx ρ').seq body = _; rw [ea]; rfl
      unfold forL at q2
      rw [st] at q2
      refine ⟨ρ', O' ++ B, d, ρ3, fr2.rel, hd, ea, fun σ3 r3 w3 => ⟨ρ3, O', fr2.asg ea r3 (w3 _ fun _ h => h), ?_⟩⟩
      generalize hb : body ρ3 = o at q2
      cases o with
      | nx ρ4 => exact fun σ4 H4 O4 s4 f4 => ⟨ρ4, O4, f4, gk (stp_app s4), q2.grow s4⟩
      | ct ρ4 => exact fun σ4 H4 O4 s4 f4 => ⟨ρ4, O4, f4, gk (stp_app s4), q2.grow s4⟩
      | bk ρ4 => exact q2
      | rt d => exact q2
      | ex x ρ4 => exact q2
      | bad => exact q2
  · have e : i = ds.length := by omega
    subst e
    refine .inl ⟨wk.stops H' _ g', ?_⟩
    rw [List.drop_length] at q'
    exact q' σ' H' O' .refl fr'
theorem cst_for {tg iter : Expr} {body : List Stmt} {t : Tg} {items : Sto → Rs (List D)} (hp : PassesOwn (model X.prog X.w) X.A X.env X.xe) (hc : X.calm = true) (hi : CI X xp W tg iter items) (hg : CG X xp tg t) (hb : CSs X xp W B body f) (hs : ∀ x, foldedSetIterable iter X.env x = pure x) :
    CSt X xp W B (.For tg iter body [] pos) (forF t items f) := ps_imp (ps_for hp hc hi hg hb hs) fun _ _ _ h => rd_for h
def whL (c : Sto → Rs Bool) (body : Sto → Out) : Nat → Sto → Out
  | 0, _ => .bad
  | n + 1, ρ => .ofR (c ρ) ρ fun k => if k = true then (match body ρ with
    | .nx ρ' => whL c body n ρ'
    | .ct ρ' => whL c body n ρ'
    | .bk ρ' => .nx ρ'
    | o => o) else .nx ρ
theorem cst_while {c : Expr} {body : List Stmt} {n : Nat} (hp : PassesOwn (model X.prog X.w) X.A X.env X.xe) (hc : CT X xp W c ft) (hb : CSs X xp W B body f) : CSt X xp W B (.While c body [] pos) (whL ft f n) :=
  ps_imp (ps_while hp hc hb) fun T σ H ⟨ρ, O, fr, q⟩ => by
    refine ⟨fun m σ' H' => ∃ ρ' O', Fr X.K xp B σ' H' ρ' O' ∧ EndS X.K X.mg xp W B T H' O' (whL ft f m ρ'), ⟨n, ρ, O, fr, q⟩, ?_⟩
    rintro m σ' H' ⟨ρ', O', fr', q'⟩
    cases m with
    | zero => exact q'.elim
    | succ m =>
      refine ⟨ρ', O' ++ B, fr'.rel, (EndS.ofR q' fr').imp fun k H2 _ s2 q2 => ?_⟩
      cases k with
      | false => exact q2 σ' H2 O' .refl (fr'.mono s2)
      | true =>
        refine ⟨fun σ3 H3 => ∃ ρ3 O3, Fr X.K xp B σ3 H3 ρ3 O3 ∧ EndS X.K X.mg xp W B T H3 O3 (whL ft f m ρ3), fun σ3 H3 p => ⟨m, Nat.lt_succ_self _, p⟩, ρ', O', fr'.mono s2, ?_⟩
        have q2 : EndS X.K X.mg xp W B T H2 O' (match f ρ' with
          | .nx ρ' => whL ft f m ρ'
          | .ct ρ' => whL ft f m ρ'
          | .bk ρ' => .nx ρ'
          | o => o) := q2
        generalize f ρ' = o at q2
        cases o with
        | nx ρ4 => exact fun σ4 H4 O4 s4 f4 => ⟨ρ4, O4, f4, q2.grow s4⟩
        | ct ρ4 => exact fun σ4 H4 O4 s4 f4 => ⟨ρ4, O4, f4, q2.grow s4⟩
        | bk ρ4 => exact q2
        | rt d => exact q2
        | ex x ρ4 => exact q2
        | bad => exact q2
end
end Pf

set_option Elab.async false
set_option linter.all false
set_option maxRecDepth 100000
/-! The program's own exceptions: one attribute each, set in __init__ behind the base's __init__. -/
namespace Pf
open PySem PySem.Spec PyProof.Rows L2

/-- the built-in class that stands behind an own exception class -/
inductive Bs where
  | exc | val | look | arith | rt | over
def Bs.nm : Bs → String
  | .exc => "Exception" | .val => "ValueError" | .look => "LookupError" | .arith => "ArithmeticError" | .rt => "RuntimeError" | .over => "OverflowError"
def Bs.new : Bs → String
  | .exc => "Exception.__new__" | .val => "ValueError.__new__" | .look => "LookupError.__new__" | .arith => "ArithmeticError.__new__" | .rt => "RuntimeError.__new__" | .over => "OverflowError.__new__"
def Bs.ini : Bs → String
  | .exc => "Exception.__init__" | .val => "ValueError.__init__" | .look => "LookupError.__init__" | .arith => "ArithmeticError.__init__" | .rt => "RuntimeError.__init__" | .over => "OverflowError.__init__"
def Bs.tail : Bs → List Value
  | .exc => [.type "Exception", .type "BaseException", .type "object"]
  | .val => [.type "ValueError", .type "Exception", .type "BaseException", .type "object"]
  | .look => [.type "LookupError", .type "Exception", .type "BaseException", .type "object"]
  | .arith => [.type "ArithmeticError", .type "Exception", .type "BaseException", .type "object"]
  | .rt => [.type "RuntimeError", .type "Exception", .type "BaseException", .type "object"]
  | .over => [.type "OverflowError", .type "ArithmeticError", .type "Exception", .type "BaseException", .type "object"]
theorem Bs.facts : ∀ b : Bs, ExcBaseFacts b.nm b.new b.ini b.tail
  | .exc => F.excBase_Exception
  | .val => F.excBase_ValueError
  | .look => F.excBase_LookupError
  | .arith => F.excBase_ArithmeticError
  | .rt => F.excBase_RuntimeError
  | .over => F.excBase_OverflowError
theorem Bs.store : ∀ b : Bs, StoreFacts b.nm b.tail "object.__setattr__" "object"
  | .exc => F.store_Exception
  | .val => F.store_ValueError
  | .look => F.store_LookupError
  | .arith => F.store_ArithmeticError
  | .rt => F.store_RuntimeError
  | .over => F.store_OverflowError
/-- what the written part says of an own exception class C, f its attribute -/
structure Oc (K : PySem.W.Frag) (b : Bs) (C : Addr) (f : Str) : Prop where
  ini : PySem.W.excInitIn K C b.tail b.new = true
  over : PySem.W.excOver K C b.tail = true
  hd : PySem.W.hasDictIn K C = true
  tk : PySem.W.takerIn K C f = some none
  sa : PySem.W.findIn K (.ref C) "__setattr__" = some (some (.builtin "object.__setattr__"))
  exC : PySem.W.subIn K (.ref C) (.type "BaseException") = some true
  tyC : PySem.W.typeIn K (.ref C) = some (.type "type")
  kC : PySem.W.keepIn K (.ref C) = true
def ocB (K : PySem.W.Frag) (b : Bs) (C : Addr) (f : Str) : Bool :=
  PySem.W.excInitIn K C b.tail b.new && PySem.W.excOver K C b.tail && PySem.W.hasDictIn K C && decide (PySem.W.takerIn K C f = some none) && decide (PySem.W.findIn K (.ref C) "__setattr__" = some (some (.builtin "object.__setattr__"))) &&
    decide (PySem.W.subIn K (.ref C) (.type "BaseException") = some true) && decide (PySem.W.typeIn K (.ref C) = some (.type "type")) && PySem.W.keepIn K (.ref C)
theorem oc_of {K : PySem.W.Frag} {b : Bs} {C : Addr} {f : Str} (h : ocB K b C f = true) : Oc K b C f := by
  unfold ocB at h
  simp only [Bool.and_eq_true, decide_eq_true_eq] at h
  obtain ⟨⟨⟨⟨⟨⟨⟨h1, h2⟩, h3⟩, h4⟩, h5⟩, h6⟩, h7⟩, h8⟩ := h
  exact ⟨h1, h2, h3, h4, h5, h6, h7, h8⟩
section
open Builtin Builtin.ObjectAttr
variable {prog : Program} {w : World} {A : Around} {R : Result → Shared → Prop} {hp : Heap} {g : Array GenState} {d : Drawn} {t : Nat} {os : OsState}
/-- the first attribute of an exception: its dict is made -/
theorem osa_first {K : W.Frag} {b : Bs} {name : Str} {tk : Tok} {v : Value} {x C : Addr} {fv : Array Value} (c : Oc K b C name) (inK : K.In hp) (hx : hp.get? x = some { cls := .ref C, data := .fields fv })
    (goal : ∀ h' tk' dx, (∀ b o, b ≠ x → hp.get? b = some o → h'.get? b = some o) → hp.objs.size ≤ dx → dx ≠ x → h'.get? x = some { cls := .ref C, dict := some dx, data := .fields fv } → h'.Ns1 dx (fun y => if y = name then some v else none) → R (.ok (.ret .none)) ⟨h', g, d, tk', os⟩) :
    codeAny (model prog w) A (.call (.builtin "object.__setattr__") ⟨[.ref x, .str name tk, v], []⟩) R ⟨hp, g, d, t, os⟩ := by
  have lt : x ≠ hp.objs.size := Nat.ne_of_lt (Heap.lt_size hx)
  obtain ⟨cd, hcd, hh⟩ : ∃ cd, W.clsIn K C = some cd ∧ cd.hasDict = true := by
    have z := c.hd
    unfold W.hasDictIn at z
    cases e : W.clsIn K C with
    | none => rw [e] at z; cases z
    | some cd => rw [e] at z; exact ⟨cd, rfl, z⟩
  have cls := W.looks_clsIn (M := model prog w) inK hcd
  have inst : W.InstAt hp x { cls := .ref C, data := .fields fv } C none := ⟨hx, rfl, rfl, trivial⟩
  refine W.osa_openX (s := ⟨hp, g, d, t, os⟩) b.store inK inst c.over c.tk fun bb => ?_
  show wpAny _ _ (storeInOwnDict (.ref x) (.ref C) (.str name tk) name v bb) _ _ _
  obtain ⟨nm, bs, mro, ns, qn, hd, sn, sb, ab, col, del⟩ := cd
  dsimp only at hh
  subst hh
  unfold storeInOwnDict ownDictForStores
  repeat (first | with_reducible refine HandSPX.store_in_new ?_ ?_ | with_reducible refine wpAny_loadPart_at hx ?_ | with_reducible refine cls.at ?_ | wp_step)
  · exact ⟨_, #[], _, (Heap.get?_update_ne _ _ _ _ lt.symm).trans (Heap.get?_push_at rfl rfl), rfl, fun e he => absurd he (by simp), fun _ => rfl⟩
  · intro h' tk' new same
    have kept : (hp.push { cls := .type "dict", data := .dict #[] }).get? x = some { cls := .ref C, data := .fields fv } := Heap.get?_push_of_some _ hx
    refine goal h' tk' hp.objs.size (fun b o ne ho => ?_) (Nat.le_refl _) lt.symm ((same.2 x lt).trans (Heap.get?_update_self _ kept rfl)) new
    rw [same.2 b (Nat.ne_of_lt (Heap.lt_size ho)), Heap.get?_update_ne _ _ _ _ ne]
    exact Heap.get?_push_of_some _ ho
end
section
variable {X : Cx} {pins : List (Addr × Obj)} {σ : L2.St} {H : Hp} {s : Shared} {a C : Addr} {b : Bs} {f : Str} {y : V} {u : Value} {E : Value → Shared → Prop} {A : Around}
theorem own_first {Q : Unit → Shared → Prop} (c : Oc X.K b C f) (I : Inv X pins σ H s) (e : H a = some (exo a C none)) (ry : RelV y u)
    (h : ∀ dx s', H dx = none → dx ≠ a → Inv X pins σ (upd (upd H dx (exd dx [(f, y)])) a (exo a C (some dx))) s' → Q () s') : wpAny (model X.prog X.w) A (setAttr (.ref a) f u) Q E s := by
  obtain ⟨t1, there⟩ := exo_at I.hok e
  obtain ⟨hp, g, d, t, os⟩ := s
  refine PySem.W.set_plain I.kIn (ox := { cls := .ref C, dict := none, data := .fields #[.ref t1, .none, .none, .none, .bool false, .none] }) (od := none) ⟨there, rfl, rfl, trivial⟩ c.sa ?_
  refine osa_first c I.kIn there fun h' tk' dx keep ge ne at' new => ?_
  have free : H dx = none := I.hok.fresh ge
  have nd : ∀ {b : Addr} {o : Obj}, hp.get? b = some o → b ≠ dx := fun {b o} q => Nat.ne_of_lt (Nat.lt_of_lt_of_le (Heap.lt_size q) ge)
  have na : ∀ {b : Addr}, H b = none → b ≠ a := fun {b} n z => by rw [z, e] at n; cases n
  have U : Un X.fs [] H (upd (upd H dx (exd dx [(f, y)])) a (exo a C (some dx))) hp h' :=
    { keep := fun b o q n _ _ => keep b o (na n) q
      slot := fun b o q n _ _ => ⟨o.slots, keep b o (na n) q⟩
      free := fun b o q n _ => by
        rw [upd_ne (na n), upd_ne (nd q)]
        exact n
      there := fun b o q _ => if hb : b = a then hb ▸ ⟨_, at'⟩ else ⟨o, keep b o hb q⟩
      tups := fun b xs q => by
        rw [upd_ne (at_ne e q exo_tup), upd_ne (ne_of_none q free)]
        exact q
      frzs := fun b o v q => by
        rw [upd_ne (at_ne e q exo_frz), upd_ne (ne_of_none q free)]
        exact q
      tbls := fun b ps q => ⟨#[], by rw [upd_ne (at_ne e q exo_tbl), upd_ne (ne_of_none q free), q]; simp⟩ }
  refine h dx _ free ne (I.un (t' := tk') U fun b o q => ?_)
  by_cases hb : b = a
  · rw [hb, upd_same] at q
    cases q
    rw [hb]
    exact exo_ok at'
  · rw [upd_ne hb] at q
    by_cases hd : b = dx
    · rw [hd, upd_same] at q
      cases q
      rw [hd]
      exact exd_ok new (relO_put (fs := []) ry fun _ => trivial)
    · rw [upd_ne hd] at q
      refine (I.hok b o q).stay (fun c v hc z => keep c v ?_ z) (fun c hc => ?_) fun c xs hc => ?_
      · exact hc.elim (fun hc => by rw [hc]; exact hb) fun hc => at_ne e hc exo_own
      · rw [upd_ne (at_ne e hc exo_own), upd_ne (ne_of_none hc free)]
        exact hc
      · rw [upd_ne (at_ne e hc exo_tup), upd_ne (ne_of_none hc free)]
        exact hc
/-- the base's __init__ -/
theorem base_init {us : List Value} {Q : Value → Shared → Prop} (c : Oc X.K b C f) (I : Inv X pins σ H s) (e : H a = some (exo a C none)) (hl : us.length ≤ sizeLine) (h : ∀ s', Inv X pins σ H s' → Q .none s') :
    wpAny (model X.prog X.w) A (call (.builtin b.ini) (.ref a :: us)) Q E s := by
  obtain ⟨t1, there⟩ := exo_at I.hok e
  obtain ⟨nm, N, qn, bs, bm, hdct, sn, sub, ab, col, dd, k0, k1, k2, k3, k5, hC, hT⟩ := PySem.W.excInit_of I.kIn c.ini
  obtain ⟨hp, g, d, t, os⟩ := s
  refine wpAny_call (PySem.HandSPX.init_base b.facts hT hC there hl fun h' t2 keep at' => ?_)
  have J := I.write (t' := t) (x := a) (e := a) (o := exo a C none) (by rw [e]; exact True.intro) (.inl rfl) keep ⟨_, at'⟩ (exo_ok at')
  have same : upd H a (exo a C none) = H := by
    funext b'
    by_cases hb : b' = a
    · rw [hb, upd_same, e]
    · exact upd_ne hb
  rw [same] at J
  exact h _ J
end
end Pf

set_option Elab.async false
set_option linter.all false
set_option maxRecDepth 100000
/-! Own exceptions, made and raised. -/
namespace Pf
open PySem PySem.Spec PyProof.Rows L2

/-- B.__init__(self, ..) -/
def tBi (K : PySem.W.Frag) (b : Bs) (f : Str) (ta : TA) : TE := fun σ H Q => ta σ H fun vs H1 => ∃ (a C : Addr) (ws : List V), vs = .ref a :: ws ∧ ws.length ≤ 1000 ∧ Oc K b C f ∧ H1 a = some (exo a C none) ∧ Q .non H1
/-- the base as it is named in __init__ -/
inductive BaseIs (K : PySem.W.Frag) (mg : Str → Option Value) (b : Bs) : Str → Prop where
  | blt (m : mg b.nm = none) (v : PySem.W.findCls K (.type b.nm) (.type "type") "__init__" = some (.val (.builtin b.ini))) : BaseIs K mg b b.nm
  | own {x : Str} {A : Addr} {mc : Value} (m : mg x = some (.ref A)) (r : ClX.CRead K A mc) (v : PySem.W.findCls K (.ref A) mc "__init__" = some (.val (.builtin b.ini))) (hd : (x == ("__debug__" : Str)) = false) : BaseIs K mg b x
theorem boot_bs : ∀ b : Bs, bootBuiltins (b.nm : Str) = some (.type b.nm) := by
  intro b
  cases b <;> rfl
theorem typ_bs : ∀ b : Bs, typeOf (.type b.nm) = pure (.type "type") := by
  intro b
  cases b <;> kernel_rfl
section
variable {X : Cx} {b : Bs} {x f : Str} {e : Expr} {es : List Expr} {ta : TA} {p1 p2 pos : Pos}
theorem pe_binit {pl : Sem Bool} (B : BaseIs X.K X.mg b x) (hg : Gl X x) (ha : L2.PA X (e :: es) ta)
    (hc : eval (.Call (.Attribute (.Name x p1) "__init__" p2) (e :: es) [] pos) X.env = (do
      let ov ← eval (.Name x p1) X.env
      standAt p2.atName
      let (g, first) ← holding [ov] (getMethod ov "__init__" pl)
      callWith pos g first (backTo pos (starEach (e :: es) X.env)) (backToKw pos (keywordEach [] X.env))))
    (he : starEach (e :: es) X.env = (false, eval e X.env) :: starEach es X.env) (hpl : (backTo pos (starEach es X.env)).any (·.1) = false) :
    PE X (.Call (.Attribute (.Name x p1) "__init__" p2) (e :: es) [] pos) (tBi X.K b f ta) := by
  constructor
  intro pins s σ H Q I wish
  have rest : ∀ {s1 : Shared}, L2.Inv X pins σ H s1 → wpAny (model X.prog X.w) X.A (callWith pos (Value.builtin b.ini) [] (backTo pos (starEach (e :: es) X.env)) (backToKw pos (keywordEach [] X.env))) (EP X pins σ Q) X.xe s1 := by
    intro s1 I1
    refine PyProof.Rows.callWith_method1 (thn (ha.run pos pins s1 σ H _ I1 wish) ?_) he hpl
    rintro us s2 ⟨vs, H1, I2, r1, a, C, ws, rfl, few, c, there, q⟩
    cases r1 with
    | @cons _ u0 _ ur ra rw' =>
      obtain rfl : u0 = Value.ref a := ra
      refine base_init c I2 there ?_ fun s' J => ⟨.non, H1, J, rfl, q⟩
      rw [← Paired.length rw', sizeLine_eq]
      omega
  cases B with
  | blt m v =>
    refine PySem.W.methodCall_KW (ld_blt I hg m (boot_bs b) ?_ (by cases b <;> decide) (by cases b <;> decide)) hc
    obtain ⟨m', fr⟩ := I.fr
    exact PySem.W.method_type fr I.ok.mod.kin (typ_bs b) (by cases b <;> decide +kernel) v (by cases b <;> decide +kernel) (rest (I.tok _))
  | own m r v hd =>
    refine PySem.W.methodCall_KW (ld_glob I hg m ?_ hd) hc
    exact PySem.W.method_cls I.kIn r.ga (PySem.W.cls_value I.kIn r.rd v (by cases b <;> rfl) (rest (I.tok _)))
/-- self.f = e, the first one -/
def tOs (K : PySem.W.Frag) (b : Bs) (f : Str) (to te : TE) : TS := fun D σ H => te σ H fun y H1 => to σ H1 fun x H2 => ∃ a C : Addr, x = .ref a ∧ Oc K b C f ∧ H2 a = some (exo a C none) ∧
  ∀ dx, H2 dx = none → dx ≠ a → D.nx σ (upd (upd H2 dx (exd dx [(f, y)])) a (exo a C (some dx)))
theorem ps_os {o : Expr} {to te : TE} {p' : Pos} (ho : PE X o to) (he : PE X e te) (hs : swapsWith e (some (.Attribute o f p')) pos.line X.env = pure false) : PS X (.Assign [.Attribute o f p'] e pos) (tOs X.K b f to te) := by
  constructor
  intro pins s σ H D I h
  refine plainObj_wpAny_Assign_Attribute (thn (he.run pins s σ H _ I h) ?_) hs
  rintro v s1 ⟨y, H1, I1, r1, q1⟩
  refine thn (ho.run pins s1 σ H1 _ I1 q1) ?_
  rintro u s2 ⟨x, H2, I2, r2, a, C, rfl, c, there, q⟩
  obtain rfl : u = Value.ref a := r2
  exact own_first c I2 there r1 fun dx s' n ne J => ⟨σ, _, J, q dx n ne⟩
end
def spIni (K : PySem.W.Frag) (b : Bs) (f : Str) : Sp := fun vs H Q _ => ∃ (a C : Addr) (v : V), vs = [.ref a, v] ∧ Oc K b C f ∧ H a = some (exo a C none) ∧ ∀ dx, H dx = none → dx ≠ a → Q .non (upd (upd H dx (exd dx [(f, v)])) a (exo a C (some dx)))
section
variable {P : Program} {w : World} {K : PySem.W.Frag} {mg : Str → Option Value} {base : Heap}
/-- __init__: the base's, then the attribute -/
theorem fn_ini {qual x f par msg : Str} {st : Stmt} {fI : Addr} {fd : FuncData} {b : Bs} {j : Nat} {p1 p2 p3 p4 p5 p6 p7 p8 p9 p10 : Pos} (F : Fun K "__init__" qual st fI fd) (S : FnScope ["self", par] ["self", par] (defScope st)) (B : BaseIs K mg b x)
    (hs : (defScope st).names.lookup ("self" : Str) = some .local) (hp : (defScope st).names.lookup par = some .local) (hx : (defScope st).names.lookup x = some .globalImplicit) (hd : (par == ("__debug__" : Str)) = false) (hcd : (par == ("__classdict__" : Str)) = false)
    (call : ∀ env : Env, ∃ pl : Sem Bool, eval (.Call (.Attribute (.Name x p1) "__init__" p2) [.Name "self" p3, .Constant (.str msg) j p4] [] p5) env = (do
      let ov ← eval (.Name x p1) env
      standAt p2.atName
      let (g, first) ← holding [ov] (getMethod ov "__init__" pl)
      callWith p5 g first (backTo p5 (starEach [.Name "self" p3, .Constant (.str msg) j p4] env)) (backToKw p5 (keywordEach [] env))))
    (body : defBody st = [.Expr (.Call (.Attribute (.Name x p1) "__init__" p2) [.Name "self" p3, .Constant (.str msg) j p4] [] p5) p6, .Assign [.Attribute (.Name "self" p7) f p8] (.Name par p9) p10]) :
    FnOk P w K mg base (L2.CX P w) 1 fI fd ["self", par] (spIni K b f) := by
  refine F.okX S (fun vs H Q E h => ?_) fun cdv A outer s H vs Q E room h => ?_
  · obtain ⟨a, C, v, rfl, _⟩ := h
    rfl
  · obtain ⟨a, C, v, rfl, c, there, k⟩ := h
    rw [body]
    have v0 : ∀ {p}, PE (cxOf (L2.CX P w) P w K mg base ["self", par] qual (defScope st) fI cdv A outer s H E) (.Name "self" p) (tVar 0) := fun {p} => pe_var rfl (.inl hs) (by decide) (by decide)
    have v1 : ∀ {p}, PE (cxOf (L2.CX P w) P w K mg base ["self", par] qual (defScope st) fI cdv A outer s H E) (.Name par p) (tVar 1) := fun {p} => pe_var rfl (.inl hp) hd hcd
    obtain ⟨pl, call⟩ := call (cxOf (L2.CX P w) P w K mg base ["self", par] qual (defScope st) fI cdv A outer s H E).env
    refine ⟨_, pss_cons (ps_expr (pe_binit (b := b) (f := f) B hx (pa_cons v0 (pa_cons pe_str pa_nil)) call rfl rfl) rfl) (pss_one (ps_os (b := b) v0 v1 rfl)), ?_⟩
    exact ⟨_, rfl, a, C, _, rfl, by show 1 ≤ 1000; decide, c, there, _, rfl, _, rfl, a, C, rfl, c, there, fun dx n ne => k dx n ne⟩
end
end Pf

set_option Elab.async false
set_option linter.all false
set_option maxRecDepth 100000
/-! Own exceptions, raised. -/
namespace Pf
open PySem PySem.Spec PyProof.Rows L2
/-- what is known of an own exception class named x, its attribute f -/
structure ExCls (P : Program) (w : World) (K : PySem.W.Frag) (mg : Str → Option Value) (base : Heap) (x f : Str) : Prop where
  is : ∃ (b : Bs) (C fI : Addr) (fd : FuncData) (ps : List Str), mg x = some (.ref C) ∧ Oc K b C f ∧ PySem.W.findIn K (.ref C) "__init__" = some (some (.ref fI)) ∧ PySem.W.typeIn K (.ref fI) = some (.type "function") ∧
    FnOk P w K mg base (L2.CX P w) 1 fI fd ps (spIni K b f) ∧ Binds K fd ps []
section
variable {X : Cx} {xp : XP} {W : WX} {B : List Addr} {x f : Str} {e : Expr} {fe : Sto → Rs D} {p pos pos2 : Pos}
/-- C(e) -/
def tMk1 (C : Addr) (f : Str) (te : TE) : L2.St → Hp → XK → Prop := fun σ H Q => te σ H fun v H1 => ∀ d, H1 d = none → Q (.ref C) (some d) (upd H1 d (.xd [(f, v)]))
theorem pmk1 {te : TE} {k : Nat} (c : ExCls X.prog X.w X.K X.mg X.base x f) (room : Room k X.A) (hk : 2 ≤ k) (hg : Gl X x) (hdb : (x == ("__debug__" : Str)) = false) (he : PE X e te) (hs : starEach [e] X.env = (false, eval e X.env) :: starEach [] X.env) :
    ∃ C, X.mg x = some (.ref C) ∧ PMk X (.Call (.Name x p) [e] [] pos) (tMk1 C f te) := by
  obtain ⟨b, C, fI, fd, ps, gC, oc, iC, tI, FI, bI⟩ := c.is
  refine ⟨C, gC, ?_⟩
  intro pins s σ H Q I h
  obtain ⟨nm, N, qn, bs, bm, hdct, sn, sub, ab, col, dd, k0, k1, k2, k3, k5, hC0, hT⟩ := PySem.W.excInit_of I.kIn oc.ini
  let G : List V → Hp → Prop := fun vs H1 => match vs with
    | [v] => ∀ d, H1 d = none → Q (.ref C) (some d) (upd H1 d (.xd [(f, v)]))
    | _ => False
  refine wpAny_Call_Name_kw (ld_glob I hg gC ?_ hdb)
  refine PySem.W.callWith_K (h₀ := X.base) I.ok.mod.kin oc.kC (thn ((pa_cons he pa_nil hs).run pos pins s σ H G I h) ?_) hs rfl
  rintro us s1 ⟨vs, H1, I1, r1, q1⟩
  refine ⟨I1.kIn, ?_⟩
  show wpAny _ _ (call (.ref C) us) _ _ _
  match vs, us, r1, q1 with
  | [v], [u], .cons ru .nil, q1 =>
    have q1 : ∀ d, H1 d = none → Q (.ref C) (some d) (upd H1 d (.xd [(f, v)])) := q1
    obtain ⟨nm, N, qn, bs, bm, hdct, sn, sub, ab, col, dd, k0, k1, k2, k3, k5, hC, hT⟩ := PySem.W.excInit_of I1.kIn oc.ini
    obtain ⟨hp, g, dr, tk, os⟩ := s1
    have above : hp.objs.size ≤ hp.objs.size + 1 := Nat.le_succ _
    have free : H1 (hp.objs.size + 1) = none := I1.hok.fresh above
    have keep : ∀ b o, hp.get? b = some o → ((hp.push (PySem.W.kdv_tup [u])).push (PySem.HandSPX.excO C hp.objs.size)).get? b = some o := fun b o z => Heap.get?_push_of_some _ (Heap.get?_push_of_some _ z)
    have made : ((hp.push (PySem.W.kdv_tup [u])).push (PySem.HandSPX.excO C hp.objs.size)).get? (hp.objs.size + 1) = some (PySem.HandSPX.excO C hp.objs.size) := by heap_get
    have I2 : L2.Inv X pins σ (upd H1 (hp.objs.size + 1) (exo (hp.objs.size + 1) C none)) ⟨(hp.push (PySem.W.kdv_tup [u])).push (PySem.HandSPX.excO C hp.objs.size), g, dr, tk, os⟩ :=
      I1.laid (t' := tk) (a := hp.objs.size + 1) (o := exo (hp.objs.size + 1) C none) keep above (exo_ok made)
    have r2 : Vals [V.ref (hp.objs.size + 1), v] [Value.ref (hp.objs.size + 1), u] := .cons rfl (.cons ru .nil)
    -- what __init__ leaves
    let Q2 : VK := fun z H2 => z = .non ∧ ∃ dx, H1 dx = none ∧ dx ≠ hp.objs.size + 1 ∧ H2 = upd (upd (upd H1 (hp.objs.size + 1) (exo (hp.objs.size + 1) C none)) dx (exd dx [(f, v)])) (hp.objs.size + 1) (exo (hp.objs.size + 1) C (some dx))
    have prom : spIni X.K b f [V.ref (hp.objs.size + 1), v] (upd H1 (hp.objs.size + 1) (exo (hp.objs.size + 1) C none)) Q2 (fun _ _ _ => False) :=
      ⟨_, C, v, rfl, oc, upd_same, fun dx n ne => ⟨rfl, dx, by rw [upd_ne ne] at n; exact n, ne, rfl⟩⟩
    have len : ([Value.ref (hp.objs.size + 1), u] ++ ([] : List Value)).length = ps.length := by
      have z := FI.len _ _ _ _ prom
      rw [← z]; rfl
    have room2 : Room 1 (X.A.under (.builtin "type.__call__" ⟨.ref C :: [u], []⟩)) := (room.mono hk).make C [u] []
    refine wpAny_call (PySem.HandSPX.call_own b.facts hT hC (PySem.W.looks_findIn I1.kIn iC) (fun self => PySem.W.bind_fn I1.kIn self tI) (by show 1 ≤ sizeLine; decide) (codeAny_mono
      (FI.run _ X.stack _ _ ⟨[Value.ref (hp.objs.size + 1), u], []⟩ [Value.ref (hp.objs.size + 1), u] _ Q2 (fun _ _ _ => False) room2 (I2.env0.make C [u] []) (by have z := bI ⟨(hp.push (PySem.W.kdv_tup [u])).push (PySem.HandSPX.excO C hp.objs.size), g, dr, tk, os⟩ [Value.ref (hp.objs.size + 1), u] I2.kIn len; rw [List.append_nil] at z; exact z) r2 prom) ?_))
    intro r s' out
    match r, out with
    | .error er, out =>
      obtain ⟨_, _, _, _, _, _, _, _, _, _, _, _, z⟩ := out
      exact z.elim
    | .ok .next, out => exact out.elim
    | .ok .brk, out => exact out.elim
    | .ok .cont, out => exact out.elim
    | .ok (.ret z), out =>
      obtain ⟨vz, H2, os2, bare2, un2, hok2, rz, ⟨rfl, dx, nd, ne, rfl⟩⟩ := out
      obtain ⟨h2, g2, d2, t2, os'⟩ := s'
      refine ⟨rz, mk_end (raises_own oc.exC oc.tyC) I1 above keep un2 hok2 os2 bare2 upd_same (by rw [upd_ne ne, upd_same]) nd ?_⟩
      have same : upd (del (upd (upd (upd H1 (hp.objs.size + 1) (exo (hp.objs.size + 1) C none)) dx (exd dx [(f, v)])) (hp.objs.size + 1) (exo (hp.objs.size + 1) C (some dx))) (hp.objs.size + 1)) dx (.xd [(f, v)]) = upd H1 dx (.xd [(f, v)]) := by
        funext c
        by_cases h1 : c = dx
        · rw [h1, upd_same, upd_same]
        · rw [upd_ne h1, upd_ne h1]
          by_cases h2 : c = hp.objs.size + 1
          · rw [h2, del_same, free]
          · rw [del_ne h2, upd_ne h2, upd_ne h1, upd_ne h2]
      rw [same]
      exact q1 dx nd
/-- raise C(e) -/
theorem cst_raise {k : Nat} (hc : X.calm = true) (tk : Takes X W) (c : ExCls X.prog X.w X.K X.mg X.base x f) (room : Room k X.A) (hk : 2 ≤ k) (hg : Gl X x) (hdb : (x == ("__debug__" : Str)) = false) (he : CE X xp W e fe) (hs : starEach [e] X.env = (false, eval e X.env) :: starEach [] X.env) :
    CSt X xp W B (.Raise (some (.Call (.Name x p) [e] [] pos)) none pos2) (fun ρ => .ofR (fe ρ) ρ fun d => .ex ⟨x, f, d⟩ ρ) := by
  obtain ⟨C, gC, mk⟩ := pmk1 (p := p) (pos := pos) c room hk hg hdb he hs
  refine ps_imp (ps_raise hc tk mk) fun T σ H ⟨ρ, O, fr, q⟩ => ⟨ρ, O ++ B, fr.rel, (EndS.ofR q fr).imp fun d H' _ s k v hv dx nd => ?_⟩
  have sm : Same H' (upd H' dx (.xd [(f, v)])) := same_new nd
  refine k σ _ O (.ref C) (some dx) (Stp.same sm) ((fr.mono s).mono sm) ⟨C, dx, v, rfl, rfl, gC, ?_, dp_mono (msk_same sm) hv⟩
  rw [msk_out ((fr.rel.thr.same s).out nd)]
  exact upd_same
end
end Pf

set_option Elab.async false
set_option linter.all false
set_option maxRecDepth 100000
/-! A caught exception: isinstance of it, its attribute. -/
namespace Pf
open PySem PySem.Spec PyProof.Rows L2

/-- what an own class says, so that its instances are asked -/
structure Ask (K : PySem.W.Frag) (D : Addr) (f : Str) : Prop where
  ga : PySem.W.findIn K (.ref D) "__getattribute__" = some (some (.builtin "BaseException.__getattribute__"))
  gg : PySem.W.findIn K (.ref D) "__getattr__" = some none
  sub : PySem.W.subIn K (.ref D) (.type "BaseException") = some true
  dct : PySem.W.hasDictIn K D = true
  cls : PySem.W.findIn K (.ref D) "__class__" = some (some (.builtin "object.__class__"))
  get : PySem.W.specialIn K (.builtin "object.__class__") "__get__" = some (some (.builtin "getset_descriptor.__get__"))
  tak : PySem.W.takesIn K (.builtin "object.__class__") = some true
  mro : PySem.W.mroIn K D (.type "object") = some true
  no : PySem.W.findIn K (.ref D) f = some none
def askB (K : PySem.W.Frag) (D : Addr) (f : Str) : Bool :=
  decide (PySem.W.findIn K (.ref D) "__getattribute__" = some (some (.builtin "BaseException.__getattribute__"))) && decide (PySem.W.findIn K (.ref D) "__getattr__" = some none) && decide (PySem.W.subIn K (.ref D) (.type "BaseException") = some true) &&
    PySem.W.hasDictIn K D && decide (PySem.W.findIn K (.ref D) "__class__" = some (some (.builtin "object.__class__"))) && decide (PySem.W.specialIn K (.builtin "object.__class__") "__get__" = some (some (.builtin "getset_descriptor.__get__"))) &&
    decide (PySem.W.takesIn K (.builtin "object.__class__") = some true) && decide (PySem.W.mroIn K D (.type "object") = some true) && decide (PySem.W.findIn K (.ref D) f = some none)
theorem ask_of {K : PySem.W.Frag} {D : Addr} {f : Str} (h : askB K D f = true) : Ask K D f := by
  unfold askB at h
  simp only [Bool.and_eq_true, decide_eq_true_eq] at h
  obtain ⟨⟨⟨⟨⟨⟨⟨⟨h1, h2⟩, h3⟩, h4⟩, h5⟩, h6⟩, h7⟩, h8⟩, h9⟩ := h
  exact ⟨h1, h2, h3, h4, h5, h6, h7, h8, h9⟩
section
open PySem.W PySem.Calls
variable {prog : Program} {w : World} {A : Around} {E : Value → Shared → Prop} {s : Shared} {K : Frag} {x D : Addr} {ox : Obj} {f : Str}
theorem any_cls {p : ClassData → Bool} (h : (clsIn K D).any p = true) : ∃ cd, clsIn K D = some cd := by
  cases e : clsIn K D with
  | none => rw [e] at h; cases h
  | some cd => exact ⟨cd, rfl⟩
theorem find_class {od : Option Obj} (c : Ask K D f) : findObj K D od "__class__" = some (.bind (.builtin "getset_descriptor.__get__") (.builtin "object.__class__")) := by
  obtain ⟨cd, hc⟩ := any_cls c.dct
  unfold findObj
  rw [hc, Option.bind_some, c.cls, Option.bind_some]
  simp [c.get, c.tak]
/-- its class, asked by name -/
theorem class_of {od : Option Obj} {Q : Option Value → Shared → Prop} (c : Ask K D f) (inK : K.In s.heap) (I : InstAt s.heap x ox D od) (h : Q (some (.ref D)) { s with toks := s.toks + 1 }) : wpAny (model prog w) A (getAttr? (.ref x) "__class__") Q E s := by
  obtain ⟨hp, g, d, t, os⟩ := s
  have ty := I.type (M := model prog w)
  have l1 := looks_findIn (M := model prog w) inK c.ga
  have l2 := looks_findIn (M := model prog w) inK c.gg
  have l3 := looks_find (M := model prog w) inK I (find_class c)
  have sub : Looks (model prog w) hp (isInstance (.ref x) (.type "BaseException")) true := ty.andThen (looks_subIn inK c.sub)
  have n2 : (Value.builtin "BaseException.__getattribute__" == Value.builtin "object.__getattribute__") = false := by decide +kernel
  have n1 : (onTheHeap (Value.ref D) && Value.builtin "BaseException.__getattribute__" == Value.builtin "object.__getattribute__") = false := by rw [n2, Bool.and_false]
  have n0 : (false && onTheHeap (Value.builtin "BaseException.__getattribute__")) = false := Bool.false_and _
  unfold getAttr? getAttrBy? getAttrBy
  refine wpAny_bind (wpAny_mkText (wpAny_bind (wpAny_attempt (wpAny_holding (wpAny_bind (ty.at (wpAny_bind (l1.at ?_))))))))
  show wpAny _ _ (if (onTheHeap (Value.ref D) && Value.builtin "BaseException.__getattribute__" == Value.builtin "object.__getattribute__") = true then _ else _) _ _ _
  rw [n1, if_neg Bool.false_ne_true]
  unfold getAttrByItsOwn hookBefore
  refine wpAny_bind ?_
  rw [if_pos (show onTheHeap (Value.ref D) = true from rfl)]
  refine l2.at (wpAny_bind (wpAny_attempt (wpAny_holding ?_)))
  unfold callGetattribute
  rw [n0, if_neg Bool.false_ne_true]
  unfold boundAndCalled
  rw [PySem.F.excAttr_ValueError.ga.bind (.ref x)]
  refine wpAny_bind (wpAny_pure ?_)
  show wpAny _ _ (call (.builtin "BaseException.__getattribute__") [.ref x, .str "__class__" t]) _ _ _
  refine wpAny_call (codeAny_call_builtin PySem.F.excAttr_ValueError.ga.plain PySem.F.entry_bexc_ga ?_)
  refine @check_slot (model prog w) _ _ ⟨hp, g, d, t + 1, os⟩ "BaseException.__getattribute__" "BaseException" "__getattribute__" (.ref x) [.str "__class__" t] [] _ (by decide +kernel) (by decide +kernel) sub (PySem.F.args_bexc_ga (.ref x) (.str "__class__" t)) ?_
  unfold Builtin.«object.__getattribute__»
  refine wpAny_bind (wpAny_of_eq (a := ((Value.ref x : Value), [Value.str "__class__" t])) (by first | rfl | (simp only [slotArgs]; rfl)) ?_)
  refine wpAny_bind (wpAny_pure (wpAny_bind (ty.at (wpAny_bind (l3.at ?_)))))
  show wpAny _ _ (holding [Value.builtin "object.__class__"] (call (.builtin "getset_descriptor.__get__") [.builtin "object.__class__", .ref x, .ref D]) >>= ret) _ _ _
  refine wpAny_bind (wpAny_holding (wpAny_call (class_get (s := ⟨hp, g, d, t + 1, os⟩) (ox := ox) (od := od) inK I c.mro ?_)))
  refine wpAny_pure ?_
  show wpAny _ _ (handedOut (.ref D)) _ _ _
  rw [handedOut_of (v := .ref D) rfl]
  first
    | exact wpAny_pure (wpAny_pure h)
    | exact wpAny_pure h
    | exact wpAny_pure (wpAny_bind (wpAny_pure (wpAny_pure h)))
theorem kit_exc (c : Ask K D f) : KitX K (.ref x) (.ref D) (fun h => ∃ od, InstAt h x ox D od) := by
  obtain ⟨cd, hc⟩ := any_cls c.dct
  have there : ∃ c' d' cd' sl', K.lookup D = some ⟨c', d', .cls cd', sl'⟩ := by
    unfold clsIn at hc
    split at hc
    · rename_i c' d' cd' sl' ho
      exact ⟨c', d', cd', sl', ho⟩
    · cases hc
  obtain ⟨c', d', cd', sl', ho⟩ := there
  exact {
    ty := fun _ _ _ ⟨_, I⟩ => I.type
    it := fun _ _ inK _ => by
      intro A' Q' E' s' k q
      unfold isType loadHead
      exact wpAny_bind (wpAny_loadPart (k _ _ (inK _ _ ho)) (wpAny_pure q))
    ne := fun h tp dd its n sl inK htp => by
      cases e : (Value.ref D == Value.ref tp) with
      | false => rfl
      | true =>
        have e : D = tp := Value.ref.inj (beq_iff_eq.mp e)
        rw [← e] at htp
        cases (inK _ _ ho).symm.trans htp
    ca := fun inK ⟨_, I⟩ k => class_of c inK I k }
end
section
variable {X : Cx} {a D dd : Addr} {oe : Obj} {pn : List (Addr × Obj)} {f : Str}
/-- isinstance(e, c), e caught -/
def rIsX (K : PySem.W.Frag) (D a dd : Addr) : List V → Hp → VK → Prop := fun xs H Q => ∃ (c : V) (cv : Value) (b : Bool) (fs : List (Str × V)), xs = [.ref a, c] ∧ (∀ u, L2.RelV c u → u = cv) ∧ H dd = some (.xd fs) ∧ PySem.W.kitOne K (.ref D) cv = some b ∧ Q (.bl b) H
theorem inst_of {pins : List (Addr × Obj)} {σ : L2.St} {H : Hp} {s : Shared} {fs : List (Str × V)} (hz : Zc (.ref D) (some dd) oe) (hf : ∃ vs, oe.data = .fields vs) (I : L2.Inv (X.suite a ((a, oe) :: pn)) pins σ H s) (e : H dd = some (.xd fs)) : ∃ od, PySem.W.InstAt s.heap a oe D od := by
  obtain ⟨there, _⟩ := I.pin (a, oe) (List.mem_append.mpr (.inl List.mem_cons_self))
  obtain ⟨vs, hv⟩ := hf
  have k : ObjOk X.prog X.w H s.heap dd (.xd fs) := I.hok dd _ e
  obtain ⟨mA, ⟨od, es, ep, hod, _⟩, _⟩ := k
  refine ⟨some od, ?_⟩
  obtain ⟨oc, oo, oda, osl⟩ := oe
  obtain ⟨h1, h2⟩ := hz
  dsimp only at h1 h2 hv
  subst h1 h2 hv
  exact ⟨there, rfl, rfl, hod⟩
theorem call_isX (c : Ask X.K D f) (hz : Zc (.ref D) (some dd) oe) (hf : ∃ vs, oe.data = .fields vs) : CallR (X.suite a ((a, oe) :: pn)) (.builtin "isinstance") (rIsX X.K D a dd) := by
  intro pins s σ H xs us Q I r h
  obtain ⟨cl, cv, b, fs, rfl, hcv, hd, e, q⟩ := h
  match us, r with
  | [_, _], .cons rx (.cons rt .nil) =>
    cases rx
    obtain rfl := hcv _ rt
    exact PySem.W.kia_one (kit_exc c) I.kIn (inst_of hz hf I hd) e (fun z => nomatch z) fun tk => ⟨.bl b, H, I.kept (t' := tk) fun _ _ z => z, rfl, q⟩
end
/-- how the exception in slot i stands -/
def getX (ρ : Sto) (i : Nat) : Rs EX := match ρ[i]? with
  | some (some (.exc e)) => .ok e
  | _ => .bad
/-- is x a subclass of y (both by name)? -/
def SubIs (K : PySem.W.Frag) (mg : Str → Option Value) (x y : Str) (b : Bool) : Prop := ∃ (C : Addr) (c : Value), mg x = some (.ref C) ∧ (mg y = some c ∨ (mg y = none ∧ bootBuiltins y = some c ∧ y ≠ "__name__")) ∧ (∃ v : V, L2.RelV v c ∧ ∀ u, L2.RelV v u → u = c) ∧
  PySem.W.exmOne K (.ref C) c = some b ∧ PySem.W.kitOne K (.ref C) c = some b
section
variable {X : Cx} {a dd : Addr} {oe : Obj} {D : Addr} {pn : List (Addr × Obj)} {x y n f : Str} {p p1 p2 pos : Pos} {i : Nat}
abbrev Su (X : Cx) (a : Addr) (oe : Obj) (pn : List (Addr × Obj)) : Cx := X.suite a ((a, oe) :: pn)
/-- e.f -/
theorem ce_xat (c : Ask X.K D f) (hz : Zc (.ref D) (some dd) oe) (hf : ∃ vs, oe.data = .fields vs) (hN : X.N[i]? = some n) (hv : Vis X.env.scope n) (hd : (n == ("__debug__" : Str)) = false) (hcd : (n == ("__classdict__" : Str)) = false)
    (hb : attributeBase (.Name n p) f X.env (eval (.Name n p) X.env) = eval (.Name n p) X.env) :
    CE (Su X a oe pn) (some (a, dd, x)) W0 (.Attribute (.Name n p) f pos) (fun ρ => (getX ρ i).bind fun e => if e.attr = f then .ok e.val else .bad) :=
  pe_imp (pe_xf (X := X) (pn := pn) ⟨c.ga, c.gg, c.sub, c.dct⟩ c.no hz hf (pe_var hN hv hd hcd) hb) fun σ H Q ⟨ρ, O, R, q⟩ => by
    have q : End X.K X.mg W0 O σ H (fun d H' => ∀ v, Dn X.K (msk H' O) v d → Q v H') ((getX ρ i).bind fun e => if e.attr = f then .ok e.val else .bad) := q
    unfold getX at q
    split at q
    · rename_i e h
      obtain ⟨v, h1, a', dd', w, h2, rfl, h4, h5⟩ := R.at_ i _ h
      cases h2
      have q : End X.K X.mg W0 O σ H (fun d H' => ∀ v, Dn X.K (msk H' O) v d → Q v H') (if e.attr = f then Rs.ok e.val else .bad) := q
      obtain ⟨ea, q9⟩ := end_ite q
      exact ⟨_, h1, rfl, rfl, dd, _, w, rfl, msk_sub _ _ h4, by simp [List.lookup, ea], q9.ok w h5⟩
    · exact q.elim
/-- isinstance(e, y) -/
theorem ce_xis {sb : Str → Str → Option Bool} (c : Ask X.K D f) (hz : Zc (.ref D) (some dd) oe) (hf : ∃ vs, oe.data = .fields vs) (hN : X.N[i]? = some n) (hv : Vis X.env.scope n) (hd : (n == ("__debug__" : Str)) = false) (hcd : (n == ("__classdict__" : Str)) = false)
    (hg : Gl X "isinstance") (hm : X.mg "isinstance" = none) (hgy : Gl X y) (hdy : (y == ("__debug__" : Str)) = false) (xD : X.mg x = some (.ref D)) (sub : ∀ b, sb x y = some b → SubIs X.K X.mg x y b) :
    CE (Su X a oe pn) (some (a, dd, x)) W0 (.Call (.Name "isinstance" p) [.Name n p1, .Name y p2] [] pos) (fun ρ => (getX ρ i).bind fun e => opt (sb e.cls y) PyData.bool) := by
  cases es : sb x y with
  | none =>
    refine ⟨fun pins s σ H Q I ⟨ρ, O, R, q⟩ => ?_⟩
    have q : End X.K X.mg W0 O σ H (fun d H' => ∀ v, Dn X.K (msk H' O) v d → Q v H') ((getX ρ i).bind fun e => opt (sb e.cls y) PyData.bool) := q
    unfold getX at q
    split at q
    · rename_i e h
      obtain ⟨v, h1, a', dd', w, h2, rfl, h4', h5⟩ := R.at_ i _ h
      cases h2
      have q : End X.K X.mg W0 O σ H (fun d H' => ∀ v, Dn X.K (msk H' O) v d → Q v H') (opt (sb e.cls y) PyData.bool) := q
      rw [es] at q
      exact q.elim
    · exact q.elim
  | some b =>
    obtain ⟨C, cv, h1, h2, ⟨vc, r1, r2⟩, _, h4⟩ := sub b es
    rw [xD] at h1
    cases h1
    have py : PE (Su X a oe pn) (.Name y p2) (tC vc) := h2.elim (fun m => pe_glob hgy m r1 hdy) fun m => pe_bltn hgy m.1 m.2.1 r1 m.2.2 hdy
    refine pe_imp (pe_callB (call_isX c hz hf) hg hm rfl (pa_cons (pe_var hN hv hd hcd) (pa_cons py pa_nil rfl) rfl) (by decide) (by decide) rfl rfl) fun σ H Q ⟨ρ, O, R, q⟩ => ?_
    have q : End X.K X.mg W0 O σ H (fun d H' => ∀ v, Dn X.K (msk H' O) v d → Q v H') ((getX ρ i).bind fun e => opt (sb e.cls y) PyData.bool) := q
    unfold getX at q
    split at q
    · rename_i e h
      obtain ⟨v, h1, a', dd', w, h2, rfl, h4', h5⟩ := R.at_ i _ h
      cases h2
      have q : End X.K X.mg W0 O σ H (fun d H' => ∀ v, Dn X.K (msk H' O) v d → Q v H') (opt (sb e.cls y) PyData.bool) := q
      rw [es] at q
      exact ⟨_, h1, vc, cv, b, _, rfl, r2, msk_sub _ _ h4', h4, q.ok _ (.bl b)⟩
    · exact q.elim
end
end Pf

set_option Elab.async false
set_option linter.all false
set_option maxRecDepth 100000
/-! try .. except. -/
namespace Pf
open PySem PySem.Spec PyProof.Rows L2

def isX : Option SV → Bool
  | some (.exc _) => true
  | _ => false
def noX (ρ : Sto) : Bool := ρ.all fun s => !isX s
def clean (i : Nat) (ρ : Sto) (k : Sto → Out) : Out := if noX (ρ.set i none) = true then k (ρ.set i none) else .bad
/-- the end of an except suite -/
def leave (i : Nat) : Out → Out
  | .nx ρ => clean i ρ .nx
  | .bk ρ => clean i ρ .bk
  | .ct ρ => clean i ρ .ct
  | .rt d => .rt d
  | .ex _ _ => .bad
  | .bad => .bad
def tryF (sub : Str → Option Bool) (att : Str → Option Str) (i : Nat) (body suite : Sto → Out) : Sto → Out := fun ρ => match body ρ with
  | .ex e ρ' => match sub e.cls with
    | some true => if att e.cls = some e.attr then leave i (suite (ρ'.set i (some (.exc e)))) else .bad
    | some false => .ex e ρ'
    | none => .bad
  | o => o
section
variable {K : PySem.W.Frag} {mg : Str → Option Value} {xp : XP} {B O : List Addr} {σ : L2.St} {H : Hp} {ρ : Sto} {i : Nat}
theorem noX_at (h : noX ρ = true) {e : EX} (q : ρ[i]? = some (some (.exc e))) : False := by
  have := List.all_eq_true.mp h _ (List.mem_of_getElem? q)
  cases this
theorem Fr.toX (fr : Fr K none B σ H ρ O) : Fr K xp B σ H ρ O :=
  ⟨⟨fr.rel.len, (fun j s h => by
    obtain ⟨v, h1, h2⟩ := fr.rel.at_ j s h
    refine ⟨v, h1, ?_⟩
    cases s with
    | pd d => exact h2
    | own xs => exact h2
    | exc e =>
      obtain ⟨_, _, _, z, _⟩ := h2
      cases z), fr.rel.inj, fr.rel.thr⟩, fr.own⟩
theorem Fr.ofX (fr : Fr K xp B σ H ρ O) (n : noX ρ = true) : Fr K none B σ H ρ O :=
  ⟨⟨fr.rel.len, (fun j s h => by
    obtain ⟨v, h1, h2⟩ := fr.rel.at_ j s h
    refine ⟨v, h1, ?_⟩
    cases s with
    | pd d => exact h2
    | own xs => exact h2
    | exc e => exact (noX_at n h).elim), fr.rel.inj, fr.rel.thr⟩, fr.own⟩
theorem Fr.unset (fr : Fr K xp B σ H ρ O) (i : Nat) : Fr K xp B (σ.set i none) H (ρ.set i none) O :=
  ⟨fr.rel.unset i none, fun j xs a q1 q2 => by
    rcases get_set q1 with ⟨_, e⟩ | ⟨ne, e⟩
    · cases e
    · rw [List.getElem?_set_ne ne] at q2
      exact fr.own j xs a e q2⟩
theorem Fr.setX {a dd : Addr} {e : EX} {w : V} (fr : Fr K (some (a, dd, e.cls)) B σ H ρ O) (h : msk H (O ++ B) dd = some (.xd [(e.attr, w)])) (hw : Dn K (msk H (O ++ B)) w e.val) : Fr K (some (a, dd, e.cls)) B (σ.set i (some (.ref a))) H (ρ.set i (some (.exc e))) O := by
  have r := fr.rel
  refine ⟨⟨by simp [r.len], fun j s q => ?_, fun j k xs ys v q1 q2 p1 p2 => ?_, r.thr⟩, fun j xs b q1 q2 => ?_⟩
  · rcases get_set q with ⟨rfl, z⟩ | ⟨ne, z⟩
    · cases z
      have hl : i < σ.length := by rw [r.len]; have := (List.getElem?_eq_some_iff.mp q).1; simpa using this
      exact ⟨_, List.getElem?_set_self hl, a, dd, w, rfl, rfl, h, hw⟩
    · rw [List.getElem?_set_ne ne]
      exact r.at_ j s z
  · rcases get_set q1 with ⟨_, z⟩ | ⟨ne, z⟩
    · cases z
    · rcases get_set q2 with ⟨_, z'⟩ | ⟨ne', z'⟩
      · cases z'
      · rw [List.getElem?_set_ne ne] at p1
        rw [List.getElem?_set_ne ne'] at p2
        exact r.inj j k xs ys v z z' p1 p2
  · rcases get_set q1 with ⟨_, z⟩ | ⟨ne, z⟩
    · cases z
    · rw [List.getElem?_set_ne ne] at q2
      exact fr.own j xs b z q2
end
section
variable {X : Cx} {W : WX} {B : List Addr} {sub : Str → Option Bool} {att : Str → Option Str} {i : Nat} {f g : Sto → Out} {body suite : List Stmt} {b₀ : Stmt} {x n : Str} {c : Value} {np pos pos' : Pos}
/-- what is known of the classes that may be caught -/
structure Caught (X : Cx) (c : Value) (sub : Str → Option Bool) (att : Str → Option Str) : Prop where
  sub : ∀ y b, sub y = some b → ∃ C, X.mg y = some (.ref C) ∧ PySem.W.exmOne X.K (.ref C) c = some b
  att : ∀ y f, att y = some f → ∃ C, X.mg y = some (.ref C) ∧ Ask X.K C f
def tsF (X : Cx) (B : List Addr) (att : Str → Option Str) (g : Sto → Out) (a : Addr) (cls : Value) (d : Option Addr) : TS := fun T σ H => ∃ D dd y f, cls = .ref D ∧ d = some dd ∧ X.mg y = some (.ref D) ∧ att y = some f ∧ Ask X.K D f ∧ rdSt X.K X.mg (some (a, dd, y)) W0 B g T σ H
theorem endS_leave {T : Ends} {H : Hp} {O : List Addr} {xp : XP} {o : Out} (h : EndS X.K X.mg none W B T H O (leave i o)) :
    EndS X.K X.mg xp W0 B { nx := fun σ' H' => T.nx (σ'.set i none) H', rt := T.rt, bk := fun σ' H' => T.bk (σ'.set i none) H', ct := fun σ' H' => T.ct (σ'.set i none) H' } H O o := by
  cases o with
  | nx ρ =>
    obtain ⟨n, h⟩ := endS_ite (show EndS X.K X.mg none W B T H O (if noX (ρ.set i none) = true then Out.nx (ρ.set i none) else .bad) from h)
    exact fun σ' H' O' s fr => h _ H' O' s ((fr.unset i).ofX n)
  | bk ρ =>
    obtain ⟨n, h⟩ := endS_ite (show EndS X.K X.mg none W B T H O (if noX (ρ.set i none) = true then Out.bk (ρ.set i none) else .bad) from h)
    exact fun σ' H' O' s fr => h _ H' O' s ((fr.unset i).ofX n)
  | ct ρ =>
    obtain ⟨n, h⟩ := endS_ite (show EndS X.K X.mg none W B T H O (if noX (ρ.set i none) = true then Out.ct (ρ.set i none) else .bad) from h)
    exact fun σ' H' O' s fr => h _ H' O' s ((fr.unset i).ofX n)
  | rt d => exact h
  | ex e ρ => exact h.elim
  | bad => exact h
theorem endS_try {T : Ends} {H : Hp} {O : List Addr} {o : Out} (cau : Caught X c sub att)
    (h : EndS X.K X.mg none W B T H O (match o with
      | .ex e ρ' => match sub e.cls with
        | some true => if att e.cls = some e.attr then leave i (g (ρ'.set i (some (.exc e)))) else .bad
        | some false => .ex e ρ'
        | none => .bad
      | o => o)) : EndS X.K X.mg none (wAs X.K c i (tsF X B att g) W T) B T H O o := by
  cases o with
  | nx ρ => exact h
  | bk ρ => exact h
  | ct ρ => exact h
  | rt d => exact h
  | bad => exact h
  | ex e ρ1 =>
    intro σ' H' O' cls d st fr ⟨C, dd, w, e1, e2, gC, hdd, hw⟩
    subst e1; subst e2
    have h : EndS X.K X.mg none W B T H O (match sub e.cls with
        | some true => if att e.cls = some e.attr then leave i (g (ρ1.set i (some (.exc e)))) else .bad
        | some false => .ex e ρ1
        | none => .bad) := h
    cases es : sub e.cls with
    | none => rw [es] at h; exact h.elim
    | some b =>
      rw [es] at h
      obtain ⟨C', g1, ex⟩ := cau.sub _ _ es
      rw [gC] at g1
      cases g1
      refine ⟨b, ex, fun eb a na => ?_, fun eb => ?_⟩
      · subst eb
        obtain ⟨ea, h⟩ := endS_ite (show EndS X.K X.mg none W B T H O (if att e.cls = some e.attr then leave i (g (ρ1.set i (some (.exc e)))) else .bad) from h)
        obtain ⟨C2, g2, ask⟩ := cau.att _ _ ea
        rw [gC] at g2
        cases g2
        exact ⟨C, dd, e.cls, e.attr, rfl, rfl, gC, ea, ask, _, O', Fr.setX (fr.toX) hdd hw, endS_leave (h.grow st)⟩
      · subst eb
        exact h σ' H' O' _ _ st fr ⟨C, dd, w, rfl, rfl, gC, hdd, hw⟩
/-- try: body, except x as n: suite -/
theorem cst_tryAs (hs : X.stack = X.env :: X.outer) (hf : X.env.frame = some X.env.locals) (hN : X.N.Nodup) (hi : X.N[i]? = some n) (hln : X.env.kindOf n = some .local) (hc : Names X x c) (tk : Takes X W) (cau : Caught X c sub att)
    (hb : ∀ (W' : WX) (pn : List (Addr × Obj)) (xe : Value → Shared → Prop), Takes (X.tr pn xe) W' → PassesOwn (model X.prog X.w) X.A X.env xe → CSs (X.tr pn xe) none W' B body f)
    (hsu : ∀ (a D dd : Addr) (oe : Obj) (y fl : Str) (pn : List (Addr × Obj)), Zc (.ref D) (some dd) oe → (∃ vs, oe.data = .fields vs) → X.mg y = some (.ref D) → att y = some fl → Ask X.K D fl → CSs (Su X a oe pn) (some (a, dd, y)) W0 B (b₀ :: suite) g) :
    CSt X none W B (.Try body [.ExceptHandler (some (.Name x np)) (some n) (b₀ :: suite) pos'] [] [] pos) (tryF sub att i f g) := by
  refine ps_imp (ps_try_as (tb := fun W' => rdSt X.K X.mg none W' B f) (ts := tsF X B att g) hs hf hN hi hln hc tk hb fun a oe cls d pn hz hv => ⟨?_⟩) fun T σ H ⟨ρ, O, fr, q⟩ => ⟨ρ, O, fr, endS_try cau q⟩
  rintro pins s σ H T I ⟨D, dd, y, fl, rfl, rfl, gy, ay, ask, h⟩
  exact (hsu a D dd oe y fl pn hz hv gy ay ask).run pins s σ H T I h
end
end Pf

set_option Elab.async false
set_option linter.all false
set_option maxRecDepth 100000
/-! Expressions as terms: what they compute, and which text they stand for. -/
namespace Pf
open PySem PySem.Spec PyProof.Rows L2

/-! ### a few more rules -/
section
variable {X : Cx} {xp : XP} {W : WX} {a b c : Expr} {fa : Sto → Rs D} {ta tb tc : Sto → Rs Bool} {pos : Pos}
theorem pt_ite {ra rb rc : TT} (hc : PT X c rc) (ha : PT X a ra) (hb : PT X b rb) : PT X (.IfExp c a b pos) (fun σ H Q => rc σ H fun k H1 => if k = true then ra σ H1 Q else rb σ H1 Q) := by
  constructor
  intro pins s σ H Q I h
  show wpAny _ _ (do if ← isTrue c X.env (eval c X.env) then isTrue a X.env (eval a X.env) else isTrue b X.env (eval b X.env)) _ _ _
  refine wpAny_bind (thn (hc.run pins s σ H _ I h) ?_)
  rintro k s1 ⟨H1, I1, q1⟩
  cases k with
  | true => exact ha.run pins s1 σ H1 Q I1 q1
  | false => exact hb.run pins s1 σ H1 Q I1 q1
theorem ct_if (hc : CT X xp W c tc) (ha : CT X xp W a ta) (hb : CT X xp W b tb) : CT X xp W (.IfExp c a b pos) (fun ρ => (tc ρ).bind fun k => if k = true then ta ρ else tb ρ) :=
  pt_imp (pt_ite hc ha hb) fun σ H Q ⟨ρ, O, R, q⟩ => ⟨ρ, O, R, (End.bind q).imp fun k H' _ s z => by
    cases k with
    | true => exact ⟨ρ, O, R.mono s, z⟩
    | false => exact ⟨ρ, O, R.mono s, z⟩⟩
def negD : D → Rs D
  | .int i => .ok (.int (-i))
  | _ => .bad
theorem ce_neg (ha : CE X xp W a fa) : CE X xp W (.UnaryOp .USub a pos) (fun ρ => (fa ρ).bind negD) :=
  pe_imp (pe_un un_neg ha) fun σ H Q ⟨ρ, O, R, q⟩ => ⟨ρ, O, R, (End.bind q).imp fun d H' _ s k v hv => by
    match d, hv, k with
    | .int i, .int _, k => exact ⟨i, rfl, k.ok _ (.int _)⟩⟩
def revD : D → Rs D
  | .list xs => .ok (.list xs.reverse)
  | _ => .bad
theorem ce_rev {k : Nat} {p1 p2 p3 : Pos} (ha : CE X xp W a fa) : CE X xp W (.Subscript a (.Slice none none (some (.UnaryOp .USub (.Constant (.int 1) k p1) p2)) p3) pos) (fun ρ => (fa ρ).bind revD) :=
  pe_imp (pe_revL ha) fun σ H Q ⟨ρ, O, R, q⟩ => ⟨ρ, O, R, (End.bind q).imp fun d H' _ s k v hv => by
    match d, hv, k with
    | .list xs, .lst (xs := vs) h1 h2 h3, k => exact ⟨_, vs, rfl, (rd_sub h1).sq, fun p hp => k _ (same_new hp) _ (dn_newL (R.mono s).thr hp (by rw [List.length_reverse]; exact h2) (dpAll_rev h3))⟩⟩
end

/-! ### the terms -/
mutual
inductive E where
  | var (i : Nat)
  | int (i : Int)
  | str (x : Str)
  | bl (b : Bool)
  | non
  | gl (k : Nat)
  | bin (o : Bi) (a b : E)
  | neg (a : E)
  | cmp (o : Cm) (a b : L)
  | ch (o1 o2 : Cm) (a b c : L)
  | not (a : E)
  | and (a b : E)
  | or (a b : E)
  | ife (c a b : E)
  | tup (es : Es)
  | lst (es : Es)
  | ix (a b : E)
  | oix (i : Nat) (b : E)
  | sl (a : E) (lo hi : Eo)
  | rev (a : E)
  | bi (f : BI) (es : Es)
  | ti (f : TyI) (es : Es)
  | len (a : L)
  | mt (m : MI) (a : E) (es : Es)
  | call (k : Nat) (es : Es)
  | isa (a : L) (T : TyN)
  | isa2 (a : L) (T U : TyN)
  | lc (t : Tg) (vs : List Nat) (it : I) (cond : Eo) (elt : E)
  | lenks (t : Tg) (vs : List Nat) (it : I) (cond : Eo) (elt : E)
  | xat (i : Nat) (f : Str)
  | xis (i : Nat) (y : Str)
/-- what is only looked at: a list of ours, too -/
inductive L where
  | ov (i : Nat)
  | ex (e : E)
inductive Es where
  | nil
  | cons (e : E) (es : Es)
inductive Eo where
  | none
  | some (e : E)
inductive I where
  | val (e : E)
  | r1 (a : E)
  | r2 (a b : E)
  | enum (a : E)
end
/-- what the terms are read in: the constants, the defs, the built-in names that are used, the classes of errors -/
structure Gs where
  gl : List (Str × D)
  fs : List (Str × Nat × (List D → Rs D))
  bs : List Str
  sb : Str → Str → Option Bool
  at_ : Str → Option Str
  hs : List Str
def callG (Γ : Gs) (k : Nat) (ds : List D) : Rs D := match Γ.fs[k]? with
  | some (_, n, m) => if ds.length = n then m ds else .bad
  | none => .bad
def glG (Γ : Gs) (k : Nat) : Rs D := match Γ.gl[k]? with
  | some (_, d) => .ok d
  | none => .bad
def limT (xs : List D) (k : List D → D) : Rs D := if xs.length ≤ LIM then .ok (k xs) else .bad
mutual
def sem (Γ : Gs) : E → Sto → Rs D
  | .var i, ρ => getP ρ i
  | .int i, _ => .ok (.int i)
  | .str x, _ => .ok (.str x)
  | .bl b, _ => .ok (.bool b)
  | .non, _ => .ok .none
  | .gl k, _ => glG Γ k
  | .bin o a b, ρ => (sem Γ a ρ).bind fun x => (sem Γ b ρ).bind fun y => pur (binD o x y)
  | .neg a, ρ => (sem Γ a ρ).bind negD
  | .cmp o a b, ρ => (seml Γ a ρ).bind fun x => (seml Γ b ρ).bind fun y => pur (cmpD o x y)
  | .ch o1 o2 a b c, ρ => toB (chainF o1 o2 (seml Γ a) (seml Γ b) (seml Γ c) ρ)
  | .not a, ρ => ((sem Γ a ρ).bind asB).bind fun b => .ok (.bool (!b))
  | .and a b, ρ => ((sem Γ a ρ).bind asB).bind fun k => if k = true then sem Γ b ρ else .ok (.bool false)
  | .or a b, ρ => ((sem Γ a ρ).bind asB).bind fun k => if k = true then .ok (.bool true) else sem Γ b ρ
  | .ife c a b, ρ => ((sem Γ c ρ).bind asB).bind fun k => if k = true then sem Γ a ρ else sem Γ b ρ
  | .tup es, ρ => (sems Γ es ρ).bind fun xs => limT xs .tuple
  | .lst es, ρ => (sems Γ es ρ).bind fun xs => limT xs .list
  | .ix a b, ρ => (sem Γ a ρ).bind fun x => (sem Γ b ρ).bind fun y => pur (ixD x y)
  | .oix i b, ρ => (getO ρ i).bind fun x => (sem Γ b ρ).bind fun y => pur (ixD x y)
  | .sl a lo hi, ρ => (sem Γ a ρ).bind fun x => (semo Γ lo ρ).bind fun l => (semo Γ hi ρ).bind fun u => pur (slD x l u)
  | .rev a, ρ => (sem Γ a ρ).bind revD
  | .bi f es, ρ => (sems Γ es ρ).bind fun ds => pur (biD f ds)
  | .ti f es, ρ => (sems Γ es ρ).bind fun ds => pur (tiD f ds)
  | .len a, ρ => (seml Γ a ρ).bind fun d => pur (lenD d)
  | .mt m a es, ρ => (sem Γ a ρ).bind fun x => (strR x).bind fun z => (sems Γ es ρ).bind fun ds => pur (miD m (.str z) ds)
  | .call k es, ρ => (sems Γ es ρ).bind fun ds => callG Γ k ds
  | .isa a T, ρ => (seml Γ a ρ).bind fun d => .ok (.bool (isaK T (kd d)))
  | .isa2 a T U, ρ => (seml Γ a ρ).bind fun d => .ok (.bool (isaK T (kd d) || isaK U (kd d)))
  | .lc t vs it cond elt, ρ => (lcF t vs (semi Γ it) (semc Γ cond) (sem Γ elt) ρ).bind fun ds => .ok (.list ds)
  | .lenks t vs it cond elt, ρ => (ksF t vs (semi Γ it) (semc Γ cond) (sem Γ elt) ρ).bind fun ks => .ok (.int ks.length)
  | .xat i f, ρ => (getX ρ i).bind fun e => if Γ.at_ e.cls = some f ∧ e.attr = f then .ok e.val else .bad
  | .xis i y, ρ => (getX ρ i).bind fun e => opt (Γ.sb e.cls y) PyData.bool
def seml (Γ : Gs) : L → Sto → Rs D
  | .ov i, ρ => getO ρ i
  | .ex e, ρ => sem Γ e ρ
def sems (Γ : Gs) : Es → Sto → Rs (List D)
  | .nil, _ => .ok []
  | .cons e es, ρ => (sem Γ e ρ).bind fun x => (sems Γ es ρ).bind fun xs => .ok (x :: xs)
def semo (Γ : Gs) : Eo → Sto → Rs (Option Int)
  | .none, _ => .ok none
  | .some e, ρ => (sem Γ e ρ).bind asI
def semc (Γ : Gs) : Eo → Sto → Rs Bool
  | .none, _ => .ok true
  | .some e, ρ => (sem Γ e ρ).bind asB
def semi (Γ : Gs) : I → Sto → Rs (List D)
  | .val e, ρ => (sem Γ e ρ).bind itemsD
  | .r1 a, ρ => (sem Γ a ρ).bind rng1
  | .r2 a b, ρ => (sem Γ a ρ).bind fun x => (sem Γ b ρ).bind fun y => rng2 x y
  | .enum a, ρ => (sem Γ a ρ).bind enumL
end

/-! ### which text a term stands for -/
structure Ck where
  Γ : Gs
  N : List Str
  sc : Scope
  /-- not within an except suite -/
  cm : Bool
  /-- a def's own frame, not a comprehension's block -/
  fa : Bool
def Ck.vis (c : Ck) (i : Nat) (x : Str) : Bool :=
  decide (c.N[i]? = some x) && (match c.sc.names.lookup x with | some .local => true | some .cell => true | some .free => true | _ => false) && !(x == ("__debug__" : Str)) && !(x == ("__classdict__" : Str))
def Ck.glo (c : Ck) (x : Str) : Bool := decide (c.sc.names.lookup x = some .globalImplicit) && !(x == ("__debug__" : Str))
def Ck.blt (c : Ck) (x : Str) : Bool := c.glo x && decide (x ∈ c.Γ.bs)
def Ck.tgt (c : Ck) (i : Nat) (x : Str) : Bool := decide (c.N[i]? = some x) && (match c.sc.names.lookup x with | some .local => true | some .cell => c.fa | _ => false)
def Ck.names (c : Ck) : List Nat → List Expr → Bool
  | [], [] => true
  | i :: is, .Name x _ :: es => c.tgt i x && c.names is es
  | _, _ => false
def Ck.tg (c : Ck) : Tg → Expr → Bool
  | .nm i, .Name x _ => c.tgt i x
  | .tp is, .Tuple es _ _ => c.cm && c.names is es
  | _, _ => false
def noStar : Expr → Bool
  | .Starred .. => false
  | _ => true
def noSet : Expr → Bool
  | .Set .. => false
  | _ => true
/-- what may be called within an except suite -/
def BI.quiet : BI → Bool
  | .repr => true
  | _ => false
def ownOf (N : List Str) (vs : List Nat) : List (Str × Nat) := vs.map fun i => (N.getD i Str.empty, i)
def Ck.blk (c : Ck) (scope : Scope) : Ck := { c with sc := relS scope c.sc, fa := false }
def slotsIn (t : Tg) (vs : List Nat) : Bool := t.slots.all fun i => decide (i ∈ vs)
mutual
def Ck.e (c : Ck) : E → Expr → Bool
  | .var i, .Name x _ => c.vis i x
  | .int i, .Constant (.int j) _ _ => decide (i = j)
  | .str x, .Constant (.str y) _ _ => decide (x = y) && asc x && decide (x.length ≤ LIM)
  | .bl b, .Constant (.bool d) _ _ => decide (b = d)
  | .non, .Constant .none _ _ => true
  | .gl k, .Name x _ => c.glo x && (match c.Γ.gl[k]? with | some (y, _) => decide (x = y) | none => false)
  | .bin o a b, .BinOp x op y _ => decide (o.op = op) && c.e a x && c.e b y
  | .neg a, .UnaryOp .USub x _ => c.e a x
  | .cmp o a b, .Compare x [op] [y] _ => decide (o.op = op) && !behindInMarks op y && c.l a x && c.l b y
  | .ch o1 o2 a b d, .Compare x [p1, p2] [y, z] _ => decide (o1.op = p1) && decide (o2.op = p2) && !lastMarks [p1, p2] [y, z] && c.l a x && c.l b y && c.l d z
  | .not a, .UnaryOp .Not x _ => c.e a x
  | .and a b, .BoolOp .And (x :: y :: r) p => c.e a x && (match r with | [] => c.e b y | z :: r => c.e b (.BoolOp .And (y :: z :: r) p))
  | .or a b, .BoolOp .Or (x :: y :: r) p => c.e a x && (match r with | [] => c.e b y | z :: r => c.e b (.BoolOp .Or (y :: z :: r) p))
  | .ife d a b, .IfExp z x y _ => c.e d z && c.e a x && c.e b y
  | .tup es, .Tuple xs _ _ => c.es es xs
  | .lst es, .List xs _ => c.es es xs
  | .ix a b, .Subscript x y _ => noSlice y && c.e a x && c.e b y
  | .oix i b, .Subscript (.Name x _) y _ => noSlice y && c.vis i x && c.e b y
  | .sl a lo hi, .Subscript x (.Slice l h none _) _ => c.e a x && c.o lo l && c.o hi h
  | .rev a, .Subscript x (.Slice none none (some (.UnaryOp .USub (.Constant (.int 1) _ _) _)) _) _ => c.e a x
  | .bi f es, .Call (.Name x _) (y :: ys) [] _ => decide (x = (f.id : Str)) && (c.cm || f.quiet) && c.blt x && c.es es (y :: ys)
  | .ti f es, .Call (.Name x _) (y :: ys) [] _ => decide (x = (f.id : Str)) && c.blt x && c.es es (y :: ys)
  | .len a, .Call (.Name x _) [y] [] _ => decide (x = ("len" : Str)) && c.blt x && noStar y && c.l a y
  | .mt m a es, .Call (.Attribute x n p) (y :: ys) [] q => decide (n = (m.nm : Str)) && noSup x && (p.endLine == q.line) && decide (ys.length < 20) && c.e a x && c.es es (y :: ys)
  | .call k es, .Call (.Name x _) ys [] _ => c.cm && c.glo x && (match c.Γ.fs[k]? with | some (y, _) => decide (x = y) | none => false) && c.es es ys
  | .isa a T, .Call (.Name x _) [y, .Name z _] [] _ => decide (x = ("isinstance" : Str)) && decide (z = (T.nm : Str)) && c.blt x && c.blt z && noStar y && c.l a y
  | .isa2 a T U, .Call (.Name x _) [y, .Tuple [.Name z _, .Name u _] _ _] [] _ => decide (x = ("isinstance" : Str)) && decide (z = (T.nm : Str)) && decide (u = (U.nm : Str)) && c.blt x && c.blt z && c.blt u && noStar y && c.l a y
  | .lc t vs it cond elt, .ListComp x [⟨tg, iter, ifs, 0⟩] scope _ => c.cm && noSet iter && slotsIn t vs && blkC c.N c.sc scope (ownOf c.N vs) && c.i tg it iter && (c.blk scope).tg t tg && (c.blk scope).cs cond ifs && (c.blk scope).e elt x
  | .lenks t vs it cond elt, .Call (.Name len _) [.SetComp x [⟨tg, iter, ifs, 0⟩] scope _] [] _ =>
    decide (len = ("len" : Str)) && c.blt len && c.cm && noSet iter && slotsIn t vs && blkC c.N c.sc scope (ownOf c.N vs) && c.i tg it iter && (c.blk scope).tg t tg && (c.blk scope).cs cond ifs && (c.blk scope).e elt x
  | .xat i f, .Attribute (.Name x _) g _ => decide (f = g) && !c.cm && c.vis i x
  | .xis i y, .Call (.Name z _) [.Name x _, .Name u _] [] _ => decide (z = ("isinstance" : Str)) && decide (u = y) && !c.cm && c.blt z && c.vis i x && c.glo u
  | _, _ => false
def Ck.l (c : Ck) : L → Expr → Bool
  | .ov i, .Name x _ => c.vis i x
  | .ex e, x => c.e e x
  | _, _ => false
def Ck.es (c : Ck) : Es → List Expr → Bool
  | .nil, [] => true
  | .cons e es, x :: xs => noStar x && c.e e x && c.es es xs
  | _, _ => false
def Ck.o (c : Ck) : Eo → Option Expr → Bool
  | .none, none => true
  | .some e, some x => c.e e x
  | _, _ => false
def Ck.cs (c : Ck) : Eo → List Expr → Bool
  | .none, [] => true
  | .some e, [x] => c.e e x
  | _, _ => false
def Ck.i (c : Ck) (tg : Expr) : I → Expr → Bool
  | .val e, x => c.e e x
  | .r1 a, .Call (.Name r _) [x] [] _ => decide (r = ("range" : Str)) && c.blt r && noStar x && c.e a x
  | .r2 a b, .Call (.Name r _) [x, y] [] _ => decide (r = ("range" : Str)) && c.blt r && noStar x && noStar y && c.e a x && c.e b y
  | .enum a, .Call (.Name r _) [x] [] _ => decide (r = ("enumerate" : Str)) && c.blt r && (match tg with | .Tuple .. => true | _ => false) && noStar x && c.e a x
  | _, _ => false
end
end Pf

set_option Elab.async false
set_option linter.all false
set_option maxRecDepth 100000
/-! What a term computes is what its text does. -/
namespace Pf
open PySem PySem.Spec PyProof.Rows L2

/-- the context is as the checker takes it -/
structure At (c : Ck) (X : Cx) (xp : XP) (W : WX) : Prop where
  N : X.N = c.N
  sc : X.env.scope = c.sc
  fa : c.fa = true → ∀ x, X.fn x = true
  cm : c.cm = true → X.calm = true
  gl : ∀ x d, (x, d) ∈ c.Γ.gl → ∃ u v, X.mg x = some u ∧ L2.RelV v u ∧ ∀ F, Dn X.K F v d
  fs : c.cm = true → ∀ x n m, (x, n, m) ∈ c.Γ.fs → Does X x n m
  bs : ∀ x ∈ c.Γ.bs, X.mg x = none
  nd : X.N.Nodup
  nore : NoRepr X.A
  hu : X.A.units + 70 < cLine
  tk : Takes X W
  su : c.cm = false → ∃ (X0 : Cx) (a D dd : Addr) (oe : Obj) (pn : List (Addr × Obj)) (y f : Str), X = Su X0 a oe pn ∧ W = W0 ∧ xp = some (a, dd, y) ∧ c.Γ.at_ y = some f ∧ Ask X0.K D f ∧ Zc (.ref D) (some dd) oe ∧ (∃ vs, oe.data = .fields vs) ∧ X0.mg y = some (.ref D)
  sb : ∀ x y b, c.Γ.sb x y = some b → SubIs X.K X.mg x y b
  at_ : ∀ y f, c.Γ.at_ y = some f → ∃ C, X.mg y = some (.ref C) ∧ Ask X.K C f
section
variable {c : Ck} {X : Cx} {xp : XP} {W : WX} {x : Str} {i : Nat}
theorem At.vis_of (A : At c X xp W) (h : c.vis i x = true) : X.N[i]? = some x ∧ Vis X.env.scope x ∧ (x == ("__debug__" : Str)) = false ∧ (x == ("__classdict__" : Str)) = false := by
  unfold Ck.vis at h
  simp only [Bool.and_eq_true, decide_eq_true_eq, Bool.not_eq_true'] at h
  obtain ⟨⟨⟨h1, h2⟩, h3⟩, h4⟩ := h
  refine ⟨by rw [A.N]; exact h1, ?_, h3, h4⟩
  rw [A.sc]
  unfold Vis
  cases e : c.sc.names.lookup x with
  | none => rw [e] at h2; cases h2
  | some k =>
    rw [e] at h2
    cases k <;> first | exact .inl rfl | exact .inr (.inl rfl) | exact .inr (.inr rfl) | cases h2
theorem At.glo_of (A : At c X xp W) (h : c.glo x = true) : Gl X x ∧ (x == ("__debug__" : Str)) = false := by
  unfold Ck.glo at h
  simp only [Bool.and_eq_true, decide_eq_true_eq, Bool.not_eq_true'] at h
  refine ⟨?_, h.2⟩
  show X.env.scope.names.lookup x = _
  rw [A.sc]
  exact h.1
theorem At.blt_of (A : At c X xp W) (h : c.blt x = true) : Gl X x ∧ (x == ("__debug__" : Str)) = false ∧ X.mg x = none := by
  unfold Ck.blt at h
  simp only [Bool.and_eq_true, decide_eq_true_eq] at h
  exact ⟨(A.glo_of h.1).1, (A.glo_of h.1).2, A.bs x h.2⟩
theorem At.tgt_of (A : At c X xp W) (h : c.tgt i x = true) : X.N[i]? = some x ∧ L2.Loc X.env.scope x ∧ (X.fn x = true ∨ X.env.scope.names.lookup x = some .local) := by
  unfold Ck.tgt at h
  simp only [Bool.and_eq_true, decide_eq_true_eq] at h
  refine ⟨by rw [A.N]; exact h.1, ?_⟩
  rw [A.sc]
  unfold L2.Loc
  cases e : c.sc.names.lookup x with
  | none => have := h.2; rw [e] at this; cases this
  | some k =>
    have h2 := h.2
    rw [e] at h2
    cases k <;> first | exact ⟨.inl rfl, .inr rfl⟩ | exact ⟨.inr rfl, .inl (A.fa h2 x)⟩ | cases h2
theorem At.names_of (A : At c X xp W) : ∀ {is : List Nat} {es : List Expr}, c.names is es = true → CGs X es is ∧ (assignEach es X.env).length = is.length ∧ (assignEach es X.env).findIdx? (·.1) = none
  | [], [], _ => ⟨pgs_nil, rfl, rfl⟩
  | i :: is, .Name x p :: es, h => by
    have h : (c.tgt i x && c.names is es) = true := h
    rw [Bool.and_eq_true] at h
    obtain ⟨h1, h2, h3⟩ := A.tgt_of h.1
    obtain ⟨g1, g2, g3⟩ := A.names_of h.2
    refine ⟨pgs_cons (pg_name A.nd h1 h2 h3) g1 rfl, congrArg Nat.succ g2, ?_⟩
    show ((false, assign (.Name x p) X.env) :: assignEach es X.env).findIdx? (·.1) = none
    rw [List.findIdx?_cons, g3]
    rfl
  | [], _ :: _, h => by cases h
  | _ :: _, [], h => by cases h
  | _ :: _, .BoolOp .. :: _, h => by cases h
  | _ :: _, .NamedExpr .. :: _, h => by cases h
  | _ :: _, .BinOp .. :: _, h => by cases h
  | _ :: _, .UnaryOp .. :: _, h => by cases h
  | _ :: _, .Lambda .. :: _, h => by cases h
  | _ :: _, .IfExp .. :: _, h => by cases h
  | _ :: _, .Dict .. :: _, h => by cases h
  | _ :: _, .Set .. :: _, h => by cases h
  | _ :: _, .ListComp .. :: _, h => by cases h
  | _ :: _, .SetComp .. :: _, h => by cases h
  | _ :: _, .DictComp .. :: _, h => by cases h
  | _ :: _, .GeneratorExp .. :: _, h => by cases h
  | _ :: _, .Await .. :: _, h => by cases h
  | _ :: _, .Yield .. :: _, h => by cases h
  | _ :: _, .YieldFrom .. :: _, h => by cases h
  | _ :: _, .Compare .. :: _, h => by cases h
  | _ :: _, .Call .. :: _, h => by cases h
  | _ :: _, .FormattedValue .. :: _, h => by cases h
  | _ :: _, .JoinedStr .. :: _, h => by cases h
  | _ :: _, .Constant .. :: _, h => by cases h
  | _ :: _, .Attribute .. :: _, h => by cases h
  | _ :: _, .Subscript .. :: _, h => by cases h
  | _ :: _, .Starred .. :: _, h => by cases h
  | _ :: _, .List .. :: _, h => by cases h
  | _ :: _, .Tuple .. :: _, h => by cases h
  | _ :: _, .Slice .. :: _, h => by cases h
theorem At.tg_of (A : At c X xp W) {t : Tg} {e : Expr} (h : c.tg t e = true) : CG X xp e t := by
  unfold Ck.tg at h
  split at h
  · obtain ⟨h1, h2, h3⟩ := A.tgt_of h
    exact cg_nm A.nd h1 h2 h3
  · rw [Bool.and_eq_true] at h
    obtain ⟨g1, g2, g3⟩ := A.names_of h.2
    exact cg_tp (A.cm h.1) g1 g2 g3
  · cases h
theorem At.blk (A : At c X xp W) (cm : c.cm = true) (scope : Scope) (s : Shared) (H : Hp) (C : Addr) (cl : List (Str × Addr)) (fp : List Addr) : At (c.blk scope) (X.blk s H scope (compEnvC scope cl C X.env) fp) xp W0 where
  N := A.N
  sc := by
    show relS scope X.env.scope = relS scope c.sc
    rw [A.sc]
  fa := fun h => by cases h
  cm := A.cm
  gl := A.gl
  fs := A.fs
  bs := A.bs
  nd := A.nd
  nore := A.nore
  hu := A.hu
  tk := takes0
  su := fun h => by
    have h : c.cm = false := h
    rw [cm] at h
    cases h
  sb := A.sb
  at_ := A.at_
end
theorem star_cons {x : Expr} {xs : List Expr} {env : Env} (h : noStar x = true) : starEach (x :: xs) env = (false, eval x env) :: starEach xs env := by
  cases x <;> first | rfl | cases h
theorem any_back {pos : Pos} {xs : List (Bool × Sem Value)} : (backTo pos xs).any (·.1) = xs.any (·.1) := by
  unfold backTo
  rw [List.any_map]
  rfl
theorem es_plain {c : Ck} : ∀ {es : Es} {xs : List Expr} {env : Env}, c.es es xs = true → (starEach xs env).any (·.1) = false
  | .nil, [], _, _ => rfl
  | .cons e es, x :: xs, env, h => by
    have h : (noStar x && c.e e x && c.es es xs) = true := h
    simp only [Bool.and_eq_true] at h
    rw [star_cons h.1.1, List.any_cons, es_plain h.2]
    rfl
  | .nil, _ :: _, _, h => by cases h
  | .cons .., [], _, h => by cases h
theorem few_of {c : Ck} {pos : Pos} {es : Es} {xs : List Expr} {env : Env} (h : c.es es xs = true) (hl : xs.length < 25) :
    ((backTo pos (starEach xs env)).all (fun x => !x.1) && (backToKw pos (keywordEach [] env)).all (fun x => x.1.isSome) && decide (xs.length + ([] : List Keyword).length + (if ([] : List Keyword).isEmpty then 0 else 1) < 30)) = true := by
  have h1 : (backTo pos (starEach xs env)).all (fun x => !x.1) = true := by
    have := any_back (pos := pos) (xs := starEach xs env)
    rw [es_plain h] at this
    rw [List.all_eq_not_any_not]
    simp only [Bool.not_not]
    rw [this]
    rfl
  rw [h1]
  have : xs.length + ([] : List Keyword).length + (if ([] : List Keyword).isEmpty then 0 else 1) < 30 := by
    show xs.length + 0 + 0 < 30
    omega
  rw [decide_eq_true this]
  rfl
theorem boot_BI : ∀ b : BI, bootBuiltins (b.id : Str) = some (.builtin b.id) := by
  intro b
  cases b <;> rfl
theorem boot_TI : ∀ b : TyI, bootBuiltins (b.id : Str) = some (.type b.id) := by
  intro b
  cases b <;> rfl
theorem BI_name (b : BI) : (b.id : Str) ≠ "__name__" := by cases b <;> decide
theorem TI_name (b : TyI) : (b.id : Str) ≠ "__name__" := by cases b <;> decide
theorem own_snd {N : List Str} {vs : List Nat} : (ownOf N vs).map (·.2) = vs := by
  unfold ownOf
  rw [List.map_map]
  exact List.map_id _
/-! test and value of one term -/
theorem toB_asB (r : Rs Bool) : (toB r).bind asB = r := by cases r <;> rfl
def S3 (X : Cx) (xp : XP) (W : WX) (x : Expr) (f : Sto → Rs D) : Prop := CE X xp W x f ∧ CT X xp W x (fun ρ => (f ρ).bind asB) ∧ ∀ op vs p, x = .BoolOp op vs p → CW X xp W x (fun ρ => (f ρ).bind asB)
section
variable {X : Cx} {xp : XP} {W : WX} {x : Expr} {f g : Sto → Rs D} {h k : Sto → Rs Bool}
theorem ct_eq (a : CT X xp W x h) (e : ∀ ρ, k ρ = h ρ) : CT X xp W x k := by
  have : k = h := funext e
  rw [this]; exact a
theorem cw_eq (a : CW X xp W x h) (e : ∀ ρ, k ρ = h ρ) : CW X xp W x k := by
  have : k = h := funext e
  rw [this]; exact a
theorem ce_eq (a : CE X xp W x f) (e : ∀ ρ, g ρ = f ρ) : CE X xp W x g := by
  have : g = f := funext e
  rw [this]; exact a
theorem mk3 (a : CE X xp W x f) (he : ∀ whole, isTrue x X.env whole = (do let v ← whole; standAt x.pos; holding [v] (truthy v))) (nb : ∀ op vs p, x ≠ .BoolOp op vs p) : S3 X xp W x f :=
  ⟨a, ct_val a he, fun op vs p e => absurd e (nb op vs p)⟩
theorem mk3t (a : CE X xp W x f) (t : CT X xp W x (fun ρ => (f ρ).bind asB)) (nb : ∀ op vs p, x ≠ .BoolOp op vs p) : S3 X xp W x f := ⟨a, t, fun op vs p e => absurd e (nb op vs p)⟩
end
end Pf

set_option Elab.async false
set_option linter.all false
set_option maxRecDepth 100000
set_option maxHeartbeats 1000000
/-! Which texts the checker lets pass. -/
namespace Pf
open PySem PySem.Spec PyProof.Rows L2
section
variable {c : Ck} {x : Expr}
theorem i_var {i : Nat} (h : c.e (.var i) x = true) : ∃ n p, x = .Name n p ∧ c.vis i n = true := by
  unfold Ck.e at h
  split at h <;> first | contradiction | skip
  rename_i heq
  cases heq
  try simp only [Bool.and_eq_true, decide_eq_true_eq, Bool.not_eq_true', and_assoc] at h
  exact ⟨_, _, rfl, h⟩
theorem i_int {i : Int} (h : c.e (.int i) x = true) : ∃ k p, x = .Constant (.int i) k p := by
  unfold Ck.e at h
  split at h <;> first | contradiction | skip
  rename_i heq
  cases heq
  try simp only [Bool.and_eq_true, decide_eq_true_eq, Bool.not_eq_true', and_assoc] at h
  subst h
  exact ⟨_, _, rfl⟩
theorem i_str {s : Str} (h : c.e (.str s) x = true) : ∃ k p, x = .Constant (.str s) k p ∧ asc s = true ∧ s.length ≤ LIM := by
  unfold Ck.e at h
  split at h <;> first | contradiction | skip
  rename_i heq
  cases heq
  try simp only [Bool.and_eq_true, decide_eq_true_eq, Bool.not_eq_true', and_assoc] at h
  obtain ⟨e0, h⟩ := h
  subst e0
  exact ⟨_, _, rfl, h⟩
theorem i_bl {b : Bool} (h : c.e (.bl b) x = true) : ∃ k p, x = .Constant (.bool b) k p := by
  unfold Ck.e at h
  split at h <;> first | contradiction | skip
  rename_i heq
  cases heq
  try simp only [Bool.and_eq_true, decide_eq_true_eq, Bool.not_eq_true', and_assoc] at h
  subst h
  exact ⟨_, _, rfl⟩
theorem i_non  (h : c.e (.non) x = true) : ∃ k p, x = .Constant .none k p := by
  unfold Ck.e at h
  split at h <;> first | contradiction | skip
  rename_i heq
  cases heq
  try simp only [Bool.and_eq_true, decide_eq_true_eq, Bool.not_eq_true', and_assoc] at h
  exact ⟨_, _, rfl⟩
theorem i_gl {k : Nat} (h : c.e (.gl k) x = true) : ∃ n p, x = .Name n p ∧ c.glo n = true ∧ (match c.Γ.gl[k]? with | some (y, _) => decide (n = y) | none => false) = true := by
  unfold Ck.e at h
  split at h <;> first | contradiction | skip
  rename_i heq
  cases heq
  try simp only [Bool.and_eq_true, decide_eq_true_eq, Bool.not_eq_true', and_assoc] at h
  exact ⟨_, _, rfl, h⟩
theorem i_bin {o : Bi} {a b : E} (h : c.e (.bin o a b) x = true) : ∃ y z p, x = .BinOp y o.op z p ∧ c.e a y = true ∧ c.e b z = true := by
  unfold Ck.e at h
  split at h <;> first | contradiction | skip
  rename_i heq
  cases heq
  try simp only [Bool.and_eq_true, decide_eq_true_eq, Bool.not_eq_true', and_assoc] at h
  obtain ⟨e0, h⟩ := h
  subst e0
  exact ⟨_, _, _, rfl, h⟩
theorem i_neg {a : E} (h : c.e (.neg a) x = true) : ∃ y p, x = .UnaryOp .USub y p ∧ c.e a y = true := by
  unfold Ck.e at h
  split at h <;> first | contradiction | skip
  rename_i heq
  cases heq
  try simp only [Bool.and_eq_true, decide_eq_true_eq, Bool.not_eq_true', and_assoc] at h
  exact ⟨_, _, rfl, h⟩
theorem i_cmp {o : Cm} {a b : L} (h : c.e (.cmp o a b) x = true) : ∃ y z p, x = .Compare y [o.op] [z] p ∧ behindInMarks o.op z = false ∧ c.l a y = true ∧ c.l b z = true := by
  unfold Ck.e at h
  split at h <;> first | contradiction | skip
  rename_i heq
  cases heq
  try simp only [Bool.and_eq_true, decide_eq_true_eq, Bool.not_eq_true', and_assoc] at h
  obtain ⟨e0, h⟩ := h
  subst e0
  exact ⟨_, _, _, rfl, h⟩
theorem i_ch {o1 o2 : Cm} {a b d : L} (h : c.e (.ch o1 o2 a b d) x = true) : ∃ y z u p, x = .Compare y [o1.op, o2.op] [z, u] p ∧ lastMarks [o1.op, o2.op] [z, u] = false ∧ c.l a y = true ∧ c.l b z = true ∧ c.l d u = true := by
  unfold Ck.e at h
  split at h <;> first | contradiction | skip
  rename_i heq
  cases heq
  try simp only [Bool.and_eq_true, decide_eq_true_eq, Bool.not_eq_true', and_assoc] at h
  obtain ⟨e0, h⟩ := h
  subst e0
  obtain ⟨e1, h⟩ := h
  subst e1
  exact ⟨_, _, _, _, rfl, h⟩
theorem i_not {a : E} (h : c.e (.not a) x = true) : ∃ y p, x = .UnaryOp .Not y p ∧ c.e a y = true := by
  unfold Ck.e at h
  split at h <;> first | contradiction | skip
  rename_i heq
  cases heq
  try simp only [Bool.and_eq_true, decide_eq_true_eq, Bool.not_eq_true', and_assoc] at h
  exact ⟨_, _, rfl, h⟩
theorem i_and {a b : E} (h : c.e (.and a b) x = true) : ∃ y z r p, x = .BoolOp .And (y :: z :: r) p ∧ c.e a y = true ∧ (match r with | [] => c.e b z | u :: r => c.e b (.BoolOp .And (z :: u :: r) p)) = true := by
  unfold Ck.e at h
  split at h <;> first | contradiction | skip
  rename_i heq
  cases heq
  try simp only [Bool.and_eq_true, decide_eq_true_eq, Bool.not_eq_true', and_assoc] at h
  exact ⟨_, _, _, _, rfl, h⟩
theorem i_or {a b : E} (h : c.e (.or a b) x = true) : ∃ y z r p, x = .BoolOp .Or (y :: z :: r) p ∧ c.e a y = true ∧ (match r with | [] => c.e b z | u :: r => c.e b (.BoolOp .Or (z :: u :: r) p)) = true := by
  unfold Ck.e at h
  split at h <;> first | contradiction | skip
  rename_i heq
  cases heq
  try simp only [Bool.and_eq_true, decide_eq_true_eq, Bool.not_eq_true', and_assoc] at h
  exact ⟨_, _, _, _, rfl, h⟩
theorem i_ife {d a b : E} (h : c.e (.ife d a b) x = true) : ∃ y z u p, x = .IfExp y z u p ∧ c.e d y = true ∧ c.e a z = true ∧ c.e b u = true := by
  unfold Ck.e at h
  split at h <;> first | contradiction | skip
  rename_i heq
  cases heq
  try simp only [Bool.and_eq_true, decide_eq_true_eq, Bool.not_eq_true', and_assoc] at h
  exact ⟨_, _, _, _, rfl, h⟩
theorem i_tup {es : Es} (h : c.e (.tup es) x = true) : ∃ ys k p, x = .Tuple ys k p ∧ c.es es ys = true := by
  unfold Ck.e at h
  split at h <;> first | contradiction | skip
  rename_i heq
  cases heq
  try simp only [Bool.and_eq_true, decide_eq_true_eq, Bool.not_eq_true', and_assoc] at h
  exact ⟨_, _, _, rfl, h⟩
theorem i_lst {es : Es} (h : c.e (.lst es) x = true) : ∃ ys p, x = .List ys p ∧ c.es es ys = true := by
  unfold Ck.e at h
  split at h <;> first | contradiction | skip
  rename_i heq
  cases heq
  try simp only [Bool.and_eq_true, decide_eq_true_eq, Bool.not_eq_true', and_assoc] at h
  exact ⟨_, _, rfl, h⟩
theorem i_ix {a b : E} (h : c.e (.ix a b) x = true) : ∃ y z p, x = .Subscript y z p ∧ noSlice z = true ∧ c.e a y = true ∧ c.e b z = true := by
  unfold Ck.e at h
  split at h <;> first | contradiction | skip
  rename_i heq
  cases heq
  try simp only [Bool.and_eq_true, decide_eq_true_eq, Bool.not_eq_true', and_assoc] at h
  exact ⟨_, _, _, rfl, h⟩
theorem i_oix {i : Nat} {b : E} (h : c.e (.oix i b) x = true) : ∃ n q z p, x = .Subscript (.Name n q) z p ∧ noSlice z = true ∧ c.vis i n = true ∧ c.e b z = true := by
  unfold Ck.e at h
  split at h <;> first | contradiction | skip
  rename_i heq
  cases heq
  try simp only [Bool.and_eq_true, decide_eq_true_eq, Bool.not_eq_true', and_assoc] at h
  exact ⟨_, _, _, _, rfl, h⟩
theorem i_sl {a : E} {lo hi : Eo} (h : c.e (.sl a lo hi) x = true) : ∃ y l u q p, x = .Subscript y (.Slice l u none q) p ∧ c.e a y = true ∧ c.o lo l = true ∧ c.o hi u = true := by
  unfold Ck.e at h
  split at h <;> first | contradiction | skip
  rename_i heq
  cases heq
  try simp only [Bool.and_eq_true, decide_eq_true_eq, Bool.not_eq_true', and_assoc] at h
  exact ⟨_, _, _, _, _, rfl, h⟩
theorem i_rev {a : E} (h : c.e (.rev a) x = true) : ∃ y k p1 p2 p3 p, x = .Subscript y (.Slice none none (some (.UnaryOp .USub (.Constant (.int 1) k p1) p2)) p3) p ∧ c.e a y = true := by
  unfold Ck.e at h
  split at h <;> first | contradiction | skip
  rename_i heq
  cases heq
  try simp only [Bool.and_eq_true, decide_eq_true_eq, Bool.not_eq_true', and_assoc] at h
  exact ⟨_, _, _, _, _, _, rfl, h⟩
theorem i_bi {f : BI} {es : Es} (h : c.e (.bi f es) x = true) : ∃ q y ys p, x = .Call (.Name (f.id : Str) q) (y :: ys) [] p ∧ (c.cm || f.quiet) = true ∧ c.blt (f.id : Str) = true ∧ c.es es (y :: ys) = true := by
  unfold Ck.e at h
  split at h <;> first | contradiction | skip
  rename_i heq
  cases heq
  try simp only [Bool.and_eq_true, decide_eq_true_eq, Bool.not_eq_true', and_assoc] at h
  obtain ⟨e0, h⟩ := h
  subst e0
  exact ⟨_, _, _, _, rfl, h⟩
theorem i_ti {f : TyI} {es : Es} (h : c.e (.ti f es) x = true) : ∃ q y ys p, x = .Call (.Name (f.id : Str) q) (y :: ys) [] p ∧ c.blt (f.id : Str) = true ∧ c.es es (y :: ys) = true := by
  unfold Ck.e at h
  split at h <;> first | contradiction | skip
  rename_i heq
  cases heq
  try simp only [Bool.and_eq_true, decide_eq_true_eq, Bool.not_eq_true', and_assoc] at h
  obtain ⟨e0, h⟩ := h
  subst e0
  exact ⟨_, _, _, _, rfl, h⟩
theorem i_len {a : L} (h : c.e (.len a) x = true) : ∃ q y p, x = .Call (.Name "len" q) [y] [] p ∧ c.blt "len" = true ∧ noStar y = true ∧ c.l a y = true := by
  unfold Ck.e at h
  split at h <;> first | contradiction | skip
  rename_i heq
  cases heq
  try simp only [Bool.and_eq_true, decide_eq_true_eq, Bool.not_eq_true', and_assoc] at h
  obtain ⟨e0, h⟩ := h
  subst e0
  exact ⟨_, _, _, rfl, h⟩
theorem i_mt {m : MI} {a : E} {es : Es} (h : c.e (.mt m a es) x = true) : ∃ u p1 y ys p, x = .Call (.Attribute u (m.nm : Str) p1) (y :: ys) [] p ∧ noSup u = true ∧ (p1.endLine == p.line) = true ∧ ys.length < 20 ∧ c.e a u = true ∧ c.es es (y :: ys) = true := by
  unfold Ck.e at h
  split at h <;> first | contradiction | skip
  rename_i heq
  cases heq
  try simp only [Bool.and_eq_true, decide_eq_true_eq, Bool.not_eq_true', and_assoc] at h
  obtain ⟨e0, h⟩ := h
  subst e0
  exact ⟨_, _, _, _, _, rfl, h⟩
theorem i_call {k : Nat} {es : Es} (h : c.e (.call k es) x = true) : ∃ n q ys p, x = .Call (.Name n q) ys [] p ∧ c.cm = true ∧ c.glo n = true ∧ (match c.Γ.fs[k]? with | some (y, _) => decide (n = y) | none => false) = true ∧ c.es es ys = true := by
  unfold Ck.e at h
  split at h <;> first | contradiction | skip
  rename_i heq
  cases heq
  try simp only [Bool.and_eq_true, decide_eq_true_eq, Bool.not_eq_true', and_assoc] at h
  exact ⟨_, _, _, _, rfl, h⟩
theorem i_isa {a : L} {T : TyN} (h : c.e (.isa a T) x = true) : ∃ q y p2 p, x = .Call (.Name "isinstance" q) [y, .Name (T.nm : Str) p2] [] p ∧ c.blt "isinstance" = true ∧ c.blt (T.nm : Str) = true ∧ noStar y = true ∧ c.l a y = true := by
  unfold Ck.e at h
  split at h <;> first | contradiction | skip
  rename_i heq
  cases heq
  try simp only [Bool.and_eq_true, decide_eq_true_eq, Bool.not_eq_true', and_assoc] at h
  obtain ⟨e0, h⟩ := h
  subst e0
  obtain ⟨e1, h⟩ := h
  subst e1
  exact ⟨_, _, _, _, rfl, h⟩
theorem i_isa2 {a : L} {T U : TyN} (h : c.e (.isa2 a T U) x = true) : ∃ q y p2 p3 k p1 p, x = .Call (.Name "isinstance" q) [y, .Tuple [.Name (T.nm : Str) p2, .Name (U.nm : Str) p3] k p1] [] p ∧ c.blt "isinstance" = true ∧ c.blt (T.nm : Str) = true ∧ c.blt (U.nm : Str) = true ∧ noStar y = true ∧ c.l a y = true := by
  unfold Ck.e at h
  split at h <;> first | contradiction | skip
  rename_i heq
  cases heq
  try simp only [Bool.and_eq_true, decide_eq_true_eq, Bool.not_eq_true', and_assoc] at h
  obtain ⟨e0, h⟩ := h
  subst e0
  obtain ⟨e1, h⟩ := h
  subst e1
  obtain ⟨e2, h⟩ := h
  subst e2
  exact ⟨_, _, _, _, _, _, _, rfl, h⟩
theorem i_lc {t : Tg} {vs : List Nat} {it : I} {cond : Eo} {elt : E} (h : c.e (.lc t vs it cond elt) x = true) : ∃ y tg iter ifs scope p, x = .ListComp y [⟨tg, iter, ifs, 0⟩] scope p ∧ c.cm = true ∧ noSet iter = true ∧ slotsIn t vs = true ∧ blkC c.N c.sc scope (ownOf c.N vs) = true ∧ c.i tg it iter = true ∧ (c.blk scope).tg t tg = true ∧ (c.blk scope).cs cond ifs = true ∧ (c.blk scope).e elt y = true := by
  unfold Ck.e at h
  split at h <;> first | contradiction | skip
  rename_i heq
  cases heq
  try simp only [Bool.and_eq_true, decide_eq_true_eq, Bool.not_eq_true', and_assoc] at h
  exact ⟨_, _, _, _, _, _, rfl, h⟩
theorem i_lenks {t : Tg} {vs : List Nat} {it : I} {cond : Eo} {elt : E} (h : c.e (.lenks t vs it cond elt) x = true) : ∃ q y tg iter ifs scope p1 p, x = .Call (.Name "len" q) [.SetComp y [⟨tg, iter, ifs, 0⟩] scope p1] [] p ∧ c.blt "len" = true ∧ c.cm = true ∧ noSet iter = true ∧ slotsIn t vs = true ∧ blkC c.N c.sc scope (ownOf c.N vs) = true ∧ c.i tg it iter = true ∧ (c.blk scope).tg t tg = true ∧ (c.blk scope).cs cond ifs = true ∧ (c.blk scope).e elt y = true := by
  unfold Ck.e at h
  split at h <;> first | contradiction | skip
  rename_i heq
  cases heq
  try simp only [Bool.and_eq_true, decide_eq_true_eq, Bool.not_eq_true', and_assoc] at h
  obtain ⟨e0, h⟩ := h
  subst e0
  exact ⟨_, _, _, _, _, _, _, _, rfl, h⟩
theorem i_xat {i : Nat} {f : Str} (h : c.e (.xat i f) x = true) : ∃ n q p, x = .Attribute (.Name n q) f p ∧ c.cm = false ∧ c.vis i n = true := by
  unfold Ck.e at h
  split at h <;> first | contradiction | skip
  rename_i heq
  cases heq
  try simp only [Bool.and_eq_true, decide_eq_true_eq, Bool.not_eq_true', and_assoc] at h
  obtain ⟨e0, h⟩ := h
  subst e0
  exact ⟨_, _, _, rfl, h⟩
theorem i_xis {i : Nat} {y : Str} (h : c.e (.xis i y) x = true) : ∃ q n p1 p2 p, x = .Call (.Name "isinstance" q) [.Name n p1, .Name y p2] [] p ∧ c.cm = false ∧ c.blt "isinstance" = true ∧ c.vis i n = true ∧ c.glo y = true := by
  unfold Ck.e at h
  split at h <;> first | contradiction | skip
  rename_i heq
  cases heq
  try simp only [Bool.and_eq_true, decide_eq_true_eq, Bool.not_eq_true', and_assoc] at h
  obtain ⟨e0, h⟩ := h
  subst e0
  obtain ⟨e1, h⟩ := h
  subst e1
  exact ⟨_, _, _, _, _, rfl, h⟩
end
end Pf

set_option Elab.async false
set_option linter.all false
set_option maxRecDepth 100000
/-! The terms are sound. -/
namespace Pf
open PySem PySem.Spec PyProof.Rows L2

section
variable {X : Cx} {xp : XP} {W : WX} {x y : Expr} {f g : Sto → Rs D} {pos : Pos}
theorem s3_not (a : S3 X xp W x f) : S3 X xp W (.UnaryOp .Not x pos) (fun ρ => ((f ρ).bind asB).bind fun b => .ok (.bool (!b))) :=
  mk3t (ce_not a.1) (ct_eq (ct_not a.2.1) fun ρ => by cases (f ρ).bind asB <;> rfl) (by intro _ _ _ h; cases h)
theorem s3_ife {z : Expr} {t : Sto → Rs D} (d : S3 X xp W z t) (a : S3 X xp W x f) (b : S3 X xp W y g) : S3 X xp W (.IfExp z x y pos) (fun ρ => ((t ρ).bind asB).bind fun k => if k = true then f ρ else g ρ) :=
  mk3t (ce_if d.2.1 a.1 b.1) (ct_eq (ct_if d.2.1 a.2.1 b.2.1) fun ρ => by
    cases (t ρ).bind asB with
    | ok k => cases k <;> rfl
    | ex e => rfl
    | bad => rfl) (by intro _ _ _ h; cases h)
theorem and_eq (ρ : Sto) : (((f ρ).bind asB).bind fun k => if k = true then g ρ else .ok (.bool false)).bind asB = ((f ρ).bind asB).bind fun k => if k = true then (g ρ).bind asB else .ok false := by
  cases (f ρ).bind asB with
  | ok k => cases k <;> rfl
  | ex e => rfl
  | bad => rfl
theorem or_eq (ρ : Sto) : (((f ρ).bind asB).bind fun k => if k = true then .ok (.bool true) else g ρ).bind asB = ((f ρ).bind asB).bind fun k => if k = true then .ok true else (g ρ).bind asB := by
  cases (f ρ).bind asB with
  | ok k => cases k <;> rfl
  | ex e => rfl
  | bad => rfl
theorem s3_and2 (a : S3 X xp W x f) (b : S3 X xp W y g) : S3 X xp W (.BoolOp .And [x, y] pos) (fun ρ => ((f ρ).bind asB).bind fun k => if k = true then g ρ else .ok (.bool false)) := by
  have cw : CW X xp W (.BoolOp .And [x, y] pos) (fun ρ => (((f ρ).bind asB).bind fun k => if k = true then g ρ else .ok (.bool false)).bind asB) := cw_eq (cw_and a.2.1 (cw_and1 b.2.1)) fun ρ => and_eq ρ
  exact ⟨ce_and a.1 (ce_one b.1), ct_of_cw cw, fun op vs p e => cw⟩
theorem s3_and {z : Expr} {r : List Expr} (a : S3 X xp W x f) (b : S3 X xp W (.BoolOp .And (y :: z :: r) pos) g) : S3 X xp W (.BoolOp .And (x :: y :: z :: r) pos) (fun ρ => ((f ρ).bind asB).bind fun k => if k = true then g ρ else .ok (.bool false)) := by
  have cw : CW X xp W (.BoolOp .And (x :: y :: z :: r) pos) (fun ρ => (((f ρ).bind asB).bind fun k => if k = true then g ρ else .ok (.bool false)).bind asB) := cw_eq (cw_and a.2.1 (b.2.2 _ _ _ rfl)) fun ρ => and_eq ρ
  exact ⟨ce_and a.1 b.1, ct_of_cw cw, fun op vs p e => cw⟩
theorem s3_or2 (a : S3 X xp W x f) (b : S3 X xp W y g) : S3 X xp W (.BoolOp .Or [x, y] pos) (fun ρ => ((f ρ).bind asB).bind fun k => if k = true then .ok (.bool true) else g ρ) := by
  have cw : CW X xp W (.BoolOp .Or [x, y] pos) (fun ρ => (((f ρ).bind asB).bind fun k => if k = true then .ok (.bool true) else g ρ).bind asB) := cw_eq (cw_or a.2.1 (cw_or1 b.2.1)) fun ρ => or_eq ρ
  exact ⟨ce_or a.1 (ce_one b.1), ct_of_cw cw, fun op vs p e => cw⟩
theorem s3_or {z : Expr} {r : List Expr} (a : S3 X xp W x f) (b : S3 X xp W (.BoolOp .Or (y :: z :: r) pos) g) : S3 X xp W (.BoolOp .Or (x :: y :: z :: r) pos) (fun ρ => ((f ρ).bind asB).bind fun k => if k = true then .ok (.bool true) else g ρ) := by
  have cw : CW X xp W (.BoolOp .Or (x :: y :: z :: r) pos) (fun ρ => (((f ρ).bind asB).bind fun k => if k = true then .ok (.bool true) else g ρ).bind asB) := cw_eq (cw_or a.2.1 (b.2.2 _ _ _ rfl)) fun ρ => or_eq ρ
  exact ⟨ce_or a.1 b.1, ct_of_cw cw, fun op vs p e => cw⟩
theorem limT_ite (xs : List D) (k : List D → D) : (if xs.length ≤ LIM then Rs.ok xs else .bad).bind (fun ds => .ok (k ds)) = limT xs k := by
  unfold limT
  by_cases h : xs.length ≤ LIM
  · rw [if_pos h, if_pos h]; rfl
  · rw [if_neg h, if_neg h]; rfl
end
section
variable {c : Ck} {X : Cx} {xp : XP} {W : WX}
/-- repr needs no calm -/
theorem bi_opC (A : At c X xp W) (f : BI) (h : (c.cm || f.quiet) = true) : CallR X (.builtin f.id) (rBI X.K f) := by
  cases hc : c.cm with
  | true => exact bi_op (A.cm hc) A.nore A.hu f
  | false =>
    rw [hc, Bool.false_or] at h
    cases f <;> first | cases h; done | exact call_reprD A.nore A.hu
theorem s3_xat {i : Nat} {f x : Str} {p pos : Pos} (A : At c X xp W) (cm : c.cm = false) (h : c.vis i x = true) : CE X xp W (.Attribute (.Name x p) f pos) (sem c.Γ (.xat i f)) := by
  obtain ⟨h1, h2, h3, h4⟩ := A.vis_of h
  obtain ⟨X0, a, D0, dd, oe, pn, y, f0, rfl, rfl, rfl, ay, ask, hz, hf, gy⟩ := A.su cm
  by_cases e : f = f0
  · subst e
    refine pe_imp (ce_xat ask hz hf h1 h2 h3 h4 (base_of rfl)) fun σ H Q ⟨ρ, O, R, q⟩ => ⟨ρ, O, R, ?_⟩
    have q : End X0.K X0.mg W0 O σ H (fun d H' => ∀ v, Dn X0.K (msk H' O) v d → Q v H') ((getX ρ i).bind fun e => if c.Γ.at_ e.cls = some f ∧ e.attr = f then .ok e.val else .bad) := q
    show End X0.K X0.mg W0 O σ H _ ((getX ρ i).bind fun e => if e.attr = f then .ok e.val else .bad)
    cases gx : getX ρ i with
    | ok e =>
      rw [gx] at q
      have q : End X0.K X0.mg W0 O σ H (fun d H' => ∀ v, Dn X0.K (msk H' O) v d → Q v H') (if c.Γ.at_ e.cls = some f ∧ e.attr = f then .ok e.val else .bad) := q
      obtain ⟨⟨_, e2⟩, q⟩ := end_ite q
      show End X0.K X0.mg W0 O σ H _ (if e.attr = f then .ok e.val else .bad)
      rw [if_pos e2]
      exact q
    | ex e => rw [gx] at q; exact q
    | bad => rw [gx] at q; exact q
  · refine ⟨fun pins s σ H Q I ⟨ρ, O, R, q⟩ => ?_⟩
    have q : End X0.K X0.mg W0 O σ H (fun d H' => ∀ v, Dn X0.K (msk H' O) v d → Q v H') ((getX ρ i).bind fun e => if c.Γ.at_ e.cls = some f ∧ e.attr = f then .ok e.val else .bad) := q
    unfold getX at q
    split at q
    · rename_i e2 hh
      obtain ⟨v, k1, a', dd', w, k2, _⟩ := R.at_ i _ hh
      cases k2
      have q : End X0.K X0.mg W0 O σ H (fun d H' => ∀ v, Dn X0.K (msk H' O) v d → Q v H') (if c.Γ.at_ e2.cls = some f ∧ e2.attr = f then .ok e2.val else .bad) := q
      obtain ⟨⟨e3, _⟩, q⟩ := end_ite q
      rw [ay] at e3
      exact absurd (Option.some.inj e3).symm e
    · exact q.elim
theorem s3_xis {i : Nat} {x y : Str} {p p1 p2 pos : Pos} (A : At c X xp W) (cm : c.cm = false) (hb : c.blt "isinstance" = true) (h : c.vis i x = true) (hy : c.glo y = true) : CE X xp W (.Call (.Name "isinstance" p) [.Name x p1, .Name y p2] [] pos) (sem c.Γ (.xis i y)) := by
  obtain ⟨h1, h2, h3, h4⟩ := A.vis_of h
  obtain ⟨b1, _, b3⟩ := A.blt_of hb
  obtain ⟨g1, g2⟩ := A.glo_of hy
  have sb := A.sb
  obtain ⟨X0, a, D0, dd, oe, pn, z, f0, rfl, rfl, rfl, ay, ask, hz, hf, gy⟩ := A.su cm
  exact ce_xis ask hz hf h1 h2 h3 h4 b1 b3 g1 g2 gy fun b e => sb z y b e
end
theorem Es.any {c : Ck} {es : Es} {y : Expr} {ys : List Expr} {env : Env} {pos : Pos} (h : c.es es (y :: ys) = true) : starEach (y :: ys) env = (false, eval y env) :: starEach ys env ∧ (backTo pos (starEach ys env)).any (·.1) = false := by
  cases es with
  | nil => cases h
  | cons e es =>
    have h : (noStar y && c.e e y && c.es es ys) = true := h
    simp only [Bool.and_eq_true] at h
    exact ⟨star_cons h.1.1, by rw [any_back]; exact es_plain h.2⟩
theorem folded {e : Expr} {env : Env} (h : noSet e = true) : ∀ x, foldedSetIterable e env x = pure x := by
  intro x
  cases e <;> first | rfl | cases h
theorem cs_none {c : Ck} {xs : List Expr} (h : c.cs .none xs = true) : xs = [] := by
  cases xs with
  | nil => rfl
  | cons x xs => cases h
theorem cs_some {c : Ck} {e : E} {xs : List Expr} (h : c.cs (.some e) xs = true) : ∃ x, xs = [x] ∧ c.e e x = true := by
  match xs, h with
  | [x], h => exact ⟨x, rfl, h⟩
  | [], h => cases h
  | _ :: _ :: _, h => cases h
theorem o_none {c : Ck} {x : Option Expr} (h : c.o .none x = true) : x = none := by
  cases x with
  | none => rfl
  | some x => cases h
theorem o_some {c : Ck} {e : E} {x : Option Expr} (h : c.o (.some e) x = true) : ∃ y, x = some y ∧ c.e e y = true := by
  cases x with
  | none => cases h
  | some x => exact ⟨x, rfl, h⟩
theorem es_nil {c : Ck} {xs : List Expr} (h : c.es .nil xs = true) : xs = [] := by
  cases xs with
  | nil => rfl
  | cons x xs => cases h
theorem es_cons {c : Ck} {e : E} {es : Es} {xs : List Expr} (h : c.es (.cons e es) xs = true) : ∃ y ys, xs = y :: ys ∧ noStar y = true ∧ c.e e y = true ∧ c.es es ys = true := by
  cases xs with
  | nil => cases h
  | cons x xs =>
    have h : (noStar x && c.e e x && c.es es xs) = true := h
    simp only [Bool.and_eq_true, and_assoc] at h
    exact ⟨x, xs, rfl, h⟩
theorem l_ov {c : Ck} {i : Nat} {x : Expr} (h : c.l (.ov i) x = true) : ∃ n p, x = .Name n p ∧ c.vis i n = true := by
  unfold Ck.l at h
  split at h <;> first | contradiction | skip
  rename_i heq
  cases heq
  exact ⟨_, _, rfl, h⟩
theorem ii_r1 {c : Ck} {a : E} {tg x : Expr} (h : c.i tg (.r1 a) x = true) : ∃ q y p, x = .Call (.Name "range" q) [y] [] p ∧ c.blt "range" = true ∧ noStar y = true ∧ c.e a y = true := by
  unfold Ck.i at h
  split at h <;> first | contradiction | skip
  rename_i heq
  cases heq
  simp only [Bool.and_eq_true, decide_eq_true_eq, and_assoc] at h
  obtain ⟨e0, h⟩ := h
  subst e0
  exact ⟨_, _, _, rfl, h⟩
theorem ii_r2 {c : Ck} {a b : E} {tg x : Expr} (h : c.i tg (.r2 a b) x = true) : ∃ q y z p, x = .Call (.Name "range" q) [y, z] [] p ∧ c.blt "range" = true ∧ noStar y = true ∧ noStar z = true ∧ c.e a y = true ∧ c.e b z = true := by
  unfold Ck.i at h
  split at h <;> first | contradiction | skip
  rename_i heq
  cases heq
  simp only [Bool.and_eq_true, decide_eq_true_eq, and_assoc] at h
  obtain ⟨e0, h⟩ := h
  subst e0
  exact ⟨_, _, _, _, rfl, h⟩
def isTup : Expr → Bool
  | .Tuple .. => true
  | _ => false
theorem ii_enum {c : Ck} {a : E} {tg x : Expr} (h : c.i tg (.enum a) x = true) : ∃ q y p, x = .Call (.Name "enumerate" q) [y] [] p ∧ c.blt "enumerate" = true ∧ isTup tg = true ∧ noStar y = true ∧ c.e a y = true := by
  unfold Ck.i at h
  split at h <;> first | contradiction | skip
  rename_i heq
  cases heq
  simp only [Bool.and_eq_true, decide_eq_true_eq, and_assoc] at h
  obtain ⟨e0, h⟩ := h
  subst e0
  exact ⟨_, _, _, rfl, h⟩
theorem limT_tup {X : Cx} {xp : XP} {W : WX} {x : Expr} {fs : Sto → Rs (List D)} (h : CE X xp W x (fun ρ => (fs ρ).bind fun xs => if xs.length ≤ LIM then .ok (.tuple xs) else .bad)) : CE X xp W x (fun ρ => (fs ρ).bind fun xs => limT xs .tuple) := h
theorem limT_lst {X : Cx} {xp : XP} {W : WX} {x : Expr} {fs : Sto → Rs (List D)} (h : CF X xp W x (fun ρ => (fs ρ).bind fun xs => if xs.length ≤ LIM then .ok xs else .bad)) : CE X xp W x (fun ρ => (fs ρ).bind fun xs => limT xs .list) :=
  ce_eq h.ce fun ρ => by
    rw [Rs.bind_assoc]
    congr 1
    funext xs
    exact (limT_ite xs .list).symm
theorem call_eq {Γ : Gs} {k n : Nat} {y : Str} {m : List D → Rs D} (e : Γ.fs[k]? = some (y, n, m)) (ds : List D) : callG Γ k ds = if ds.length = n then m ds else .bad := by
  unfold callG
  rw [e]

mutual
theorem sE : ∀ (e : E) (c : Ck) (x : Expr) (X : Cx) (xp : XP) (W : WX), At c X xp W → c.e e x = true → S3 X xp W x (sem c.Γ e)
  | .var i, c, x, X, xp, W, A, h => by
    obtain ⟨n, p, rfl, h⟩ := i_var h
    obtain ⟨h1, h2, h3, h4⟩ := A.vis_of h
    exact mk3 (ce_var h1 h2 h3 h4) (fun _ => rfl) (by intro _ _ _ h; cases h)
  | .int i, c, x, X, xp, W, A, h => by
    obtain ⟨k, p, rfl⟩ := i_int h
    exact mk3 ce_int (fun _ => rfl) (by intro _ _ _ h; cases h)
  | .str s, c, x, X, xp, W, A, h => by
    obtain ⟨k, p, rfl, h1, h2⟩ := i_str h
    exact mk3 (ce_str h1 h2) (fun _ => rfl) (by intro _ _ _ h; cases h)
  | .bl b, c, x, X, xp, W, A, h => by
    obtain ⟨k, p, rfl⟩ := i_bl h
    exact mk3 ce_bl (fun _ => rfl) (by intro _ _ _ h; cases h)
  | .non, c, x, X, xp, W, A, h => by
    obtain ⟨k, p, rfl⟩ := i_non h
    exact mk3 ce_non (fun _ => rfl) (by intro _ _ _ h; cases h)
  | .gl k, c, x, X, xp, W, A, h => by
    obtain ⟨n, p, rfl, h1, h2⟩ := i_gl h
    obtain ⟨g1, g2⟩ := A.glo_of h1
    cases e : c.Γ.gl[k]? with
    | none => rw [e] at h2; cases h2
    | some q =>
      rw [e] at h2
      obtain ⟨y, d⟩ := q
      have h2 : n = y := by simpa using h2
      subst h2
      obtain ⟨u, v, m, r, hd⟩ := A.gl n d (List.mem_of_getElem? e)
      refine mk3 (ce_eq (ce_const (pe_glob g1 m r g2) hd) fun ρ => ?_) (fun _ => rfl) (by intro _ _ _ h; cases h)
      show glG c.Γ k = _
      unfold glG
      rw [e]
  | .bin o a b, c, x, X, xp, W, A, h => by
    obtain ⟨y, z, p, rfl, h1, h2⟩ := i_bin h
    exact mk3 (ce_bin (bin_op o) (bin_im o) (sE a c y X xp W A h1).1 (sE b c z X xp W A h2).1) (fun _ => rfl) (by intro _ _ _ h; cases h)
  | .neg a, c, x, X, xp, W, A, h => by
    obtain ⟨y, p, rfl, h1⟩ := i_neg h
    exact mk3 (ce_neg (sE a c y X xp W A h1).1) (fun _ => rfl) (by intro _ _ _ h; cases h)
  | .cmp o a b, c, x, X, xp, W, A, h => by
    obtain ⟨y, z, p, rfl, hm, h1, h2⟩ := i_cmp h
    have hu : X.A.units + 65 < cLine := Nat.lt_of_le_of_lt (Nat.add_le_add_left (by decide) _) A.hu
    have ha := sL a c y X xp W A h1
    have hb := sL b c z X xp W A h2
    exact mk3t (ce_cmp (cmp_op hu o) (cmp_im o) ha hb hm) (ct_cmp (cmp_op hu o) (cmp_im o) ha hb hm) (by intro _ _ _ h; cases h)
  | .ch o1 o2 a b d, c, x, X, xp, W, A, h => by
    obtain ⟨y, z, u, p, rfl, hm, h1, h2, h3⟩ := i_ch h
    have hu : X.A.units + 65 < cLine := Nat.lt_of_le_of_lt (Nat.add_le_add_left (by decide) _) A.hu
    have ha := sL a c y X xp W A h1
    have hb := sL b c z X xp W A h2
    have hd := sL d c u X xp W A h3
    exact mk3t (ce_chain hu ha hb hd hm) (ct_eq (ct_chain hu ha hb hd hm) fun ρ => toB_asB _) (by intro _ _ _ h; cases h)
  | .not a, c, x, X, xp, W, A, h => by
    obtain ⟨y, p, rfl, h1⟩ := i_not h
    exact s3_not (sE a c y X xp W A h1)
  | .and a b, c, x, X, xp, W, A, h => by
    obtain ⟨y, z, r, p, rfl, h1, h2⟩ := i_and h
    cases r with
    | nil => exact s3_and2 (sE a c y X xp W A h1) (sE b c z X xp W A h2)
    | cons u r => exact s3_and (sE a c y X xp W A h1) (sE b c _ X xp W A h2)
  | .or a b, c, x, X, xp, W, A, h => by
    obtain ⟨y, z, r, p, rfl, h1, h2⟩ := i_or h
    cases r with
    | nil => exact s3_or2 (sE a c y X xp W A h1) (sE b c z X xp W A h2)
    | cons u r => exact s3_or (sE a c y X xp W A h1) (sE b c _ X xp W A h2)
  | .ife d a b, c, x, X, xp, W, A, h => by
    obtain ⟨y, z, u, p, rfl, h1, h2, h3⟩ := i_ife h
    exact s3_ife (sE d c y X xp W A h1) (sE a c z X xp W A h2) (sE b c u X xp W A h3)
  | .tup es, c, x, X, xp, W, A, h => by
    obtain ⟨ys, k, p, rfl, h1⟩ := i_tup h
    exact mk3 (limT_tup (ce_tup (sEs es c ys X xp W A h1))) (fun _ => rfl) (by intro _ _ _ h; cases h)
  | .lst es, c, x, X, xp, W, A, h => by
    obtain ⟨ys, p, rfl, h1⟩ := i_lst h
    exact mk3 (limT_lst (cf_lst (sEs es c ys X xp W A h1))) (fun _ => rfl) (by intro _ _ _ h; cases h)
  | .ix a b, c, x, X, xp, W, A, h => by
    obtain ⟨y, z, p, rfl, h0, h1, h2⟩ := i_ix h
    exact mk3 (ce_ix (sE a c y X xp W A h1).1 (sE b c z X xp W A h2).1 h0) (fun _ => rfl) (by intro _ _ _ h; cases h)
  | .oix i b, c, x, X, xp, W, A, h => by
    obtain ⟨n, q, z, p, rfl, h0, h1, h2⟩ := i_oix h
    obtain ⟨g1, g2, g3, g4⟩ := A.vis_of h1
    exact mk3 (ce_oix g1 g2 g3 g4 (sE b c z X xp W A h2).1 h0) (fun _ => rfl) (by intro _ _ _ h; cases h)
  | .sl a lo hi, c, x, X, xp, W, A, h => by
    obtain ⟨y, l, u, q, p, rfl, h1, h2, h3⟩ := i_sl h
    exact mk3 (ce_sl (sE a c y X xp W A h1).1 (sEo lo c l X xp W A h2) (sEo hi c u X xp W A h3)) (fun _ => rfl) (by intro _ _ _ h; cases h)
  | .rev a, c, x, X, xp, W, A, h => by
    obtain ⟨y, k, p1, p2, p3, p, rfl, h1⟩ := i_rev h
    exact mk3 (ce_rev (sE a c y X xp W A h1).1) (fun _ => rfl) (by intro _ _ _ h; cases h)
  | .bi f es, c, x, X, xp, W, A, h => by
    obtain ⟨q, y, ys, p, rfl, h0, h1, h2⟩ := i_bi h
    obtain ⟨b1, b2, b3⟩ := A.blt_of h1
    obtain ⟨s1, s2⟩ := Es.any (env := X.env) (pos := p) h2
    exact mk3 (ce_callB (bi_opC A f h0) (bi_im f) b1 b3 (boot_BI f) (sEs es c _ X xp W A h2) (BI_name f) b2 s1 s2) (fun _ => rfl) (by intro _ _ _ h; cases h)
  | .ti f es, c, x, X, xp, W, A, h => by
    obtain ⟨q, y, ys, p, rfl, h1, h2⟩ := i_ti h
    obtain ⟨b1, b2, b3⟩ := A.blt_of h1
    obtain ⟨s1, s2⟩ := Es.any (env := X.env) (pos := p) h2
    exact mk3 (ce_callTy (ti_op f) (ti_im f) b1 b3 (boot_TI f) (sEs es c _ X xp W A h2) (TI_name f) b2 s1 s2) (fun _ => rfl) (by intro _ _ _ h; cases h)
  | .len a, c, x, X, xp, W, A, h => by
    obtain ⟨q, y, p, rfl, h1, h2, h3⟩ := i_len h
    obtain ⟨b1, b2, b3⟩ := A.blt_of h1
    exact mk3 (ce_callL call_lenA len_im b1 b3 rfl (sL a c y X xp W A h3) (by decide) b2 (star_cons h2) rfl) (fun _ => rfl) (by intro _ _ _ h; cases h)
  | .mt m a es, c, x, X, xp, W, A, h => by
    obtain ⟨u, p1, y, ys, p, rfl, h0, h1, h2, h3, h4⟩ := i_mt h
    obtain ⟨s1, s2⟩ := Es.any (env := X.env) (pos := p) h4
    exact mk3 (ce_mt m (sE a c u X xp W A h3).1 (sEs es c _ X xp W A h4) h0 (few_of h4 (by show ys.length + 1 < 25; omega)) h1 s1 s2) (fun _ => rfl) (by intro _ _ _ h; cases h)
  | .call k es, c, x, X, xp, W, A, h => by
    obtain ⟨n, q, ys, p, rfl, h0, h1, h2, h3⟩ := i_call h
    obtain ⟨g1, g2⟩ := A.glo_of h1
    cases e : c.Γ.fs[k]? with
    | none => rw [e] at h2; cases h2
    | some q =>
      rw [e] at h2
      obtain ⟨y, ar, m⟩ := q
      have h2 : n = y := by simpa using h2
      subst h2
      have dd := A.fs h0 n ar m (List.mem_of_getElem? e)
      have ha := sEs es c ys X xp W A h3
      cases ys with
      | nil =>
        cases es with
        | nil => exact mk3 (ce_eq (ce_user0 A.tk A.nore g1 dd g2) fun ρ => call_eq e []) (fun _ => rfl) (by intro _ _ _ h; cases h)
        | cons _ _ => cases h3
      | cons y ys =>
        obtain ⟨s1, s2⟩ := Es.any (env := X.env) (pos := p) h3
        refine mk3 (ce_eq (ce_user A.tk A.nore g1 dd ha g2 s1 s2) fun ρ => ?_) (fun _ => rfl) (by intro _ _ _ h; cases h)
        show (sems c.Γ es ρ).bind (fun ds => callG c.Γ k ds) = _
        congr 1
        funext ds
        exact call_eq e ds
  | .isa a T, c, x, X, xp, W, A, h => by
    obtain ⟨q, y, p2, p, rfl, h1, h2, h3, h4⟩ := i_isa h
    obtain ⟨b1, b2, b3⟩ := A.blt_of h1
    obtain ⟨d1, d2, d3⟩ := A.blt_of h2
    exact mk3 (ce_isa T b1 b3 d1 d3 (sL a c y X xp W A h4) (star_cons h3)) (fun _ => rfl) (by intro _ _ _ h; cases h)
  | .isa2 a T U, c, x, X, xp, W, A, h => by
    obtain ⟨q, y, p2, p3, k, p1, p, rfl, h1, h2, h3, h4, h5⟩ := i_isa2 h
    obtain ⟨b1, b2, b3⟩ := A.blt_of h1
    obtain ⟨d1, d2, d3⟩ := A.blt_of h2
    obtain ⟨e1, e2, e3⟩ := A.blt_of h3
    exact mk3 (ce_isa2 T U b1 b3 d1 d3 e1 e3 (sL a c y X xp W A h5) (star_cons h4)) (fun _ => rfl) (by intro _ _ _ h; cases h)
  | .lc t vs it cond elt, c, x, X, xp, W, A, h => by
    obtain ⟨y, tg, iter, ifs, scope, p, rfl, h0, h1, h2, h3, h4, h5, h6, h7⟩ := i_lc h
    have blk := blkOk_by h3
    rw [← A.N, ← A.sc] at blk
    have hin : ∀ i ∈ t.slots, i ∈ (ownOf X.N vs).map (·.2) := fun i hi => by
      rw [own_snd]
      exact of_decide_eq_true (List.all_eq_true.mp h2 i hi)
    have cf := cf_lc (own := ownOf X.N vs) (A.cm h0) A.nd (sI it c tg iter X xp W A h4) blk (fun s H C cl fp => (A.blk h0 scope s H C cl fp).tg_of h5) (fun s H C cl fp => sC cond _ ifs _ xp W0 (A.blk h0 scope s H C cl fp) h6)
      (fun s H C cl fp => (sE elt _ y _ xp W0 (A.blk h0 scope s H C cl fp) h7).1) (folded h1) hin (pos := p)
    rw [own_snd] at cf
    exact mk3 cf.ce (fun _ => rfl) (by intro _ _ _ h; cases h)
  | .lenks t vs it cond elt, c, x, X, xp, W, A, h => by
    obtain ⟨q, y, tg, iter, ifs, scope, p1, p, rfl, hb, h0, h1, h2, h3, h4, h5, h6, h7⟩ := i_lenks h
    obtain ⟨b1, b2, b3⟩ := A.blt_of hb
    have blk := blkOk_by h3
    rw [← A.N, ← A.sc] at blk
    have hin : ∀ i ∈ t.slots, i ∈ (ownOf X.N vs).map (·.2) := fun i hi => by
      rw [own_snd]
      exact of_decide_eq_true (List.all_eq_true.mp h2 i hi)
    have cs := cs_ks (own := ownOf X.N vs) (A.cm h0) A.nd (sI it c tg iter X xp W A h4) blk (fun s H C cl fp => (A.blk h0 scope s H C cl fp).tg_of h5) (fun s H C cl fp => sC cond _ ifs _ xp W0 (A.blk h0 scope s H C cl fp) h6)
      (fun s H C cl fp => (sE elt _ y _ xp W0 (A.blk h0 scope s H C cl fp) h7).1) (folded h1) hin (pos := p1)
    rw [own_snd] at cs
    exact mk3 (ce_lenS b1 b3 cs rfl rfl) (fun _ => rfl) (by intro _ _ _ h; cases h)
  | .xat i f, c, x, X, xp, W, A, h => by
    obtain ⟨n, q, p, rfl, h0, h1⟩ := i_xat h
    exact mk3 (s3_xat A h0 h1) (fun _ => rfl) (by intro _ _ _ h; cases h)
  | .xis i y, c, x, X, xp, W, A, h => by
    obtain ⟨q, n, p1, p2, p, rfl, h0, h1, h2, h3⟩ := i_xis h
    exact mk3 (s3_xis A h0 h1 h2 h3) (fun _ => rfl) (by intro _ _ _ h; cases h)
theorem sL : ∀ (e : L) (c : Ck) (x : Expr) (X : Cx) (xp : XP) (W : WX), At c X xp W → c.l e x = true → CL X xp W x (seml c.Γ e)
  | .ov i, c, x, X, xp, W, A, h => by
    obtain ⟨n, p, rfl, h⟩ := l_ov h
    obtain ⟨h1, h2, h3, h4⟩ := A.vis_of h
    exact cl_var h1 h2 h3 h4
  | .ex e, c, x, X, xp, W, A, h => (sE e c x X xp W A (by unfold Ck.l at h; exact h)).1.lax
theorem sEs : ∀ (es : Es) (c : Ck) (xs : List Expr) (X : Cx) (xp : XP) (W : WX), At c X xp W → c.es es xs = true → CA X xp W xs (sems c.Γ es)
  | .nil, c, xs, X, xp, W, A, h => by
    obtain rfl := es_nil h
    exact ca_nil
  | .cons e es, c, xs, X, xp, W, A, h => by
    obtain ⟨y, ys, rfl, h0, h1, h2⟩ := es_cons h
    exact ca_cons (sE e c y X xp W A h1).1 (sEs es c ys X xp W A h2) (star_cons h0)
theorem sEo : ∀ (e : Eo) (c : Ck) (x : Option Expr) (X : Cx) (xp : XP) (W : WX), At c X xp W → c.o e x = true → CO X xp W x (semo c.Γ e)
  | .none, c, x, X, xp, W, A, h => by
    obtain rfl := o_none h
    exact co_none
  | .some e, c, x, X, xp, W, A, h => by
    obtain ⟨y, rfl, h⟩ := o_some h
    exact co_some (sE e c y X xp W A h).1
theorem sC : ∀ (e : Eo) (c : Ck) (xs : List Expr) (X : Cx) (xp : XP) (W : WX), At c X xp W → c.cs e xs = true → CTs X xp W xs (semc c.Γ e)
  | .none, c, xs, X, xp, W, A, h => by
    obtain rfl := cs_none h
    exact cts_nil
  | .some e, c, xs, X, xp, W, A, h => by
    obtain ⟨y, rfl, h⟩ := cs_some h
    exact cts_one (sE e c y X xp W A h).2.1
theorem sI : ∀ (it : I) (c : Ck) (tg x : Expr) (X : Cx) (xp : XP) (W : WX), At c X xp W → c.i tg it x = true → CI X xp W tg x (semi c.Γ it)
  | .val e, c, tg, x, X, xp, W, A, h => ci_val (sE e c x X xp W A (by unfold Ck.i at h; exact h)).1
  | .r1 a, c, tg, x, X, xp, W, A, h => by
    obtain ⟨q, y, p, rfl, h1, h2, h3⟩ := ii_r1 h
    obtain ⟨b1, b2, b3⟩ := A.blt_of h1
    exact ci_range1 b1 b3 (sE a c y X xp W A h3).1 (star_cons h2)
  | .r2 a b, c, tg, x, X, xp, W, A, h => by
    obtain ⟨q, y, z, p, rfl, h1, h2, h3, h4, h5⟩ := ii_r2 h
    obtain ⟨b1, b2, b3⟩ := A.blt_of h1
    exact ci_range2 b1 b3 (sE a c y X xp W A h4).1 (sE b c z X xp W A h5).1 (star_cons h3) (star_cons h2)
  | .enum a, c, tg, x, X, xp, W, A, h => by
    obtain ⟨q, y, p, rfl, h1, h0, h2, h3⟩ := ii_enum h
    obtain ⟨b1, b2, b3⟩ := A.blt_of h1
    cases tg <;> first | cases h0; done | skip
    exact ci_enum b1 b3 (sE a c y X xp W A h3).1 (star_cons h2)
end
end Pf

set_option Elab.async false
set_option linter.all false
set_option maxRecDepth 100000
/-! Statements as terms. -/
namespace Pf
open PySem PySem.Spec PyProof.Rows L2

mutual
inductive S where
  | asg (t : Tg) (e : E)
  | own (i : Nat) (es : Es)
  | ownLc (i : Nat) (t : Tg) (vs : List Nat) (it : I) (cond : Eo) (elt : E)
  | app (i : Nat) (e : E)
  | par (is : List Nat) (es : Es)
  | exp (e : E)
  | ret (e : E)
  | retN
  | pass
  | brk
  | cont
  | ife (c : E) (a b : Ss)
  | for (t : Tg) (it : I) (b : Ss)
  | whl (n : Nat) (c : E) (b : Ss)
  | rai (x f : Str) (e : E)
  | try (i : Nat) (y : Str) (a b : Ss)
inductive Ss where
  | nil
  | cons (s : S) (ss : Ss)
  | frz (i : Nat) (ss : Ss)
end
mutual
def exe (Γ : Gs) : S → Sto → Out
  | .asg t e, ρ => .ofR (sem Γ e ρ) ρ fun d => asgO t d ρ
  | .own i es, ρ => .ofR (sems Γ es ρ) ρ fun ds => if ds.length ≤ LIM then .nx (ρ.set i (some (.own ds))) else .bad
  | .ownLc i t vs it cond elt, ρ => .ofR (lcF t vs (semi Γ it) (semc Γ cond) (sem Γ elt) ρ) ρ fun ds => .nx (ρ.set i (some (.own ds)))
  | .app i e, ρ => apF i (sem Γ e) ρ
  | .par is es, ρ => .ofR (sems Γ es ρ) ρ fun ds => if ds.length = is.length then .nx (setAll is ds ρ) else .bad
  | .exp e, ρ => .ofR (sem Γ e ρ) ρ fun _ => .nx ρ
  | .ret e, ρ => .ofR (sem Γ e ρ) ρ fun d => .rt d
  | .retN, _ => .rt .none
  | .pass, ρ => .nx ρ
  | .brk, ρ => .bk ρ
  | .cont, ρ => .ct ρ
  | .ife c a b, ρ => .ofR ((sem Γ c ρ).bind asB) ρ fun k => if k = true then exes Γ a ρ else exes Γ b ρ
  | .for t it b, ρ => forF t (semi Γ it) (exes Γ b) ρ
  | .whl n c b, ρ => whL (fun ρ => (sem Γ c ρ).bind asB) (exes Γ b) n ρ
  | .rai x f e, ρ => .ofR (sem Γ e ρ) ρ fun d => .ex ⟨x, f, d⟩ ρ
  | .try i y a b, ρ => tryF (fun x => Γ.sb x y) Γ.at_ i (exes Γ a) (exes Γ b) ρ
def exes (Γ : Gs) : Ss → Sto → Out
  | .nil, ρ => .nx ρ
  | .cons s ss, ρ => (exe Γ s ρ).seq (exes Γ ss)
  | .frz i ss, ρ => exes Γ ss (frz i ρ)
end
/-- no comprehension, whose store is another one -/
def noComp : Expr → Bool
  | .ListComp .. => false
  | .SetComp .. => false
  | .DictComp .. => false
  | _ => true
def noTup : Expr → Bool
  | .Tuple .. => false
  | .List .. => false
  | _ => true
def okStore (tg e : Expr) : Bool := noTup tg || noTup e || (match tg, e with
  | .Tuple ts _ _, .Tuple vs _ _ => vs.all (foldedForSure 8) || !(ts.length == 2 || ts.length == 3)
  | _, _ => false)
def okLc (c : Ck) (y : Str) (py pos : Pos) (scope : Scope) : Bool := (match c.sc.kind with | .function => true | _ => false) && decide (c.sc.names.lookup y = some .local) && (py.line == pos.line) && !(scope.names.any fun (n, k) => n == y && (k == .local || k == .cell))
def Ck.locs (c : Ck) : List Nat → List Expr → Bool
  | [i, j], [.Name x p, .Name y q] => decide (c.N[i]? = some x) && decide (c.N[j]? = some y) && decide (i ≠ j) && decide (c.sc.names.lookup x = some .local) && decide (c.sc.names.lookup y = some .local)
  | [i, j, k], [.Name x p, .Name y q, .Name z r] => decide (c.N[i]? = some x) && decide (c.N[j]? = some y) && decide (c.N[k]? = some z) && decide (i ≠ j) && decide (i ≠ k) && decide (j ≠ k) &&
    decide (c.sc.names.lookup x = some .local) && decide (c.sc.names.lookup y = some .local) && decide (c.sc.names.lookup z = some .local)
  | _, _ => false
mutual
def Ck.s (c : Ck) : S → Stmt → Bool
  | .asg t e, .Assign [tg] x _ => noComp x && okStore tg x && c.tg t tg && c.e e x
  | .own i es, .Assign [.Name x _] (.List xs _) _ => c.tgt i x && c.es es xs
  | .ownLc i t vs it cond elt, .Assign [.Name n q] (.ListComp y [⟨tg, iter, ifs, 0⟩] scope p) _ => decide (c.N[i]? = some n) && okLc c n q p scope && c.cm && noSet iter && slotsIn t vs && blkC c.N c.sc scope (ownOf c.N vs) && c.i tg it iter && (c.blk scope).tg t tg && (c.blk scope).cs cond ifs && (c.blk scope).e elt y
  | .app i e, .Expr (.Call (.Attribute (.Name x _) n p) [y] [] q) _ => decide (n = ("append" : Str)) && (p.endLine == q.line) && noStar y && c.vis i x && c.e e y
  | .exp e, .Expr x _ => noComp x && c.e e x
  | .ret e, .Return (some x) _ => c.e e x
  | .retN, .Return none _ => true
  | .pass, .Pass _ => true
  | .brk, .Break _ => true
  | .cont, .Continue _ => true
  | .ife d a b, .If x ya yb _ => c.e d x && c.ss a ya && c.ss b yb
  | .for t it b, .For tg iter body [] _ => c.cm && noSet iter && c.i tg it iter && c.tg t tg && c.ss b body
  | .whl _ d b, .While x body [] _ => c.e d x && c.ss b body
  | .rai x f e, .Raise (some (.Call (.Name n _) [y] [] _)) none _ => decide (x = n) && decide (c.Γ.at_ x = some f) && c.cm && c.glo n && noStar y && c.e e y
  | .try i y a b, .Try body [.ExceptHandler (some (.Name x _)) (some n) (b0 :: suite) _] [] [] _ => decide (x = y) && c.cm && decide (c.N[i]? = some n) && decide (c.sc.names.lookup n = some .local) && c.glo x && decide (x ∈ c.Γ.hs) && c.ss a body && ({ c with cm := false } : Ck).ss b (b0 :: suite)
  | _, _ => false
def Ck.ss (c : Ck) : Ss → List Stmt → Bool
  | .nil, [] => true
  | .cons s ss, x :: xs => c.s s x && c.ss ss xs
  | .frz _ ss, xs => c.ss ss xs
  | _, _ => false
end
end Pf

set_option Elab.async false
set_option linter.all false
set_option maxRecDepth 100000
set_option maxHeartbeats 1000000
/-! Which statements the checker lets pass. -/
namespace Pf
open PySem PySem.Spec PyProof.Rows L2
section
variable {c : Ck} {x : Stmt}
theorem j_asg {t : Tg} {e : E} (h : c.s (.asg t e) x = true) : ∃ tg y p, x = .Assign [tg] y p ∧ noComp y = true ∧ okStore tg y = true ∧ c.tg t tg = true ∧ c.e e y = true := by
  unfold Ck.s at h
  split at h <;> first | contradiction | skip
  rename_i heq
  cases heq
  try simp only [Bool.and_eq_true, decide_eq_true_eq, Bool.not_eq_true', and_assoc] at h
  exact ⟨_, _, _, rfl, h⟩
theorem j_own {i : Nat} {es : Es} (h : c.s (.own i es) x = true) : ∃ n q ys p1 p, x = .Assign [.Name n q] (.List ys p1) p ∧ c.tgt i n = true ∧ c.es es ys = true := by
  unfold Ck.s at h
  split at h <;> first | contradiction | skip
  rename_i heq
  cases heq
  try simp only [Bool.and_eq_true, decide_eq_true_eq, Bool.not_eq_true', and_assoc] at h
  exact ⟨_, _, _, _, _, rfl, h⟩
theorem j_ownLc {i : Nat} {t : Tg} {vs : List Nat} {it : I} {cond : Eo} {elt : E} (h : c.s (.ownLc i t vs it cond elt) x = true) : ∃ n q y tg iter ifs scope p1 p, x = .Assign [.Name n q] (.ListComp y [⟨tg, iter, ifs, 0⟩] scope p1) p ∧ c.N[i]? = some n ∧ okLc c n q p1 scope = true ∧ c.cm = true ∧ noSet iter = true ∧ slotsIn t vs = true ∧ blkC c.N c.sc scope (ownOf c.N vs) = true ∧ c.i tg it iter = true ∧ (c.blk scope).tg t tg = true ∧ (c.blk scope).cs cond ifs = true ∧ (c.blk scope).e elt y = true := by
  unfold Ck.s at h
  split at h <;> first | contradiction | skip
  rename_i heq
  cases heq
  try simp only [Bool.and_eq_true, decide_eq_true_eq, Bool.not_eq_true', and_assoc] at h
  exact ⟨_, _, _, _, _, _, _, _, _, rfl, h⟩
theorem j_app {i : Nat} {e : E} (h : c.s (.app i e) x = true) : ∃ n q p1 y p2 p, x = .Expr (.Call (.Attribute (.Name n q) "append" p1) [y] [] p2) p ∧ (p1.endLine == p2.line) = true ∧ noStar y = true ∧ c.vis i n = true ∧ c.e e y = true := by
  unfold Ck.s at h
  split at h <;> first | contradiction | skip
  rename_i heq
  cases heq
  try simp only [Bool.and_eq_true, decide_eq_true_eq, Bool.not_eq_true', and_assoc] at h
  obtain ⟨e0, h⟩ := h
  subst e0
  exact ⟨_, _, _, _, _, _, rfl, h⟩
theorem j_exp {e : E} (h : c.s (.exp e) x = true) : ∃ y p, x = .Expr y p ∧ noComp y = true ∧ c.e e y = true := by
  unfold Ck.s at h
  split at h <;> first | contradiction | skip
  rename_i heq
  cases heq
  try simp only [Bool.and_eq_true, decide_eq_true_eq, Bool.not_eq_true', and_assoc] at h
  exact ⟨_, _, rfl, h⟩
theorem j_ret {e : E} (h : c.s (.ret e) x = true) : ∃ y p, x = .Return (some y) p ∧ c.e e y = true := by
  unfold Ck.s at h
  split at h <;> first | contradiction | skip
  rename_i heq
  cases heq
  try simp only [Bool.and_eq_true, decide_eq_true_eq, Bool.not_eq_true', and_assoc] at h
  exact ⟨_, _, rfl, h⟩
theorem j_retN  (h : c.s (.retN) x = true) : ∃ p, x = .Return none p := by
  unfold Ck.s at h
  split at h <;> first | contradiction | skip
  rename_i heq
  cases heq
  try simp only [Bool.and_eq_true, decide_eq_true_eq, Bool.not_eq_true', and_assoc] at h
  exact ⟨_, rfl⟩
theorem j_pass  (h : c.s (.pass) x = true) : ∃ p, x = .Pass p := by
  unfold Ck.s at h
  split at h <;> first | contradiction | skip
  rename_i heq
  cases heq
  try simp only [Bool.and_eq_true, decide_eq_true_eq, Bool.not_eq_true', and_assoc] at h
  exact ⟨_, rfl⟩
theorem j_brk  (h : c.s (.brk) x = true) : ∃ p, x = .Break p := by
  unfold Ck.s at h
  split at h <;> first | contradiction | skip
  rename_i heq
  cases heq
  try simp only [Bool.and_eq_true, decide_eq_true_eq, Bool.not_eq_true', and_assoc] at h
  exact ⟨_, rfl⟩
theorem j_cont  (h : c.s (.cont) x = true) : ∃ p, x = .Continue p := by
  unfold Ck.s at h
  split at h <;> first | contradiction | skip
  rename_i heq
  cases heq
  try simp only [Bool.and_eq_true, decide_eq_true_eq, Bool.not_eq_true', and_assoc] at h
  exact ⟨_, rfl⟩
theorem j_ife {d : E} {a b : Ss} (h : c.s (.ife d a b) x = true) : ∃ y ya yb p, x = .If y ya yb p ∧ c.e d y = true ∧ c.ss a ya = true ∧ c.ss b yb = true := by
  unfold Ck.s at h
  split at h <;> first | contradiction | skip
  rename_i heq
  cases heq
  try simp only [Bool.and_eq_true, decide_eq_true_eq, Bool.not_eq_true', and_assoc] at h
  exact ⟨_, _, _, _, rfl, h⟩
theorem j_for {t : Tg} {it : I} {b : Ss} (h : c.s (.for t it b) x = true) : ∃ tg iter body p, x = .For tg iter body [] p ∧ c.cm = true ∧ noSet iter = true ∧ c.i tg it iter = true ∧ c.tg t tg = true ∧ c.ss b body = true := by
  unfold Ck.s at h
  split at h <;> first | contradiction | skip
  rename_i heq
  cases heq
  try simp only [Bool.and_eq_true, decide_eq_true_eq, Bool.not_eq_true', and_assoc] at h
  exact ⟨_, _, _, _, rfl, h⟩
theorem j_whl {n : Nat} {d : E} {b : Ss} (h : c.s (.whl n d b) x = true) : ∃ y body p, x = .While y body [] p ∧ c.e d y = true ∧ c.ss b body = true := by
  unfold Ck.s at h
  split at h <;> first | contradiction | skip
  rename_i heq
  cases heq
  try simp only [Bool.and_eq_true, decide_eq_true_eq, Bool.not_eq_true', and_assoc] at h
  exact ⟨_, _, _, rfl, h⟩
theorem j_rai {x0 f : Str} {e : E} (h : c.s (.rai x0 f e) x = true) : ∃ q y p1 p, x = .Raise (some (.Call (.Name x0 q) [y] [] p1)) none p ∧ c.Γ.at_ x0 = some f ∧ c.cm = true ∧ c.glo x0 = true ∧ noStar y = true ∧ c.e e y = true := by
  unfold Ck.s at h
  split at h <;> first | contradiction | skip
  rename_i heq
  cases heq
  try simp only [Bool.and_eq_true, decide_eq_true_eq, Bool.not_eq_true', and_assoc] at h
  obtain ⟨e0, h⟩ := h
  subst e0
  exact ⟨_, _, _, _, rfl, h⟩
theorem j_try {i : Nat} {y0 : Str} {a b : Ss} (h : c.s (.try i y0 a b) x = true) : ∃ body q n b0 suite p1 p, x = .Try body [.ExceptHandler (some (.Name y0 q)) (some n) (b0 :: suite) p1] [] [] p ∧ c.cm = true ∧ c.N[i]? = some n ∧ c.sc.names.lookup n = some .local ∧ c.glo y0 = true ∧ y0 ∈ c.Γ.hs ∧ c.ss a body = true ∧ ({ c with cm := false } : Ck).ss b (b0 :: suite) = true := by
  unfold Ck.s at h
  split at h <;> first | contradiction | skip
  rename_i heq
  cases heq
  try simp only [Bool.and_eq_true, decide_eq_true_eq, Bool.not_eq_true', and_assoc] at h
  obtain ⟨e0, h⟩ := h
  subst e0
  exact ⟨_, _, _, _, _, _, _, rfl, h⟩
end
end Pf

set_option Elab.async false
set_option linter.all false
set_option maxRecDepth 100000
/-! The statements are sound; defs. -/
namespace Pf
open PySem PySem.Spec PyProof.Rows L2

/-- what stands behind a name that an except clause tells -/
def ClsIs (mg : Str → Option Value) (y : Str) (c : Value) : Prop := mg y = some c ∨ (mg y = none ∧ bootBuiltins y = some c ∧ y ≠ "__name__")
theorem ClsIs.one {mg : Str → Option Value} {y : Str} {c d : Value} (h : ClsIs mg y c) (k : ClsIs mg y d) : c = d := by
  rcases h with h | ⟨h1, h2, _⟩ <;> rcases k with k | ⟨k1, k2, _⟩
  · exact Option.some.inj (h.symm.trans k)
  · rw [h] at k1; cases k1
  · rw [h1] at k; cases k
  · exact Option.some.inj (h2.symm.trans k2)
structure AtS (c : Ck) (X : Cx) (xp : XP) (W : WX) : Prop extends At c X xp W where
  ps : PassesOwn (model X.prog X.w) X.A X.env X.xe
  fr : c.cm = true → xp = none ∧ X.stack = X.env :: X.outer ∧ X.env.frame = some X.env.locals
  ex : c.cm = true → ∀ x f, c.Γ.at_ x = some f → ExCls X.prog X.w X.K X.mg X.base x f
  room : c.cm = true → ∃ k, 2 ≤ k ∧ Room k X.A
  hnd : ∀ y ∈ c.Γ.hs, ∃ cv, ClsIs X.mg y cv
section
variable {c : Ck} {X : Cx} {xp : XP} {W : WX}
theorem swapsE {e : Expr} {l : Nat} {env : Env} (h : noComp e = true) (o : Option Expr) : swapsWith e o l env = pure false := by
  cases e <;> first | rfl | cases h
theorem okStore_none {tg e : Expr} {env : Env} (h : okStore tg e = true) : swappedStores [tg] e env = pure none := by
  unfold okStore at h
  simp only [Bool.or_eq_true] at h
  rcases h with (h | h) | h
  · cases tg <;> first | rfl | cases h
  · cases e <;> first | (cases h; done) | (cases tg <;> rfl)
  · split at h
    · rename_i ts k p vs k2 p2
      unfold swappedStores
      by_cases h1 : (!(ts.length == 2 || ts.length == 3) || vs.length != ts.length || env.blockKind != .function) = true
      · simp only [h1, if_true]
      · have h1' : (!(ts.length == 2 || ts.length == 3) || vs.length != ts.length || env.blockKind != .function) = false := by simpa using h1
        have h2 : (ts.length == 2 || ts.length == 3) = true := by
          cases e : (ts.length == 2 || ts.length == 3) with
          | true => rfl
          | false => rw [e] at h1'; simp at h1'
        have hf : vs.all (foldedForSure 8) = true := by
          rw [h2] at h
          simpa using h
        simp only [h1', hf, Bool.false_eq_true, if_false, if_true]
        split
        · rfl
        · split
          · rfl
          · rfl
    · cases h
theorem okLc_of (A : At c X xp W) {n : Str} {q p : Pos} {scope : Scope} (h : okLc c n q p scope = true) : X.env.scope.kind = .function ∧ X.env.scope.names.lookup n = some .local ∧ (q.line == p.line) = true ∧ (scope.names.any fun (m, k) => m == n && (k == .local || k == .cell)) = false := by
  unfold okLc at h
  simp only [Bool.and_eq_true, decide_eq_true_eq, Bool.not_eq_true', and_assoc] at h
  rw [A.sc]
  refine ⟨?_, h.2.1, h.2.2.1, h.2.2.2⟩
  have := h.1
  cases e : c.sc.kind <;> rw [e] at this <;> first | rfl | cases this
theorem noSet_ok {e : Expr} {env : Env} (h : noSet e = true) : ∀ x, foldedSetIterable e env x = pure x := folded h
/-- x = [.. for ..] on one line -/
theorem cst_ownLc {i : Nat} {n : Str} {q p p0 : Pos} {B : List Addr} {elt tg iter : Expr} {ifs : List Expr} {scope : Scope} {own : List (Str × Nat)} {t : Tg} {items : Sto → Rs (List D)} {cond : Sto → Rs Bool} {fe : Sto → Rs D} (hc : X.calm = true) (hN : X.N.Nodup) (hn : X.N[i]? = some n) (hl : X.env.scope.names.lookup n = some .local)
    (hsw : swapsWith (.ListComp elt [⟨tg, iter, ifs, 0⟩] scope p) (some (.Name n q)) p0.line X.env = pure true) (hi : CI X xp W tg iter items) (ok : BlkOk X.N X.env.scope scope own)
    (hg : ∀ (s : Shared) (H : Hp) (C : Addr) (cl : List (Str × Addr)) (fp : List Addr), CG (X.blk s H scope (compEnvC scope cl C X.env) fp) xp tg t)
    (ht : ∀ (s : Shared) (H : Hp) (C : Addr) (cl : List (Str × Addr)) (fp : List Addr), CTs (X.blk s H scope (compEnvC scope cl C X.env) fp) xp W0 ifs cond)
    (he : ∀ (s : Shared) (H : Hp) (C : Addr) (cl : List (Str × Addr)) (fp : List Addr), CE (X.blk s H scope (compEnvC scope cl C X.env) fp) xp W0 elt fe)
    (hs : ∀ x, foldedSetIterable iter X.env x = pure x) (hts : ∀ i ∈ t.slots, i ∈ own.map (·.2)) :
    CSt X xp W B (.Assign [.Name n q] (.ListComp elt [⟨tg, iter, ifs, 0⟩] scope p) p0) (fun ρ => .ofR (lcF t (own.map (·.2)) items cond fe ρ) ρ fun ds => .nx (ρ.set i (some (.own ds)))) :=
  ps_imp (ps_setLc hc hN hn hl hsw hi ok hg ht he hs) fun T σ H ⟨ρ, O, fr, q⟩ => rd_lc hts ⟨ρ, O ++ B, fr.rel, (EndS.ofR0 q fr).imp fun ds H' _ s k p vs hp h1 hl h2 => k _ H' (p :: O) (stp_new hp s) (fr.new hp s h1 h2)⟩
theorem AtS.tr (A : AtS c X xp W) (W' : WX) (pn : List (Addr × Obj)) (xe : Value → Shared → Prop) (tk : Takes (X.tr pn xe) W') (ps : PassesOwn (model X.prog X.w) X.A X.env xe) (cm : c.cm = true) : AtS c (X.tr pn xe) xp W' where
  N := A.N
  sc := A.sc
  fa := A.fa
  cm := A.cm
  gl := A.gl
  fs := A.fs
  bs := A.bs
  nd := A.nd
  nore := A.nore
  hu := A.hu
  tk := tk
  su := fun h => by rw [cm] at h; cases h
  sb := A.sb
  at_ := A.at_
  ps := ps
  fr := A.fr
  ex := A.ex
  room := A.room
  hnd := A.hnd
theorem AtS.suite (A : AtS c X xp W) {a D0 dd : Addr} {oe : Obj} {y f : Str} (pn : List (Addr × Obj)) (hz : Zc (.ref D0) (some dd) oe) (hv : ∃ vs, oe.data = .fields vs) (gy : X.mg y = some (.ref D0)) (ay : c.Γ.at_ y = some f) (ask : Ask X.K D0 f) :
    AtS { c with cm := false } (Su X a oe pn) (some (a, dd, y)) W0 where
  N := A.N
  sc := A.sc
  fa := A.fa
  cm := fun h => by cases h
  gl := A.gl
  fs := fun h => by cases h
  bs := A.bs
  nd := A.nd
  nore := A.nore
  hu := A.hu
  tk := takes0
  su := fun _ => ⟨X, a, D0, dd, oe, pn, y, f, rfl, rfl, rfl, ay, ask, hz, hv, gy⟩
  sb := A.sb
  at_ := A.at_
  ps := PassesOwn.never
  fr := fun h => by cases h
  ex := fun h => by cases h
  room := fun h => by cases h
  hnd := A.hnd
end
theorem apE {f : Sto → Rs D} {i : Nat} : apF i f = fun ρ => apF i f ρ := rfl
theorem ss_nil {c : Ck} {xs : List Stmt} (h : c.ss .nil xs = true) : xs = [] := by
  cases xs with
  | nil => rfl
  | cons x xs => cases h
theorem ss_cons {c : Ck} {s : S} {ss : Ss} {xs : List Stmt} (h : c.ss (.cons s ss) xs = true) : ∃ y ys, xs = y :: ys ∧ c.s s y = true ∧ c.ss ss ys = true := by
  cases xs with
  | nil => cases h
  | cons x xs =>
    have h : (c.s s x && c.ss ss xs) = true := h
    simp only [Bool.and_eq_true] at h
    exact ⟨x, xs, rfl, h⟩
mutual
theorem sS : ∀ (s : S) (c : Ck) (x : Stmt) (X : Cx) (xp : XP) (W : WX) (B : List Addr), AtS c X xp W → c.s s x = true → CSt X xp W B x (exe c.Γ s)
  | .asg t e, c, x, X, xp, W, B, A, h => by
    obtain ⟨tg, y, p, rfl, h1, h2, h3, h4⟩ := j_asg h
    exact cst_asg (sE e c y X xp W A.toAt h4).1 (A.toAt.tg_of h3) (swapsE h1 _) (okStore_none h2) (by
      unfold Ck.tg at h3
      split at h3 <;> first | rfl | cases h3)
  | .own i es, c, x, X, xp, W, B, A, h => by
    obtain ⟨n, q, ys, p1, p, rfl, h1, h2⟩ := j_own h
    obtain ⟨g1, g2, g3⟩ := A.toAt.tgt_of h1
    refine ps_imp (cst_own (B := B) (cf_lst (sEs es c ys X xp W A.toAt h2)) A.nd g1 g2 g3 rfl) fun T σ H ⟨ρ, O, fr, q⟩ => ⟨ρ, O, fr, ?_⟩
    have q : EndS X.K X.mg xp W B T H O (.ofR (sems c.Γ es ρ) ρ fun ds => if ds.length ≤ LIM then .nx (ρ.set i (some (.own ds))) else .bad) := q
    show EndS X.K X.mg xp W B T H O (.ofR ((sems c.Γ es ρ).bind fun xs => if xs.length ≤ LIM then .ok xs else .bad) ρ fun ds => .nx (ρ.set i (some (.own ds))))
    cases e : sems c.Γ es ρ with
    | ok ds =>
      rw [e] at q
      have q : EndS X.K X.mg xp W B T H O (if ds.length ≤ LIM then .nx (ρ.set i (some (.own ds))) else .bad) := q
      obtain ⟨hl, q⟩ := endS_ite q
      show EndS X.K X.mg xp W B T H O (.ofR (if ds.length ≤ LIM then .ok ds else .bad) ρ fun ds => .nx (ρ.set i (some (.own ds))))
      rw [if_pos hl]
      exact q
    | ex z => rw [e] at q; exact q
    | bad => rw [e] at q; exact q
  | .ownLc i t vs it cond elt, c, x, X, xp, W, B, A, h => by
    obtain ⟨n, q, y, tg, iter, ifs, scope, p1, p, rfl, h8, h9, h0, h1, h2, h3, h4, h5, h6, h7⟩ := j_ownLc h
    obtain ⟨k1, k2, k3, k4⟩ := okLc_of A.toAt h9
    have blk := blkOk_by h3
    rw [← A.N, ← A.sc] at blk
    have hin : ∀ i ∈ t.slots, i ∈ (ownOf X.N vs).map (·.2) := fun i hi => by
      rw [own_snd]
      exact of_decide_eq_true (List.all_eq_true.mp h2 i hi)
    have st := cst_ownLc (B := B) (own := ownOf X.N vs) (A.cm h0) A.nd (by rw [A.N]; exact h8) k2 (sw_true k1 k2 k3 k4) (sI it c tg iter X xp W A.toAt h4) blk (fun s H C cl fp => (A.toAt.blk h0 scope s H C cl fp).tg_of h5)
      (fun s H C cl fp => sC cond _ ifs _ xp W0 (A.toAt.blk h0 scope s H C cl fp) h6) (fun s H C cl fp => (sE elt _ y _ xp W0 (A.toAt.blk h0 scope s H C cl fp) h7).1) (folded h1) hin (q := q) (p := p1) (p0 := p)
    rw [own_snd] at st
    exact st
  | .app i e, c, x, X, xp, W, B, A, h => by
    obtain ⟨n, q, p1, y, p2, p, rfl, h1, h2, h3, h4⟩ := j_app h
    obtain ⟨g1, g2, g3, g4⟩ := A.toAt.vis_of h3
    exact cst_append g1 g2 g3 g4 (sE e c y X xp W A.toAt h4).1 (by
      rw [star_cons h2]
      rfl) h1 (star_cons h2) rfl rfl
  | .par is es, c, x, X, xp, W, B, A, h => by
    unfold Ck.s at h
    cases h
  | .exp e, c, x, X, xp, W, B, A, h => by
    obtain ⟨y, p, rfl, h1, h2⟩ := j_exp h
    exact cst_expr (sE e c y X xp W A.toAt h2).1 (swapsE h1 _)
  | .ret e, c, x, X, xp, W, B, A, h => by
    obtain ⟨y, p, rfl, h1⟩ := j_ret h
    exact cst_ret (sE e c y X xp W A.toAt h1).1
  | .retN, c, x, X, xp, W, B, A, h => by
    obtain ⟨p, rfl⟩ := j_retN h
    exact cst_retN
  | .pass, c, x, X, xp, W, B, A, h => by
    obtain ⟨p, rfl⟩ := j_pass h
    exact cst_pass
  | .brk, c, x, X, xp, W, B, A, h => by
    obtain ⟨p, rfl⟩ := j_brk h
    exact cst_break
  | .cont, c, x, X, xp, W, B, A, h => by
    obtain ⟨p, rfl⟩ := j_cont h
    exact cst_cont
  | .ife d a b, c, x, X, xp, W, B, A, h => by
    obtain ⟨y, ya, yb, p, rfl, h1, h2, h3⟩ := j_ife h
    exact cst_if (sE d c y X xp W A.toAt h1).2.1 (sSs a c ya X xp W B A h2) (sSs b c yb X xp W B A h3)
  | .for t it b, c, x, X, xp, W, B, A, h => by
    obtain ⟨tg, iter, body, p, rfl, h0, h1, h2, h3, h4⟩ := j_for h
    exact cst_for A.ps (A.cm h0) (sI it c tg iter X xp W A.toAt h2) (A.toAt.tg_of h3) (sSs b c body X xp W B A h4) (folded h1)
  | .whl n d b, c, x, X, xp, W, B, A, h => by
    obtain ⟨y, body, p, rfl, h1, h2⟩ := j_whl h
    exact cst_while A.ps (sE d c y X xp W A.toAt h1).2.1 (sSs b c body X xp W B A h2)
  | .rai x0 f e, c, x, X, xp, W, B, A, h => by
    obtain ⟨q, y, p1, p, rfl, h1, h2, h3, h4, h5⟩ := j_rai h
    obtain ⟨k, hk, room⟩ := A.room h2
    obtain ⟨g1, g2⟩ := A.toAt.glo_of h3
    exact cst_raise (A.cm h2) A.tk (A.ex h2 x0 f h1) room hk g1 g2 (sE e c y X xp W A.toAt h5).1 (star_cons h4)
  | .try i y0 a b, c, x, X, xp, W, B, A, h => by
    obtain ⟨body, q, n, b0, suite, p1, p, rfl, h0, h1, h2, h3, h4, h5, h6⟩ := j_try h
    obtain ⟨rfl, f2, f3⟩ := A.fr h0
    obtain ⟨cv, hcv⟩ := A.hnd y0 h4
    obtain ⟨g1, g2⟩ := A.toAt.glo_of h3
    refine cst_tryAs (c := cv) (sub := fun x => c.Γ.sb x y0) f2 f3 A.nd (by rw [A.N]; exact h1) (by show X.env.scope.names.lookup n = _; rw [A.sc]; exact h2) ⟨g1, g2, hcv⟩ A.tk ⟨fun y b e => ?_, A.at_⟩ (fun W' pn xe tk ps => sSs a c body _ none W' B (A.tr W' pn xe tk ps h0) h5)
      (fun a' D0 dd oe y fl pn hz hv gy ay ask => sSs b { c with cm := false } (b0 :: suite) _ _ W0 B (A.suite pn hz hv gy ay ask) h6)
    obtain ⟨C, cw, k1, k2, _, k3, _⟩ := A.sb y y0 b e
    rw [ClsIs.one hcv k2]
    exact ⟨C, k1, k3⟩
theorem sSs : ∀ (s : Ss) (c : Ck) (xs : List Stmt) (X : Cx) (xp : XP) (W : WX) (B : List Addr), AtS c X xp W → c.ss s xs = true → CSs X xp W B xs (exes c.Γ s)
  | .nil, c, xs, X, xp, W, B, A, h => by
    obtain rfl := ss_nil h
    exact cst_nil
  | .cons s ss, c, xs, X, xp, W, B, A, h => by
    obtain ⟨y, ys, rfl, h1, h2⟩ := ss_cons h
    exact cst_cons (sS s c y X xp W B A h1) (sSs ss c ys X xp W B A h2)
  | .frz i ss, c, xs, X, xp, W, B, A, h => cst_frz (sSs ss c xs X xp W B A (by unfold Ck.ss at h; exact h))
end
end Pf

set_option Elab.async false
set_option linter.all false
set_option maxRecDepth 100000
/-! Defs as terms. -/
namespace Pf
open PySem PySem.Spec PyProof.Rows L2

/-- what a def of the body b and the locals N computes -/
def out (o : Out) : Rs D := match o with
  | .rt d => .ok d
  | .nx _ => .ok .none
  | .ex e _ => .ex e
  | _ => .bad
def enter (n : Nat) (ds : List D) : Sto := ds.map (fun d => some (.pd d)) ++ List.replicate (n - ds.length) none
def mDef (Γ : Gs) (n : Nat) (b : Ss) : List D → Rs D := fun ds => out (exes Γ b (enter n ds))
/-- the program as the defs of level k and below see it -/
structure Glo (P : Program) (w : World) (K : PySem.W.Frag) (mg : Str → Option Value) (base : Heap) (k : Nat) (Γ : Gs) : Prop where
  gl : ∀ x d, (x, d) ∈ Γ.gl → ∃ u v, mg x = some u ∧ L2.RelV v u ∧ ∀ F, Dn K F v d
  fs : ∀ x n m, (x, n, m) ∈ Γ.fs → ∃ (j : Nat) (f : Addr) (fd : FuncData) (ps : List Str), j ≤ k ∧ FnG P w K mg base j f fd ps (spF K mg n m) ∧ mg x = some (.ref f) ∧ PySem.W.keepIn K (.ref f) = true ∧ L2.Binds K fd ps []
  bs : ∀ x ∈ Γ.bs, mg x = none
  sb : ∀ x y b, Γ.sb x y = some b → SubIs K mg x y b
  at_ : ∀ y f, Γ.at_ y = some f → ∃ C, mg y = some (.ref C) ∧ Ask K C f
  ex : ∀ x f, Γ.at_ x = some f → ExCls P w K mg base x f
  hnd : ∀ y ∈ Γ.hs, ∃ cv, ClsIs mg y cv
  two : 2 ≤ k
section
variable {P : Program} {w : World} {K : PySem.W.Frag} {mg : Str → Option Value} {base : Heap} {k : Nat} {Γ : Gs}
theorem rel_enter {N : List Str} {H : Hp} {B : List Addr} {vs : List V} {ds : List D} (t : Thr H B) (a : DnAll K (msk H B) vs ds) (hl : ds.length ≤ N.length) : Fr K none B (start N vs) H (enter N.length ds) [] := by
  have len : vs.length = ds.length := dpAll_len a
  have no : ∀ (i : Nat) (xs : List D), (enter N.length ds)[i]? ≠ some (some (.own xs)) := fun i xs h => by
    unfold enter at h
    rcases List.mem_append.mp (List.mem_of_getElem? h) with z | z
    · obtain ⟨d, _, e⟩ := List.mem_map.mp z
      cases e
    · rw [List.mem_replicate] at z
      cases z.2
  refine ⟨⟨?_, fun i s h => ?_, fun i j xs ys v h1 => absurd h1 (no i xs), fun b hb => t b hb⟩, fun i xs b h => absurd h (no i xs)⟩
  · unfold L2.start enter
    simp [len]
  · unfold enter at h
    unfold L2.start
    by_cases hi : i < ds.length
    · rw [List.getElem?_append_left (by simpa using hi), List.getElem?_map] at h
      cases e : ds[i]? with
      | none => rw [e] at h; cases h
      | some d =>
        rw [e] at h
        obtain rfl : SV.pd d = s := by simpa using h
        obtain ⟨v, g1, g2⟩ := dpAll_get a e
        refine ⟨v, ?_, g2⟩
        rw [List.getElem?_append_left (by simpa [len] using hi), List.getElem?_map, g1]
        rfl
    · rw [List.getElem?_append_right (by simpa using hi), List.getElem?_replicate] at h
      split at h <;> cases h
theorem stp_same {H H' : Hp} {O : List Addr} (s : Stp H [] H' O) : Same H H' := fun b o e => msk_sub b o (s b o (by rw [msk_nil]; exact e))
theorem fnG_def {x qual : Str} {st : Stmt} {f : Addr} {fd : FuncData} {N ps : List Str} {b : Ss} (F : Fun K x qual st f fd) (S : FnScope N ps (defScope st)) (G : Glo P w K mg base k Γ)
    (chk : (Ck.mk Γ N (defScope st) true true).ss b (defBody st) = true) : FnG P w K mg base (k + 1) f fd ps (spF K mg ps.length (mDef Γ N.length b)) := by
  refine fnG_of F S (fun vs H Q E h => ?_) fun cdv A outer s H vs Q E room nore h => ?_
  · obtain ⟨O, ds, _, a, hl, _⟩ := h
    exact (dpAll_len a).trans hl
  · obtain ⟨B, ds, thr, a, hl, wish⟩ := h
    let X := cxOf (L2.CX P w) P w K mg base N qual (defScope st) f cdv A outer s H E
    have at_ : AtS (Ck.mk Γ N (defScope st) true true) X none (fun cls d _ H' => E cls d H') := {
      N := rfl
      sc := rfl
      fa := fun _ _ => rfl
      cm := fun _ => rfl
      gl := G.gl
      fs := fun _ x n m hm => by
        obtain ⟨j, g, gd, qs, hj, FG, r⟩ := G.fs x n m hm
        exact ⟨j, g, gd, qs, FG, room.mono hj, r⟩
      bs := G.bs
      nd := S.nd
      nore := nore
      hu := by
        have := room.un
        show (A.deeper (envOfC qual (defScope st) s.heap.objs.size f cdv)).units + 70 < cLine
        omega
      tk := takes_of rfl rfl rfl rfl
      su := fun h => by cases h
      sb := G.sb
      at_ := G.at_
      ps := PassesOwn.leaving
      fr := fun _ => ⟨rfl, rfl, rfl⟩
      ex := fun _ => G.ex
      room := fun _ => ⟨k, G.two, room⟩
      hnd := G.hnd }
    have len : ds.length ≤ N.length := by
      have := congrArg List.length S.pre
      rw [List.length_take] at this
      omega
    refine ⟨_, sSs b _ (defBody st) X none _ B at_ chk, enter N.length ds, [], rel_enter thr a len, ?_⟩
    have wish : match out (exes Γ b (enter N.length ds)) with
      | .ok d => ∀ H' v, Same H H' → Dn K (msk H' B) v d → Q v H'
      | .ex e => ∀ H' cls dd, Same H H' → ExAt K mg (msk H' B) e cls dd → E cls dd H'
      | .bad => False := wish
    show EndS K mg none (fun cls d _ H' => E cls d H') B _ H [] (exes Γ b (enter N.length ds))
    have less : ∀ (H' : Hp) (O' : List Addr), Same (msk H' (O' ++ B)) (msk H' B) := fun H' O' => msk_less fun b hb => List.mem_append_right _ hb
    cases e : exes Γ b (enter N.length ds) with
    | nx ρ => rw [e] at wish; exact fun σ' H' O' s _ => wish H' .non (stp_same s) .non
    | rt d => rw [e] at wish; exact fun v H' O' s _ hv => wish H' v (stp_same s) (dp_mono (less H' O') hv)
    | ex x ρ => rw [e] at wish; exact fun σ' H' O' cls dd s _ hx => wish H' cls dd (stp_same s) (hx.mono (less H' O'))
    | bk ρ => rw [e] at wish; exact wish.elim
    | ct ρ => rw [e] at wish; exact wish.elim
    | bad => rw [e] at wish; exact wish.elim
end
end Pf

set_option Elab.async false
set_option linter.all false
set_option maxRecDepth 100000
/-! The law's call. -/
namespace Pf
open PySem PySem.Spec PyProof.Rows L2

section
variable {P : Program} {w : World} {K : PySem.W.Frag} {mg mb : Str → Option Value} {k : Nat} {fa a : Addr} {fd : FuncData} {x : Str} {sp : Sp} {s1 : Shared} {vs : List Value} {ns : List Int}
/-- from an abstract heap that tracks the script at most -/
theorem law_from (H : Hp) (inK : K.In s1.heap) (top : s1.heap.Ns mainGlobals mg) (blt : s1.heap.Ns builtinsNs mb) (bltAll : ∀ x : Str, x ≠ "__name__" → mb x = bootBuiltins x) (free : s1.heap.NoLimit) (nogen : s1.gens = #[])
    (scr : s1.heap.get? a = some { cls := .type "list", data := .seq vs.toArray }) (room : Room k callerA)
    (F : ∀ base : Heap, K.In base → base.Ns mainGlobals mg → FnG P w K mg base k fa fd [x] sp) (hbind : ∀ (s : Shared) (u : Value), BindsTo s fd ⟨[u], []⟩ [(x, u)])
    (goal : sp [.ref a] H (fun v _ => v = .bl true) fun _ _ _ => False) (hO : Only H) (ok : HOk P w H s1.heap) (alone : ∀ b, H b ≠ none → b = a) (outK : H a ≠ none → K.lookup a = none) :
    codeAny (model P w) callerA (.call (.ref fa) ⟨[.ref a], []⟩) (fun r s' => r = .ok (.ret (.bool true)) ∧ OldK s1.heap s'.heap ∧ s'.os = s1.os ∧ AllBare s'.gens) s1 := by
  have notrk : ∀ {b : Addr} {o : Obj} {es : Array DictEntry} {ep : Nat}, s1.heap.get? b = some o → o.data = .dict es ep → H b = none := by
    intro b o es ep g d
    cases q : H b with
    | none => rfl
    | some u =>
      obtain rfl := alone b (by rw [q]; exact Option.some_ne_none _)
      rw [scr] at g
      cases g
      cases (d : Data.seq vs.toArray _ = Data.dict es ep)
  have lift : ∀ {b : Addr} {m : Str → Option Value}, s1.heap.Ns b m → (hidT s1.heap H).Ns b m := by
    rintro b m ⟨o, es, ep, g, d, r⟩
    exact ⟨o, es, ep, hidT_get g (notrk g d), d, r⟩
  have inK' : K.In (hidT s1.heap H) := by
    intro b o g
    refine hidT_get (inK b o g) ?_
    cases q : H b with
    | none => rfl
    | some u =>
      obtain rfl := alone b (by rw [q]; exact Option.some_ne_none _)
      rw [outK (by rw [q]; exact Option.some_ne_none _)] at g
      cases g
  obtain ⟨mc, l1, l2⟩ := free
  have md : Mod K mg (hidT s1.heap H) := { kin := inK', glob := lift top, blt := ⟨mb, lift blt, bltAll⟩, nolimit := ⟨mc, lift l1, l2⟩ }
  have ent : Env0 P w K mg (hidT s1.heap H) callerA [] s1 H := ⟨rfl, md, fun _ _ g => of_hidT g, Nat.le_of_eq (hidT_size _ _), trivial, fun b hb => (by cases hb), ok, .of_eq nogen⟩
  have runs := (F _ inK' (lift top)).run callerA [] s1 H ⟨[.ref a], []⟩ [.ref a] [.ref a] _ _ room rfl ent (hbind s1 (.ref a)) (.cons rfl .nil) goal
  refine codeAny_mono runs fun res s' out => ?_
  match res, out with
  | .error e, z =>
    obtain ⟨_, _, _, _, _, _, _, _, _, _, _, _, f⟩ := z
    exact f.elim
  | .ok .next, z => exact z.elim
  | .ok .brk, z => exact z.elim
  | .ok .cont, z => exact z.elim
  | .ok (.ret u), ⟨v, H', os, bare, un, ok', rv, z⟩ =>
    obtain rfl : v = .bl true := z
    obtain rfl : u = Value.bool true := rv
    refine ⟨rfl, OldK.of_keep fun b o g => ?_, os, bare⟩
    cases q : H b with
    | none => exact un.keep b o g q (by intro z; cases z) (by intro z; cases z)
    | some u =>
      rcases hO b with z | ⟨ob, xs, z⟩
      · rw [q] at z; cases z
      · have still := (ok' b _ (un.frzs b ob _ z)).1
        have was := (ok b _ z).1
        rw [g] at was
        cases was
        exact still
theorem law_callG (inK : K.In s1.heap) (top : s1.heap.Ns mainGlobals mg) (blt : s1.heap.Ns builtinsNs mb) (bltAll : ∀ x : Str, x ≠ "__name__" → mb x = bootBuiltins x) (free : s1.heap.NoLimit) (nogen : s1.gens = #[])
    (scr : s1.heap.get? a = some { cls := .type "list", data := .seq vs.toArray }) (isInts : IntsAre vs ns) (len : ns.length ≤ sizeLine) (room : Room k callerA)
    (F : ∀ base : Heap, K.In base → base.Ns mainGlobals mg → FnG P w K mg base k fa fd [x] sp) (hbind : ∀ (s : Shared) (u : Value), BindsTo s fd ⟨[u], []⟩ [(x, u)])
    (goal : ∀ H : Hp, RL K H a (ns.map V.int) → sp [.ref a] H (fun v _ => v = .bl true) fun _ _ _ => False) :
    codeAny (model P w) callerA (.call (.ref fa) ⟨[.ref a], []⟩) (fun r s' => r = .ok (.ret (.bool true)) ∧ OldK s1.heap s'.heap ∧ s'.os = s1.os ∧ AllBare s'.gens) s1 := by
  cases hk : K.lookup a with
  | some o =>
    have same := inK a o hk
    rw [scr] at same
    cases same
    have sz : vs.toArray.size ≤ sizeLine := by rw [List.size_toArray, isInts.length]; exact len
    refine law_from (fun _ => none) inK top blt bltAll free nogen scr room F hbind (goal _ (Or.inr ⟨vs.toArray, _, hk, sz, ?_⟩)) (fun _ => Or.inl rfl) ?_ ?_ fun z => (z rfl).elim
    · rw [List.toList_toArray]; exact vals_ints isInts
    · intro b u z; cases z
    · intro b z; exact (z rfl).elim
  | none =>
    have hO : Only (fun b => if b = a then some (HO.frz { cls := .type "list", data := .seq vs.toArray } (.lst (ns.map V.int))) else none : Hp) := by
      intro b
      by_cases hb : b = a
      · exact Or.inr ⟨_, _, if_pos hb⟩
      · exact Or.inl (if_neg hb)
    refine law_from _ inK top blt bltAll free nogen scr room F hbind (goal _ (Or.inl (Or.inr ⟨_, if_pos rfl⟩))) hO ?_ ?_ fun _ => hk
    · intro b u z
      by_cases hb : b = a
      · subst hb
        have z : some (HO.frz { cls := .type "list", data := .seq vs.toArray } (.lst (ns.map V.int))) = some u := (if_pos rfl).symm.trans z
        cases z
        exact ⟨scr, by rw [List.length_map]; exact len, vs, _, vals_ints isInts, scr⟩
      · cases (if_neg hb).symm.trans z
    · intro b z
      by_cases hb : b = a
      · exact hb
      · exact (z (if_neg hb)).elim
end
end Pf

set_option Elab.async false
set_option linter.all false
set_option maxRecDepth 100000
/-! From the written part to the law. -/
namespace Pf
open PySem PySem.Spec PyProof.Rows L2

def sbT (L : List (Str × Str × Bool)) : Str → Str → Option Bool := fun x y => match L.find? fun p => p.1 == x && p.2.1 == y with
  | some p => some p.2.2
  | none => none
def atT (L : List (Str × Str)) : Str → Option Str := fun x => match L.find? fun p => p.1 == x with
  | some p => some p.2
  | none => none
theorem sbT_mem {L : List (Str × Str × Bool)} {x y : Str} {b : Bool} (h : sbT L x y = some b) : (x, y, b) ∈ L := by
  unfold sbT at h
  split at h
  · rename_i p e
    have m := List.mem_of_find?_eq_some e
    have q := List.find?_some e
    simp only [Bool.and_eq_true, beq_iff_eq] at q
    obtain ⟨x', y', b'⟩ := p
    obtain ⟨rfl, rfl⟩ := q
    cases h
    exact m
  · cases h
theorem atT_mem {L : List (Str × Str)} {x f : Str} (h : atT L x = some f) : (x, f) ∈ L := by
  unfold atT at h
  split at h
  · rename_i p e
    have m := List.mem_of_find?_eq_some e
    have q := List.find?_some e
    simp only [beq_iff_eq] at q
    obtain ⟨x', f'⟩ := p
    obtain rfl := q
    cases h
    exact m
  · cases h
section
variable {P : Program} {w : World} {K : PySem.W.Frag} {mg : Str → Option Value} {base : Heap} {k : Nat} {Γ : Gs}
/-- one def more -/
theorem Glo.step {x : Str} {n : Nat} {m : List D → Rs D} {f : Addr} {fd : FuncData} {ps : List Str} (G : Glo P w K mg base k Γ) (F : FnG P w K mg base (k + 1) f fd ps (spF K mg n m)) (hm : mg x = some (.ref f)) (hk : PySem.W.keepIn K (.ref f) = true) (hb : L2.Binds K fd ps []) :
    Glo P w K mg base (k + 1) { Γ with fs := Γ.fs ++ [(x, n, m)] } where
  gl := G.gl
  fs := fun y n' m' h => by
    rcases List.mem_append.mp h with h | h
    · obtain ⟨j, g, gd, qs, hj, r⟩ := G.fs y n' m' h
      exact ⟨j, g, gd, qs, Nat.le_succ_of_le hj, r⟩
    · rw [List.mem_singleton] at h
      cases h
      exact ⟨k + 1, f, fd, ps, Nat.le_refl _, F, hm, hk, hb⟩
  bs := G.bs
  sb := G.sb
  at_ := G.at_
  ex := G.ex
  hnd := G.hnd
  two := Nat.le_succ_of_le G.two
/-- ahead of all defs -/
theorem Glo.init {gl : List (Str × D)} {bs hs : List Str} {sb : List (Str × Str × Bool)} {at_ : List (Str × Str)} (h1 : ∀ p ∈ gl, ∃ u v, mg p.1 = some u ∧ L2.RelV v u ∧ ∀ F, Dn K F v p.2) (h2 : ∀ x ∈ bs, mg x = none) (h3 : ∀ p ∈ sb, SubIs K mg p.1 p.2.1 p.2.2)
    (h4 : ∀ p ∈ at_, (∃ C, mg p.1 = some (.ref C) ∧ Ask K C p.2) ∧ ExCls P w K mg base p.1 p.2) (h5 : ∀ y ∈ hs, ∃ cv, ClsIs mg y cv) : Glo P w K mg base 2 ⟨gl, [], bs, sbT sb, atT at_, hs⟩ where
  gl := fun x d h => h1 (x, d) h
  fs := fun x n m h => by cases h
  bs := h2
  sb := fun x y b h => h3 (x, y, b) (sbT_mem h)
  at_ := fun y f h => (h4 (y, f) (atT_mem h)).1
  ex := fun x f h => (h4 (x, f) (atT_mem h)).2
  hnd := h5
  two := Nat.le_refl _
theorem gl_str {x : Str} {s : Str} {t : Tok} (h : mg x = some (.str s t)) (a : asc s = true) (l : s.length ≤ LIM) : ∃ u v, mg x = some u ∧ L2.RelV v u ∧ ∀ F, Dn K F v (.str s) := ⟨_, .str s, h, ⟨t, rfl⟩, fun _ => .str a l⟩
theorem gl_int {x : Str} {i : Int} {t : Tok} (h : mg x = some (.int i t)) : ∃ u v, mg x = some u ∧ L2.RelV v u ∧ ∀ F, Dn K F v (.int i) := ⟨_, .int i, h, ⟨t, rfl⟩, fun _ => .int i⟩
/-- an own class: its base an own one without __init__ -/
theorem cls_own {x f base_ par msg qual : Str} {st : Stmt} {C fI : Addr} {fd : FuncData} {b : Bs} {j : Nat} {p1 p2 p3 p4 p5 p6 p7 p8 p9 p10 : Pos} (gC : mg x = some (.ref C)) (oc : Oc K b C f) (iC : PySem.W.findIn K (.ref C) "__init__" = some (some (.ref fI))) (tI : PySem.W.isFn K (.ref fI) = true)
    (F : Fun K "__init__" qual st fI fd) (S : FnScope ["self", par] ["self", par] (defScope st)) (B : BaseIs K mg b base_) (hs : (defScope st).names.lookup ("self" : Str) = some .local) (hp : (defScope st).names.lookup par = some .local) (hx : (defScope st).names.lookup base_ = some .globalImplicit)
    (hd : (par == ("__debug__" : Str)) = false) (hcd : (par == ("__classdict__" : Str)) = false)
    (call : ∀ env : Env, ∃ pl : Sem Bool, eval (.Call (.Attribute (.Name base_ p1) "__init__" p2) [.Name "self" p3, .Constant (.str msg) j p4] [] p5) env = (do
      let ov ← eval (.Name base_ p1) env
      standAt p2.atName
      let (g, first) ← holding [ov] (getMethod ov "__init__" pl)
      callWith p5 g first (backTo p5 (starEach [.Name "self" p3, .Constant (.str msg) j p4] env)) (backToKw p5 (keywordEach [] env))))
    (body : defBody st = [.Expr (.Call (.Attribute (.Name base_ p1) "__init__" p2) [.Name "self" p3, .Constant (.str msg) j p4] [] p5) p6, .Assign [.Attribute (.Name "self" p7) f p8] (.Name par p9) p10])
    (bI : L2.Binds K fd ["self", par] []) : ExCls P w K mg base x f :=
  ⟨b, C, fI, fd, ["self", par], gC, oc, iC, of_decide_eq_true (by simpa [PySem.W.isFn] using tI), fn_ini F S B hs hp hx hd hcd call body, bI⟩
theorem sub_own {x y : Str} {C D0 : Addr} {b : Bool} (hx : mg x = some (.ref C)) (hy : mg y = some (.ref D0)) (h1 : PySem.W.exmOne K (.ref C) (.ref D0) = some b) (h2 : PySem.W.kitOne K (.ref C) (.ref D0) = some b) : SubIs K mg x y b :=
  ⟨C, .ref D0, hx, .inl hy, ⟨.ref D0, rfl, fun u r => r⟩, h1, h2⟩
end
/-- what is known of a class object by itself -/
theorem clsIn_one {K : PySem.W.Frag} {C : Addr} {o : Obj} (h : K.lookup C = some o) : PySem.W.clsIn K C = PySem.W.clsIn [(C, o)] C := by
  unfold PySem.W.clsIn
  rw [h]
  simp [List.lookup]
theorem excIn_one {K : PySem.W.Frag} {C : Addr} {o : Obj} {tl : List Value} {n : String} (h : K.lookup C = some o) (e : (PySem.W.excInitIn [(C, o)] C tl n && PySem.W.excOver [(C, o)] C tl) = true) : PySem.W.excInitIn K C tl n = true ∧ PySem.W.excOver K C tl = true := by
  rw [Bool.and_eq_true] at e
  refine ⟨?_, ?_⟩
  · have e1 := e.1
    unfold PySem.W.excInitIn at e1 ⊢
    rw [h]
    simpa [List.lookup] using e1
  · have e2 := e.2
    unfold PySem.W.excOver at e2 ⊢
    rw [clsIn_one h]
    exact e2
theorem oc_mk {K : PySem.W.Frag} {b : Bs} {C : Addr} {f : Str} {o : Obj} (h : K.lookup C = some o) (e : (PySem.W.excInitIn [(C, o)] C b.tail b.new && PySem.W.excOver [(C, o)] C b.tail) = true) (hd : PySem.W.hasDictIn K C = true) (tk : PySem.W.takerIn K C f = some none)
    (sa : PySem.W.findIn K (.ref C) "__setattr__" = some (some (.builtin "object.__setattr__"))) (exC : PySem.W.subIn K (.ref C) (.type "BaseException") = some true) (tyC : PySem.W.typeIn K (.ref C) = some (.type "type")) (kC : PySem.W.keepIn K (.ref C) = true) : Oc K b C f :=
  ⟨(excIn_one h e).1, (excIn_one h e).2, hd, tk, sa, exC, tyC, kC⟩
theorem exm_one {K : PySem.W.Frag} {C D0 : Addr} {b : Bool} (h1 : PySem.W.subIn K (.ref D0) (.type "BaseException") = some true) (h2 : PySem.W.isClsIn K D0 = true) (h3 : PySem.W.typeIn K (.ref D0) = some (.type "type")) (h4 : PySem.W.subIn K (.ref C) (.ref D0) = some b) :
    PySem.W.exmOne K (.ref C) (.ref D0) = some b ∧ PySem.W.kitCls K (.ref C) (.ref D0) = some b := by
  have k : PySem.W.kitCls K (.ref C) (.ref D0) = some b := by
    show (if ((PySem.W.clsIn K D0).isSome && PySem.W.typeIn K (.ref D0) == some (.type "type")) = true then PySem.W.subIn K (.ref C) (.ref D0) else none) = some b
    have e : ((PySem.W.clsIn K D0).isSome && PySem.W.typeIn K (.ref D0) == some (.type "type")) = true := by
      rw [h3]
      have h2 : (PySem.W.clsIn K D0).isSome = true := h2
      rw [h2]
      rfl
    rw [if_pos e]
    exact h4
  refine ⟨?_, k⟩
  unfold PySem.W.exmOne
  have e : (PySem.W.subIn K (.ref D0) (.type "BaseException") == some true) = true := by rw [h1]; rfl
  rw [if_pos e]
  exact k
theorem sub_self {K : PySem.W.Frag} {mg : Str → Option Value} {x : Str} {C : Addr} (hx : mg x = some (.ref C)) (h1 : PySem.W.subIn K (.ref C) (.type "BaseException") = some true) (h2 : PySem.W.isClsIn K C = true) (h3 : PySem.W.typeIn K (.ref C) = some (.type "type"))
    (h4 : PySem.W.subIn K (.ref C) (.ref C) = some true) : SubIs K mg x x true :=
  sub_own hx hx (exm_one h1 h2 h3 h4).1 (by
    unfold PySem.W.kitOne
    rw [if_pos (beq_self_eq_true _)])
theorem sub_ne {K : PySem.W.Frag} {mg : Str → Option Value} {x y : Str} {C D0 : Addr} {b : Bool} (hx : mg x = some (.ref C)) (hy : mg y = some (.ref D0)) (h1 : PySem.W.subIn K (.ref D0) (.type "BaseException") = some true) (h2 : PySem.W.isClsIn K D0 = true) (h3 : PySem.W.typeIn K (.ref D0) = some (.type "type"))
    (h4 : PySem.W.subIn K (.ref C) (.ref D0) = some b) (ne : (Value.ref C == Value.ref D0) = false) : SubIs K mg x y b :=
  sub_own hx hy (exm_one h1 h2 h3 h4).1 (by
    unfold PySem.W.kitOne
    rw [ne, if_neg Bool.false_ne_true]
    exact (exm_one h1 h2 h3 h4).2)
/-- the law, from its def's promise -/
theorem walk_G {l : PySem.W.OpenLaw} {n k : Nat} {q : Program} {loose : List Str} {XP : (Str → Option Value) → Heap → Prop} {YP : World → Heap → Prop} {d : DefRec} {K : Params → PySem.W.Frag} {x : Str} {m : List D → Rs D}
    (hn : l.most = some n) (hn2 : n ≤ 1000000) (hdf : d.params.defaults = []) (room : Room k callerA) (hY : ∀ (w : World) (h : Heap), YP w h → (K w.params).In h)
    (F : ∀ (w : World) (mg : Str → Option Value) (fa : Addr) (h : Heap), (K w.params).In h → h.Ns mainGlobals mg → mg d.name = some (.ref fa) → ∃ fd : FuncData, (∀ (s : Shared) (u : Value), BindsTo s fd ⟨[u], []⟩ [(x, u)]) ∧
      ∀ base : Heap, (K w.params).In base → base.Ns mainGlobals mg → FnG l.prog w (K w.params) mg base k fa fd [x] (spF (K w.params) mg 1 m))
    (law : ∀ ns : List Int, ns.length ≤ n → m [.list (ns.map PyData.int)] = .ok (.bool true)) : PySem.W.WalkO q loose XP YP l.row.toRowW d [] (fun f vs => PySem.call f vs) := by
  refine Att.attach_call hn hdf fun w s₀ s₁ mg mb fa o pm cd doc a vs ns G Y ho hd hcd hmg hobj hints hlen hg => ?_
  obtain ⟨fd, hb, hF⟩ := F w mg fa _ (hY w _ Y) G.T.g hmg
  refine law_callG (hY w _ Y) G.T.g G.T.b G.T.builtins G.T.nolimit hg hobj hints (Nat.le_trans hlen (Nat.le_trans hn2 lim_line)) room hF hb fun H hS => ?_
  refine ⟨[], [.list (ns.map PyData.int)], fun a ha => (by cases ha), .cons (.lst (by rw [msk_nil]; exact hS) (by rw [List.length_map]; exact Nat.le_trans hlen hn2) (dpAll_ints ns)) .nil, rfl, ?_⟩
  rw [law ns hlen]
  intro H' v _ hv
  exact hv.isB
end Pf

set_option Elab.async false
set_option linter.all false
set_option maxRecDepth 100000
namespace K46
open PySem PySem.Spec PyProof.Rows L2 Pf
def top (i : Nat) : Stmt := PySem.Challenge.pw_pagesasseen_k46_traps.main.body.getD i (.Pass ⟨0, 0, 0, 0⟩)
def gls : List (Str × D) := [("LETTERS", (.str "abcdefghijklmnopqrstuvwxyz")), ("DIGITS", (.str "0123456789")), ("MAX_LENGTH", (.int 8)), ("MAX_SEGMENTS", (.int 6)), ("MAX_PARAMETERS", (.int 4))]
def bls : List Str := ["all", "enumerate", "int", "isinstance", "len", "max", "range", "repr", "str"]
def sbl : List (Str × Str × Bool) := [("InvalidAddress", "ArchiveError", true), ("InvalidAddress", "InvalidAddress", true), ("InvalidAddress", "InvalidContent", false)]
def atl : List (Str × Str) := [("InvalidAddress", "value")]
def hsl : List Str := ["InvalidAddress"]
abbrev s_is_name : Stmt := top 10
def n_is_name : List Str := ["value", "sign"]
def t_is_name : Ss := (.cons (.ret (.and (.isa (.ex (.var 0)) .str) (.and (.ch .le .le (.ex (.int 1)) (.ex (.len (.ex (.var 0)))) (.ex (.gl 2))) (.bi .alll (.cons (.lc (.nm 1) [1] (.val (.var 0)) .none (.cmp .inn (.ex (.var 1)) (.ex (.gl 0)))) .nil))))) .nil)
def g_is_name : Gs := ⟨gls, [], bls, sbT sbl, atT atl, hsl⟩
def m_is_name : List D → Rs D := mDef g_is_name 2 t_is_name
theorem ck_is_name : (Ck.mk g_is_name n_is_name (defScope s_is_name) true true).ss t_is_name (defBody s_is_name) = true := by decide +kernel
theorem sc_is_name : FnScope n_is_name ["value"] (defScope s_is_name) := ⟨rfl, rfl, rfl, by decide +kernel, rfl, by decide +kernel, by decide +kernel⟩
abbrev s_is_value : Stmt := top 11
def n_is_value : List Str := ["text", "sign"]
def t_is_value : Ss := (.cons (.ret (.and (.cmp .le (.ex (.len (.ex (.var 0)))) (.ex (.gl 2))) (.bi .alll (.cons (.lc (.nm 1) [1] (.val (.var 0)) .none (.cmp .inn (.ex (.var 1)) (.ex (.bin .add (.gl 0) (.gl 1))))) .nil)))) .nil)
def g_is_value : Gs := ⟨gls, [("is_name", 1, m_is_name)], bls, sbT sbl, atT atl, hsl⟩
def m_is_value : List D → Rs D := mDef g_is_value 2 t_is_value
theorem ck_is_value : (Ck.mk g_is_value n_is_value (defScope s_is_value) true true).ss t_is_value (defBody s_is_value) = true := by decide +kernel
theorem sc_is_value : FnScope n_is_value ["text"] (defScope s_is_value) := ⟨rfl, rfl, rfl, by decide +kernel, rfl, by decide +kernel, by decide +kernel⟩
abbrev s_split_query : Stmt := top 12
def n_split_query : List Str := ["text", "parameter"]
def t_split_query : Ss := (.cons (.ret (.lc (.nm 1) [1] (.val (.mt .split (.var 0) (.cons (.str "&") .nil))) .none (.mt .partition (.var 1) (.cons (.str "=") .nil)))) .nil)
def g_split_query : Gs := ⟨gls, [("is_name", 1, m_is_name), ("is_value", 1, m_is_value)], bls, sbT sbl, atT atl, hsl⟩
def m_split_query : List D → Rs D := mDef g_split_query 2 t_split_query
theorem ck_split_query : (Ck.mk g_split_query n_split_query (defScope s_split_query) true true).ss t_split_query (defBody s_split_query) = true := by decide +kernel
theorem sc_split_query : FnScope n_split_query ["text"] (defScope s_split_query) := ⟨rfl, rfl, rfl, by decide +kernel, rfl, by decide +kernel, by decide +kernel⟩
abbrev s_is_query : Stmt := top 13
def n_is_query : List Str := ["text", "parts", "key", "sign", "value"]
def t_is_query : Ss := (.cons (.asg (.nm 1) (.call 2 (.cons (.var 0) .nil))) (.cons (.ife (.or (.cmp .gt (.ex (.len (.ex (.var 1)))) (.ex (.gl 4))) (.cmp .ne (.ex (.lenks (.tp [2, 3, 4]) [2, 3, 4] (.val (.var 1)) .none (.var 2))) (.ex (.len (.ex (.var 1)))))) (.cons (.ret (.bl false)) .nil) .nil) (.cons (.ret (.bi .alll (.cons (.lc (.tp [2, 3, 4]) [2, 3, 4] (.val (.var 1)) .none (.and (.call 0 (.cons (.var 2) .nil)) (.and (.cmp .eq (.ex (.var 3)) (.ex (.str "="))) (.call 1 (.cons (.var 4) .nil))))) .nil))) .nil)))
def g_is_query : Gs := ⟨gls, [("is_name", 1, m_is_name), ("is_value", 1, m_is_value), ("split_query", 1, m_split_query)], bls, sbT sbl, atT atl, hsl⟩
def m_is_query : List D → Rs D := mDef g_is_query 5 t_is_query
theorem ck_is_query : (Ck.mk g_is_query n_is_query (defScope s_is_query) true true).ss t_is_query (defBody s_is_query) = true := by decide +kernel
theorem sc_is_query : FnScope n_is_query ["text"] (defScope s_is_query) := ⟨rfl, rfl, rfl, by decide +kernel, rfl, by decide +kernel, by decide +kernel⟩
abbrev s_is_address : Stmt := top 14
def n_is_address : List Str := ["value", "path", "mark", "query", "names", "name"]
def t_is_address : Ss := (.cons (.ife (.not (.isa (.ex (.var 0)) .str)) (.cons (.ret (.bl false)) .nil) .nil) (.cons (.asg (.tp [1, 2, 3]) (.mt .partition (.var 0) (.cons (.str "?") .nil))) (.cons (.asg (.nm 4) (.mt .split (.var 1) (.cons (.str "/") .nil))) (.cons (.ife (.or (.cmp .gt (.ex (.len (.ex (.var 4)))) (.ex (.bin .add (.gl 3) (.int 1)))) (.not (.bi .alll (.cons (.lc (.nm 5) [5] (.val (.var 4)) .none (.call 0 (.cons (.var 5) .nil))) .nil)))) (.cons (.ret (.bl false)) .nil) .nil) (.cons (.ret (.or (.cmp .eq (.ex (.var 2)) (.ex (.str ""))) (.call 3 (.cons (.var 3) .nil)))) .nil)))))
def g_is_address : Gs := ⟨gls, [("is_name", 1, m_is_name), ("is_value", 1, m_is_value), ("split_query", 1, m_split_query), ("is_query", 1, m_is_query)], bls, sbT sbl, atT atl, hsl⟩
def m_is_address : List D → Rs D := mDef g_is_address 6 t_is_address
theorem ck_is_address : (Ck.mk g_is_address n_is_address (defScope s_is_address) true true).ss t_is_address (defBody s_is_address) = true := by decide +kernel
theorem sc_is_address : FnScope n_is_address ["value"] (defScope s_is_address) := ⟨rfl, rfl, rfl, by decide +kernel, rfl, by decide +kernel, by decide +kernel⟩
abbrev s_require_address : Stmt := top 15
def n_require_address : List Str := ["value"]
def t_require_address : Ss := (.cons (.ife (.not (.call 4 (.cons (.var 0) .nil))) (.cons (.rai "InvalidAddress" "value" (.var 0)) .nil) .nil) .nil)
def g_require_address : Gs := ⟨gls, [("is_name", 1, m_is_name), ("is_value", 1, m_is_value), ("split_query", 1, m_split_query), ("is_query", 1, m_is_query), ("is_address", 1, m_is_address)], bls, sbT sbl, atT atl, hsl⟩
def m_require_address : List D → Rs D := mDef g_require_address 1 t_require_address
theorem ck_require_address : (Ck.mk g_require_address n_require_address (defScope s_require_address) true true).ss t_require_address (defBody s_require_address) = true := by decide +kernel
theorem sc_require_address : FnScope n_require_address ["value"] (defScope s_require_address) := ⟨rfl, rfl, rfl, by decide +kernel, rfl, by decide +kernel, by decide +kernel⟩
abbrev s_segments_of : Stmt := top 16
def n_segments_of : List Str := ["address"]
def t_segments_of : Ss := (.cons (.exp (.call 5 (.cons (.var 0) .nil))) (.cons (.ret (.sl (.mt .split (.ix (.mt .partition (.var 0) (.cons (.str "?") .nil)) (.int 0)) (.cons (.str "/") .nil)) (.some (.int 1)) .none)) .nil))
def g_segments_of : Gs := ⟨gls, [("is_name", 1, m_is_name), ("is_value", 1, m_is_value), ("split_query", 1, m_split_query), ("is_query", 1, m_is_query), ("is_address", 1, m_is_address), ("require_address", 1, m_require_address)], bls, sbT sbl, atT atl, hsl⟩
def m_segments_of : List D → Rs D := mDef g_segments_of 1 t_segments_of
theorem ck_segments_of : (Ck.mk g_segments_of n_segments_of (defScope s_segments_of) true true).ss t_segments_of (defBody s_segments_of) = true := by decide +kernel
theorem sc_segments_of : FnScope n_segments_of ["address"] (defScope s_segments_of) := ⟨rfl, rfl, rfl, by decide +kernel, rfl, by decide +kernel, by decide +kernel⟩
abbrev s_is_trap : Stmt := top 18
def n_is_trap : List Str := ["address", "segments", "size", "start", "run"]
def t_is_trap : Ss := (.cons (.asg (.nm 1) (.call 6 (.cons (.var 0) .nil))) (.cons (.for (.nm 2) (.r2 (.int 1) (.bin .add (.bin .fdiv (.len (.ex (.var 1))) (.int 3)) (.int 1))) (.cons (.for (.nm 3) (.r1 (.bin .add (.bin .sub (.len (.ex (.var 1))) (.bin .mul (.int 3) (.var 2))) (.int 1))) (.cons (.asg (.nm 4) (.sl (.var 1) (.some (.var 3)) (.some (.bin .add (.var 3) (.var 2))))) (.cons (.ife (.cmp .eq (.ex (.sl (.var 1) (.some (.var 3)) (.some (.bin .add (.var 3) (.bin .mul (.int 3) (.var 2)))))) (.ex (.bin .mul (.var 4) (.int 3)))) (.cons (.ret (.bl true)) .nil) .nil) .nil))) .nil)) (.cons (.ret (.bl false)) .nil)))
def g_is_trap : Gs := ⟨gls, [("is_name", 1, m_is_name), ("is_value", 1, m_is_value), ("split_query", 1, m_split_query), ("is_query", 1, m_is_query), ("is_address", 1, m_is_address), ("require_address", 1, m_require_address), ("segments_of", 1, m_segments_of)], bls, sbT sbl, atT atl, hsl⟩
def m_is_trap : List D → Rs D := mDef g_is_trap 5 t_is_trap
theorem ck_is_trap : (Ck.mk g_is_trap n_is_trap (defScope s_is_trap) true true).ss t_is_trap (defBody s_is_trap) = true := by decide +kernel
theorem sc_is_trap : FnScope n_is_trap ["address"] (defScope s_is_trap) := ⟨rfl, rfl, rfl, by decide +kernel, rfl, by decide +kernel, by decide +kernel⟩
abbrev s_l_numbers : Stmt := top 20
def n_l_numbers : List Str := ["_law_cell", "_law_salt", "_law_sizes", "_law_number", "_law_left", "_law_result", "_law_k", "_law_one"]
def t_l_numbers : Ss := (.cons (.asg (.nm 3) (.bi .max2 (.cons (.var 0) (.cons (.bin .sub (.neg (.int 1)) (.var 0)) .nil)))) (.cons (.asg (.nm 4) (.var 3)) (.cons (.own 5 .nil) (.cons (.for (.nm 6) (.r1 (.len (.ex (.var 2)))) (.cons (.ife (.and (.cmp .ge (.ex (.var 3)) (.ex (.bin .pow (.int 10) (.int 18)))) (.cmp .gt (.ex (.var 4)) (.ex (.int 0)))) (.cons (.app 5 (.bin .mod (.var 4) (.ix (.var 2) (.var 6)))) (.cons (.asg (.nm 4) (.bin .fdiv (.var 4) (.ix (.var 2) (.var 6)))) .nil)) (.cons (.asg (.nm 7) (.bin .mod (.bin .pow (.bin .add (.bin .add (.bin .mod (.var 3) (.int 2147483629)) (.bin .mul (.int 7919) (.var 1))) (.int 1)) (.int 3)) (.int 2147483647))) (.cons (.asg (.nm 7) (.bin .mod (.bin .mul (.bin .add (.var 7) (.bin .mul (.int 104729) (.bin .add (.var 6) (.int 1)))) (.bin .add (.var 6) (.int 3))) (.int 2147483629))) (.cons (.asg (.nm 7) (.bin .mod (.bin .mul (.bin .mod (.bin .pow (.var 7) (.int 5)) (.int 2147483647)) (.int 48271)) (.int 2147483629))) (.cons (.app 5 (.bin .mod (.bin .fdiv (.var 7) (.int 16)) (.ix (.var 2) (.var 6)))) .nil))))) .nil)) (.frz 5 (.cons (.ret (.var 5)) .nil))))))
def g_l_numbers : Gs := ⟨gls, [("is_name", 1, m_is_name), ("is_value", 1, m_is_value), ("split_query", 1, m_split_query), ("is_query", 1, m_is_query), ("is_address", 1, m_is_address), ("require_address", 1, m_require_address), ("segments_of", 1, m_segments_of), ("is_trap", 1, m_is_trap)], bls, sbT sbl, atT atl, hsl⟩
def m_l_numbers : List D → Rs D := mDef g_l_numbers 8 t_l_numbers
theorem ck_l_numbers : (Ck.mk g_l_numbers n_l_numbers (defScope s_l_numbers) true true).ss t_l_numbers (defBody s_l_numbers) = true := by decide +kernel
theorem sc_l_numbers : FnScope n_l_numbers ["_law_cell", "_law_salt", "_law_sizes"] (defScope s_l_numbers) := ⟨rfl, rfl, rfl, by decide +kernel, rfl, by decide +kernel, by decide +kernel⟩
abbrev s_l_segments : Stmt := top 21
def n_l_segments : List Str := ["_law_digits", "_law_names", "_law_run", "_law_j", "_law_way", "_law_last"]
def t_l_segments : Ss := (.cons (.asg (.nm 1) (.ix (.lst (.cons (.lst (.cons (.str "x") (.cons (.str "y") (.cons (.str "xx") .nil)))) (.cons (.lst (.cons (.str "a") (.cons (.str "b") (.cons (.str "a") .nil)))) .nil))) (.bin .mod (.ix (.var 0) (.int 0)) (.int 2)))) (.cons (.ownLc 2 (.nm 3) [3] (.r1 (.bin .add (.int 1) (.bin .mod (.ix (.var 0) (.int 1)) (.int 2)))) .none (.ix (.var 1) (.bin .mod (.ix (.var 0) (.bin .add (.int 2) (.var 3))) (.int 3)))) (.frz 2 (.cons (.asg (.nm 4) (.bin .mod (.ix (.var 0) (.int 4)) (.int 4))) (.cons (.ife (.cmp .eq (.ex (.var 4)) (.ex (.int 0))) (.cons (.ret (.lc (.nm 3) [3] (.r1 (.bin .mod (.ix (.var 0) (.int 11)) (.int 7))) .none (.ix (.var 1) (.bin .mod (.ix (.var 0) (.bin .add (.int 5) (.var 3))) (.int 3))))) .nil) .nil) (.cons (.ife (.cmp .eq (.ex (.var 4)) (.ex (.int 1))) (.cons (.ret (.sl (.bin .mul (.var 2) (.int 3)) .none (.some (.int 6)))) .nil) .nil) (.cons (.ife (.cmp .eq (.ex (.var 4)) (.ex (.int 2))) (.cons (.ret (.sl (.bin .add (.bin .add (.bin .mul (.var 2) (.int 2)) (.lst (.cons (.ix (.var 1) (.bin .mod (.ix (.var 0) (.int 5)) (.int 3))) .nil))) (.var 2)) .none (.some (.int 6)))) .nil) .nil) (.cons (.asg (.nm 5) (.bin .mul (.lst (.cons (.ix (.var 1) (.bin .mod (.ix (.var 0) (.int 7)) (.int 3))) .nil)) (.bin .mod (.ix (.var 0) (.int 8)) (.int 3)))) (.cons (.ret (.sl (.bin .add (.bin .add (.lst (.cons (.ix (.var 1) (.bin .mod (.ix (.var 0) (.int 5)) (.int 3))) .nil)) (.bin .mul (.sl (.var 2) .none (.some (.int 1))) (.bin .add (.int 1) (.bin .mod (.ix (.var 0) (.int 6)) (.int 3))))) (.var 5)) .none (.some (.int 6)))) .nil)))))))))
def g_l_segments : Gs := ⟨gls, [("is_name", 1, m_is_name), ("is_value", 1, m_is_value), ("split_query", 1, m_split_query), ("is_query", 1, m_is_query), ("is_address", 1, m_is_address), ("require_address", 1, m_require_address), ("segments_of", 1, m_segments_of), ("is_trap", 1, m_is_trap), ("_law_numbers", 3, m_l_numbers)], bls, sbT sbl, atT atl, hsl⟩
def m_l_segments : List D → Rs D := mDef g_l_segments 6 t_l_segments
theorem ck_l_segments : (Ck.mk g_l_segments n_l_segments (defScope s_l_segments) true true).ss t_l_segments (defBody s_l_segments) = true := by decide +kernel
theorem sc_l_segments : FnScope n_l_segments ["_law_digits"] (defScope s_l_segments) := ⟨rfl, rfl, rfl, by decide +kernel, rfl, by decide +kernel, by decide +kernel⟩
abbrev s_l_want : Stmt := top 22
def n_l_want : List Str := ["_law_segments_here", "_law_size", "_law_start", "_law_some"]
def t_l_want : Ss := (.cons (.for (.nm 1) (.val (.lst (.cons (.int 1) (.cons (.int 2) .nil)))) (.cons (.for (.nm 2) (.r1 (.bin .sub (.int 7) (.bin .mul (.int 3) (.var 1)))) (.cons (.asg (.nm 3) (.sl (.var 0) (.some (.var 2)) (.some (.bin .add (.var 2) (.bin .mul (.int 3) (.var 1)))))) (.cons (.ife (.and (.cmp .eq (.ex (.len (.ex (.var 3)))) (.ex (.bin .mul (.int 3) (.var 1)))) (.and (.cmp .eq (.ex (.sl (.var 3) .none (.some (.var 1)))) (.ex (.sl (.var 3) (.some (.var 1)) (.some (.bin .mul (.int 2) (.var 1)))))) (.cmp .eq (.ex (.sl (.var 3) .none (.some (.var 1)))) (.ex (.sl (.var 3) (.some (.bin .mul (.int 2) (.var 1))) .none))))) (.cons (.ret (.bl true)) .nil) .nil) .nil))) .nil)) (.cons (.ret (.bl false)) .nil))
def g_l_want : Gs := ⟨gls, [("is_name", 1, m_is_name), ("is_value", 1, m_is_value), ("split_query", 1, m_split_query), ("is_query", 1, m_is_query), ("is_address", 1, m_is_address), ("require_address", 1, m_require_address), ("segments_of", 1, m_segments_of), ("is_trap", 1, m_is_trap), ("_law_numbers", 3, m_l_numbers), ("_law_segments", 1, m_l_segments)], bls, sbT sbl, atT atl, hsl⟩
def m_l_want : List D → Rs D := mDef g_l_want 4 t_l_want
theorem ck_l_want : (Ck.mk g_l_want n_l_want (defScope s_l_want) true true).ss t_l_want (defBody s_l_want) = true := by decide +kernel
theorem sc_l_want : FnScope n_l_want ["_law_segments_here"] (defScope s_l_want) := ⟨rfl, rfl, rfl, by decide +kernel, rfl, by decide +kernel, by decide +kernel⟩
abbrev s_l_error : Stmt := top 23
def n_l_error : List Str := ["_law_value", "_law_result", "e"]
def t_l_error : Ss := (.cons (.asg (.nm 1) .non) (.cons (.try 2 "InvalidAddress" (.cons (.exp (.call 7 (.cons (.var 0) .nil))) .nil) (.cons (.asg (.nm 1) (.lst (.cons (.bi .repr (.cons (.xat 2 "value") .nil)) (.cons (.xis 2 "ArchiveError") (.cons (.xis 2 "InvalidContent") .nil))))) .nil)) (.cons (.ret (.var 1)) .nil)))
def g_l_error : Gs := ⟨gls, [("is_name", 1, m_is_name), ("is_value", 1, m_is_value), ("split_query", 1, m_split_query), ("is_query", 1, m_is_query), ("is_address", 1, m_is_address), ("require_address", 1, m_require_address), ("segments_of", 1, m_segments_of), ("is_trap", 1, m_is_trap), ("_law_numbers", 3, m_l_numbers), ("_law_segments", 1, m_l_segments), ("_law_want", 1, m_l_want)], bls, sbT sbl, atT atl, hsl⟩
def m_l_error : List D → Rs D := mDef g_l_error 3 t_l_error
theorem ck_l_error : (Ck.mk g_l_error n_l_error (defScope s_l_error) true true).ss t_l_error (defBody s_l_error) = true := by decide +kernel
theorem sc_l_error : FnScope n_l_error ["_law_value"] (defScope s_l_error) := ⟨rfl, rfl, rfl, by decide +kernel, rfl, by decide +kernel, by decide +kernel⟩
abbrev s_law : Stmt := top 24
def n_law : List Str := ["_law_script", "_law_k", "_law_cell", "_law_digits", "_law_segments_here", "_law_want_here", "_law_host", "_law_address", "_law_query", "_law_value"]
def t_law : Ss := (.cons (.for (.tp [1, 2]) (.enum (.bin .add (.sl (.var 0) .none (.some (.int 20))) (.bin .mul (.lst (.cons (.int 7) .nil)) (.ti .int (.cons (.cmp .eq (.ex (.var 0)) (.ex (.lst .nil))) .nil))))) (.cons (.asg (.nm 3) (.call 8 (.cons (.var 2) (.cons (.bin .add (.int 4600) (.var 1)) (.cons (.bin .mul (.lst (.cons (.int 420) .nil)) (.int 16)) .nil))))) (.cons (.asg (.nm 4) (.call 9 (.cons (.var 3) .nil))) (.cons (.asg (.nm 5) (.bi .repr (.cons (.call 10 (.cons (.var 4) .nil)) .nil))) (.cons (.for (.nm 6) (.val (.lst (.cons (.str "a") (.cons (.str "x") (.cons (.str "host") .nil))))) (.cons (.asg (.nm 7) (.mt .join (.str "/") (.cons (.bin .add (.lst (.cons (.var 6) .nil)) (.var 4)) .nil))) (.cons (.for (.nm 8) (.val (.lst (.cons (.str "") (.cons (.str "?x=x") (.cons (.str "?x=x&y=x&a=x") .nil))))) (.cons (.ife (.cmp .ne (.ex (.bi .repr (.cons (.call 7 (.cons (.bin .add (.var 7) (.var 8)) .nil)) .nil))) (.ex (.var 5))) (.cons (.ret (.bl false)) .nil) .nil) .nil)) .nil))) .nil))))) (.cons (.for (.nm 9) (.val (.lst (.cons .non (.cons (.str "") (.cons (.str "a/x/x/x/") (.cons (.str "A/x/x/x") (.cons (.str "a/x/x/x?") (.cons (.int 5) (.cons (.lst (.cons (.str "a") .nil)) (.cons (.tup (.cons (.str "a") (.cons (.str "x") .nil))) (.cons (.str "a/x/x/x/x/x/x/x") (.cons (.str "a x") .nil)))))))))))) (.cons (.ife (.cmp .ne (.ex (.call 11 (.cons (.var 9) .nil))) (.ex (.lst (.cons (.bi .repr (.cons (.var 9) .nil)) (.cons (.bl true) (.cons (.bl false) .nil)))))) (.cons (.ret (.bl false)) .nil) .nil) .nil)) (.cons (.ret (.bl true)) .nil)))
def g_law : Gs := ⟨gls, [("is_name", 1, m_is_name), ("is_value", 1, m_is_value), ("split_query", 1, m_split_query), ("is_query", 1, m_is_query), ("is_address", 1, m_is_address), ("require_address", 1, m_require_address), ("segments_of", 1, m_segments_of), ("is_trap", 1, m_is_trap), ("_law_numbers", 3, m_l_numbers), ("_law_segments", 1, m_l_segments), ("_law_want", 1, m_l_want), ("_law_error", 1, m_l_error)], bls, sbT sbl, atT atl, hsl⟩
def m_law : List D → Rs D := mDef g_law 10 t_law
theorem ck_law : (Ck.mk g_law n_law (defScope s_law) true true).ss t_law (defBody s_law) = true := by decide +kernel
theorem sc_law : FnScope n_law ["_law_script"] (defScope s_law) := ⟨rfl, rfl, rfl, by decide +kernel, rfl, by decide +kernel, by decide +kernel⟩
theorem all {P : Program} {w : World} {K : PySem.W.Frag} {h : Heap} {mg : Str → Option Value} {fa C_InvalidAddress C_ArchiveError C_InvalidContent I_InvalidAddress ais_name ais_value asplit_query ais_query ais_address arequire_address asegments_of ais_trap al_numbers al_segments al_want al_error alaw : Addr} {o_InvalidAddress : Obj} {od_InvalidAddress an_InvalidAddress odis_name anis_name odis_value anis_value odsplit_query ansplit_query odis_query anis_query odis_address anis_address odrequire_address anrequire_address odsegments_of ansegments_of odis_trap anis_trap odl_numbers anl_numbers odl_segments anl_segments odl_want anl_want odl_error anl_error odlaw anlaw : Option Addr} {sl_InvalidAddress slis_name slis_value slsplit_query slis_query slis_address slrequire_address slsegments_of slis_trap sll_numbers sll_segments sll_want sll_error sllaw : Array (Option Value)} {oc_InvalidAddress0 kV_InvalidAddress dc_InvalidAddress pm_InvalidAddress cd_InvalidAddress ct_InvalidAddress ocis_name kVis_name dcis_name pmis_name cdis_name ctis_name ocis_value kVis_value dcis_value pmis_value cdis_value ctis_value ocsplit_query kVsplit_query dcsplit_query pmsplit_query cdsplit_query ctsplit_query ocis_query kVis_query dcis_query pmis_query cdis_query ctis_query ocis_address kVis_address dcis_address pmis_address cdis_address ctis_address ocrequire_address kVrequire_address dcrequire_address pmrequire_address cdrequire_address ctrequire_address ocsegments_of kVsegments_of dcsegments_of pmsegments_of cdsegments_of ctsegments_of ocis_trap kVis_trap dcis_trap pmis_trap cdis_trap ctis_trap ocl_numbers kVl_numbers dcl_numbers pml_numbers cdl_numbers ctl_numbers ocl_segments kVl_segments dcl_segments pml_segments cdl_segments ctl_segments ocl_want kVl_want dcl_want pml_want cdl_want ctl_want ocl_error kVl_error dcl_error pml_error cdl_error ctl_error oclaw kVlaw dclaw pmlaw cdlaw ctlaw : Value} {tk_LETTERS tk_DIGITS tk_MAX_LENGTH tk_MAX_SEGMENTS tk_MAX_PARAMETERS : Tok} (X : K.In h) (G : h.Ns mainGlobals mg) (hfa : mg "law" = some (.ref fa))
    (a_InvalidAddress : PySem.W.nsIn K mainGlobals "InvalidAddress" = some (some (.ref C_InvalidAddress)))
    (a_ArchiveError : PySem.W.nsIn K mainGlobals "ArchiveError" = some (some (.ref C_ArchiveError)))
    (a_InvalidContent : PySem.W.nsIn K mainGlobals "InvalidContent" = some (some (.ref C_InvalidContent)))
    (sx_InvalidAddress : PySem.W.subIn K (.ref C_InvalidAddress) (.type "BaseException") = some true)
    (ty_InvalidAddress : PySem.W.typeIn K (.ref C_InvalidAddress) = some (.type "type"))
    (ic_InvalidAddress : PySem.W.isClsIn K C_InvalidAddress = true)
    (sx_ArchiveError : PySem.W.subIn K (.ref C_ArchiveError) (.type "BaseException") = some true)
    (ty_ArchiveError : PySem.W.typeIn K (.ref C_ArchiveError) = some (.type "type"))
    (ic_ArchiveError : PySem.W.isClsIn K C_ArchiveError = true)
    (sx_InvalidContent : PySem.W.subIn K (.ref C_InvalidContent) (.type "BaseException") = some true)
    (ty_InvalidContent : PySem.W.typeIn K (.ref C_InvalidContent) = some (.type "type"))
    (ic_InvalidContent : PySem.W.isClsIn K C_InvalidContent = true)
    (og : PySem.W.specialIn K (.builtin "object.__class__") "__get__" = some (some (.builtin "getset_descriptor.__get__")))
    (ot : PySem.W.takesIn K (.builtin "object.__class__") = some true)
    (lo_InvalidAddress : K.lookup C_InvalidAddress = some o_InvalidAddress)
    (oe_InvalidAddress : (PySem.W.excInitIn [(C_InvalidAddress, o_InvalidAddress)] C_InvalidAddress (Bs.tail .exc) (Bs.new .exc) && PySem.W.excOver [(C_InvalidAddress, o_InvalidAddress)] C_InvalidAddress (Bs.tail .exc)) = true)
    (hd_InvalidAddress : PySem.W.hasDictIn K C_InvalidAddress = true)
    (tk0_InvalidAddress : PySem.W.takerIn K C_InvalidAddress "value" = some none)
    (sa_InvalidAddress : PySem.W.findIn K (.ref C_InvalidAddress) "__setattr__" = some (some (.builtin "object.__setattr__")))
    (kc_InvalidAddress : PySem.W.keepIn K (.ref C_InvalidAddress) = true)
    (q1_InvalidAddress : PySem.W.findIn K (.ref C_InvalidAddress) "__getattribute__" = some (some (.builtin "BaseException.__getattribute__")))
    (q2_InvalidAddress : PySem.W.findIn K (.ref C_InvalidAddress) "__getattr__" = some none)
    (q3_InvalidAddress : PySem.W.findIn K (.ref C_InvalidAddress) "__class__" = some (some (.builtin "object.__class__")))
    (q4_InvalidAddress : PySem.W.mroIn K C_InvalidAddress (.type "object") = some true)
    (q5_InvalidAddress : PySem.W.findIn K (.ref C_InvalidAddress) "value" = some none)
    (i_InvalidAddress : PySem.W.findIn K (.ref C_InvalidAddress) "__init__" = some (some (.ref I_InvalidAddress)))
    (f_InvalidAddress : PySem.W.isFn K (.ref I_InvalidAddress) = true)
    (l_InvalidAddress : K.lookup I_InvalidAddress = some ⟨oc_InvalidAddress0, od_InvalidAddress, .func (PySem.W.fnOf "__init__" "InvalidAddress.__init__" (defArgs (inClass (top 2) 0)) (defBody (inClass (top 2) 0)) (defScope (inClass (top 2) 0)) .none kV_InvalidAddress dc_InvalidAddress pm_InvalidAddress an_InvalidAddress cd_InvalidAddress ct_InvalidAddress), sl_InvalidAddress⟩)
    (c_InvalidAddress : PySem.W.codeIn K cd_InvalidAddress "InvalidAddress.__init__" = true)
    (k_InvalidAddress : PySem.W.keepIn K (.ref I_InvalidAddress) = true)
    (rd_ArchiveError : PySem.W.readsIn K C_ArchiveError (.type "type") = true)
    (ga_ArchiveError : PySem.W.specialIn K (.ref C_ArchiveError) "__getattribute__" = some (some (.builtin "type.__getattribute__")))
    (v_ArchiveError : PySem.W.findCls K (.ref C_ArchiveError) (.type "type") "__init__" = some (.val (.builtin "Exception.__init__")))
    (e0 : PySem.W.subIn K (.ref C_InvalidAddress) (.ref C_ArchiveError) = some true)
    (t0 : (Value.ref C_InvalidAddress == Value.ref C_ArchiveError) = false)
    (e1 : PySem.W.subIn K (.ref C_InvalidAddress) (.ref C_InvalidAddress) = some true)
    (e2 : PySem.W.subIn K (.ref C_InvalidAddress) (.ref C_InvalidContent) = some false)
    (t2 : (Value.ref C_InvalidAddress == Value.ref C_InvalidContent) = false)
    (g_LETTERS : PySem.W.nsIn K mainGlobals "LETTERS" = some (some (.str "abcdefghijklmnopqrstuvwxyz" tk_LETTERS)))
    (g_DIGITS : PySem.W.nsIn K mainGlobals "DIGITS" = some (some (.str "0123456789" tk_DIGITS)))
    (g_MAX_LENGTH : PySem.W.nsIn K mainGlobals "MAX_LENGTH" = some (some (.int 8 tk_MAX_LENGTH)))
    (g_MAX_SEGMENTS : PySem.W.nsIn K mainGlobals "MAX_SEGMENTS" = some (some (.int 6 tk_MAX_SEGMENTS)))
    (g_MAX_PARAMETERS : PySem.W.nsIn K mainGlobals "MAX_PARAMETERS" = some (some (.int 4 tk_MAX_PARAMETERS)))
    (b_all : PySem.W.nsIn K mainGlobals "all" = some none)
    (b_enumerate : PySem.W.nsIn K mainGlobals "enumerate" = some none)
    (b_int : PySem.W.nsIn K mainGlobals "int" = some none)
    (b_isinstance : PySem.W.nsIn K mainGlobals "isinstance" = some none)
    (b_len : PySem.W.nsIn K mainGlobals "len" = some none)
    (b_max : PySem.W.nsIn K mainGlobals "max" = some none)
    (b_range : PySem.W.nsIn K mainGlobals "range" = some none)
    (b_repr : PySem.W.nsIn K mainGlobals "repr" = some none)
    (b_str : PySem.W.nsIn K mainGlobals "str" = some none)
    (a_is_name : PySem.W.nsIn K mainGlobals "is_name" = some (some (.ref ais_name)))
    (l_is_name : K.lookup ais_name = some ⟨ocis_name, odis_name, .func (PySem.W.fnOf "is_name" "is_name" (defArgs s_is_name) (defBody s_is_name) (defScope s_is_name) .none kVis_name dcis_name pmis_name anis_name cdis_name ctis_name), slis_name⟩)
    (c_is_name : PySem.W.codeIn K cdis_name "is_name" = true)
    (k_is_name : PySem.W.keepIn K (.ref ais_name) = true)
    (a_is_value : PySem.W.nsIn K mainGlobals "is_value" = some (some (.ref ais_value)))
    (l_is_value : K.lookup ais_value = some ⟨ocis_value, odis_value, .func (PySem.W.fnOf "is_value" "is_value" (defArgs s_is_value) (defBody s_is_value) (defScope s_is_value) .none kVis_value dcis_value pmis_value anis_value cdis_value ctis_value), slis_value⟩)
    (c_is_value : PySem.W.codeIn K cdis_value "is_value" = true)
    (k_is_value : PySem.W.keepIn K (.ref ais_value) = true)
    (a_split_query : PySem.W.nsIn K mainGlobals "split_query" = some (some (.ref asplit_query)))
    (l_split_query : K.lookup asplit_query = some ⟨ocsplit_query, odsplit_query, .func (PySem.W.fnOf "split_query" "split_query" (defArgs s_split_query) (defBody s_split_query) (defScope s_split_query) .none kVsplit_query dcsplit_query pmsplit_query ansplit_query cdsplit_query ctsplit_query), slsplit_query⟩)
    (c_split_query : PySem.W.codeIn K cdsplit_query "split_query" = true)
    (k_split_query : PySem.W.keepIn K (.ref asplit_query) = true)
    (a_is_query : PySem.W.nsIn K mainGlobals "is_query" = some (some (.ref ais_query)))
    (l_is_query : K.lookup ais_query = some ⟨ocis_query, odis_query, .func (PySem.W.fnOf "is_query" "is_query" (defArgs s_is_query) (defBody s_is_query) (defScope s_is_query) .none kVis_query dcis_query pmis_query anis_query cdis_query ctis_query), slis_query⟩)
    (c_is_query : PySem.W.codeIn K cdis_query "is_query" = true)
    (k_is_query : PySem.W.keepIn K (.ref ais_query) = true)
    (a_is_address : PySem.W.nsIn K mainGlobals "is_address" = some (some (.ref ais_address)))
    (l_is_address : K.lookup ais_address = some ⟨ocis_address, odis_address, .func (PySem.W.fnOf "is_address" "is_address" (defArgs s_is_address) (defBody s_is_address) (defScope s_is_address) .none kVis_address dcis_address pmis_address anis_address cdis_address ctis_address), slis_address⟩)
    (c_is_address : PySem.W.codeIn K cdis_address "is_address" = true)
    (k_is_address : PySem.W.keepIn K (.ref ais_address) = true)
    (a_require_address : PySem.W.nsIn K mainGlobals "require_address" = some (some (.ref arequire_address)))
    (l_require_address : K.lookup arequire_address = some ⟨ocrequire_address, odrequire_address, .func (PySem.W.fnOf "require_address" "require_address" (defArgs s_require_address) (defBody s_require_address) (defScope s_require_address) .none kVrequire_address dcrequire_address pmrequire_address anrequire_address cdrequire_address ctrequire_address), slrequire_address⟩)
    (c_require_address : PySem.W.codeIn K cdrequire_address "require_address" = true)
    (k_require_address : PySem.W.keepIn K (.ref arequire_address) = true)
    (a_segments_of : PySem.W.nsIn K mainGlobals "segments_of" = some (some (.ref asegments_of)))
    (l_segments_of : K.lookup asegments_of = some ⟨ocsegments_of, odsegments_of, .func (PySem.W.fnOf "segments_of" "segments_of" (defArgs s_segments_of) (defBody s_segments_of) (defScope s_segments_of) .none kVsegments_of dcsegments_of pmsegments_of ansegments_of cdsegments_of ctsegments_of), slsegments_of⟩)
    (c_segments_of : PySem.W.codeIn K cdsegments_of "segments_of" = true)
    (k_segments_of : PySem.W.keepIn K (.ref asegments_of) = true)
    (a_is_trap : PySem.W.nsIn K mainGlobals "is_trap" = some (some (.ref ais_trap)))
    (l_is_trap : K.lookup ais_trap = some ⟨ocis_trap, odis_trap, .func (PySem.W.fnOf "is_trap" "is_trap" (defArgs s_is_trap) (defBody s_is_trap) (defScope s_is_trap) .none kVis_trap dcis_trap pmis_trap anis_trap cdis_trap ctis_trap), slis_trap⟩)
    (c_is_trap : PySem.W.codeIn K cdis_trap "is_trap" = true)
    (k_is_trap : PySem.W.keepIn K (.ref ais_trap) = true)
    (a_l_numbers : PySem.W.nsIn K mainGlobals "_law_numbers" = some (some (.ref al_numbers)))
    (l_l_numbers : K.lookup al_numbers = some ⟨ocl_numbers, odl_numbers, .func (PySem.W.fnOf "_law_numbers" "_law_numbers" (defArgs s_l_numbers) (defBody s_l_numbers) (defScope s_l_numbers) .none kVl_numbers dcl_numbers pml_numbers anl_numbers cdl_numbers ctl_numbers), sll_numbers⟩)
    (c_l_numbers : PySem.W.codeIn K cdl_numbers "_law_numbers" = true)
    (k_l_numbers : PySem.W.keepIn K (.ref al_numbers) = true)
    (a_l_segments : PySem.W.nsIn K mainGlobals "_law_segments" = some (some (.ref al_segments)))
    (l_l_segments : K.lookup al_segments = some ⟨ocl_segments, odl_segments, .func (PySem.W.fnOf "_law_segments" "_law_segments" (defArgs s_l_segments) (defBody s_l_segments) (defScope s_l_segments) .none kVl_segments dcl_segments pml_segments anl_segments cdl_segments ctl_segments), sll_segments⟩)
    (c_l_segments : PySem.W.codeIn K cdl_segments "_law_segments" = true)
    (k_l_segments : PySem.W.keepIn K (.ref al_segments) = true)
    (a_l_want : PySem.W.nsIn K mainGlobals "_law_want" = some (some (.ref al_want)))
    (l_l_want : K.lookup al_want = some ⟨ocl_want, odl_want, .func (PySem.W.fnOf "_law_want" "_law_want" (defArgs s_l_want) (defBody s_l_want) (defScope s_l_want) .none kVl_want dcl_want pml_want anl_want cdl_want ctl_want), sll_want⟩)
    (c_l_want : PySem.W.codeIn K cdl_want "_law_want" = true)
    (k_l_want : PySem.W.keepIn K (.ref al_want) = true)
    (a_l_error : PySem.W.nsIn K mainGlobals "_law_error" = some (some (.ref al_error)))
    (l_l_error : K.lookup al_error = some ⟨ocl_error, odl_error, .func (PySem.W.fnOf "_law_error" "_law_error" (defArgs s_l_error) (defBody s_l_error) (defScope s_l_error) .none kVl_error dcl_error pml_error anl_error cdl_error ctl_error), sll_error⟩)
    (c_l_error : PySem.W.codeIn K cdl_error "_law_error" = true)
    (k_l_error : PySem.W.keepIn K (.ref al_error) = true)
    (a_law : PySem.W.nsIn K mainGlobals "law" = some (some (.ref alaw)))
    (l_law : K.lookup alaw = some ⟨oclaw, odlaw, .func (PySem.W.fnOf "law" "law" (defArgs s_law) (defBody s_law) (defScope s_law) .none kVlaw dclaw pmlaw anlaw cdlaw ctlaw), sllaw⟩)
    (c_law : PySem.W.codeIn K cdlaw "law" = true)
    (k_law : PySem.W.keepIn K (.ref alaw) = true) :
    ∃ fd : FuncData, (∀ (s : Shared) (u : Value), BindsTo s fd ⟨[u], []⟩ [("_law_script", u)]) ∧ ∀ base : Heap, K.In base → base.Ns mainGlobals mg → FnG P w K mg base 15 fa fd ["_law_script"] (spF K mg 1 m_law) := by
  cases hfa.symm.trans (PySem.W.mg_of X G a_law)
  have F_is_name := fun_mk (st := s_is_name) l_is_name c_is_name k_is_name
  have B_is_name := F_is_name.binds (ps := ["value"]) fun _ _ _ _ _ _ us hl => match us, hl with | [_], _ => rfl
  have F_is_value := fun_mk (st := s_is_value) l_is_value c_is_value k_is_value
  have B_is_value := F_is_value.binds (ps := ["text"]) fun _ _ _ _ _ _ us hl => match us, hl with | [_], _ => rfl
  have F_split_query := fun_mk (st := s_split_query) l_split_query c_split_query k_split_query
  have B_split_query := F_split_query.binds (ps := ["text"]) fun _ _ _ _ _ _ us hl => match us, hl with | [_], _ => rfl
  have F_is_query := fun_mk (st := s_is_query) l_is_query c_is_query k_is_query
  have B_is_query := F_is_query.binds (ps := ["text"]) fun _ _ _ _ _ _ us hl => match us, hl with | [_], _ => rfl
  have F_is_address := fun_mk (st := s_is_address) l_is_address c_is_address k_is_address
  have B_is_address := F_is_address.binds (ps := ["value"]) fun _ _ _ _ _ _ us hl => match us, hl with | [_], _ => rfl
  have F_require_address := fun_mk (st := s_require_address) l_require_address c_require_address k_require_address
  have B_require_address := F_require_address.binds (ps := ["value"]) fun _ _ _ _ _ _ us hl => match us, hl with | [_], _ => rfl
  have F_segments_of := fun_mk (st := s_segments_of) l_segments_of c_segments_of k_segments_of
  have B_segments_of := F_segments_of.binds (ps := ["address"]) fun _ _ _ _ _ _ us hl => match us, hl with | [_], _ => rfl
  have F_is_trap := fun_mk (st := s_is_trap) l_is_trap c_is_trap k_is_trap
  have B_is_trap := F_is_trap.binds (ps := ["address"]) fun _ _ _ _ _ _ us hl => match us, hl with | [_], _ => rfl
  have F_l_numbers := fun_mk (st := s_l_numbers) l_l_numbers c_l_numbers k_l_numbers
  have B_l_numbers := F_l_numbers.binds (ps := ["_law_cell", "_law_salt", "_law_sizes"]) fun _ _ _ _ _ _ us hl => match us, hl with | [_, _, _], _ => rfl
  have F_l_segments := fun_mk (st := s_l_segments) l_l_segments c_l_segments k_l_segments
  have B_l_segments := F_l_segments.binds (ps := ["_law_digits"]) fun _ _ _ _ _ _ us hl => match us, hl with | [_], _ => rfl
  have F_l_want := fun_mk (st := s_l_want) l_l_want c_l_want k_l_want
  have B_l_want := F_l_want.binds (ps := ["_law_segments_here"]) fun _ _ _ _ _ _ us hl => match us, hl with | [_], _ => rfl
  have F_l_error := fun_mk (st := s_l_error) l_l_error c_l_error k_l_error
  have B_l_error := F_l_error.binds (ps := ["_law_value"]) fun _ _ _ _ _ _ us hl => match us, hl with | [_], _ => rfl
  have F_law := fun_mk (st := s_law) l_law c_law k_law
  have B_law := F_law.binds (ps := ["_law_script"]) fun _ _ _ _ _ _ us hl => match us, hl with | [_], _ => rfl
  have FI_InvalidAddress := fun_mk (st := inClass (top 2) 0) l_InvalidAddress c_InvalidAddress k_InvalidAddress
  have BI_InvalidAddress := FI_InvalidAddress.binds (ps := ["self", "value"]) fun _ _ _ _ _ _ us hl => match us, hl with | [_, _], _ => rfl
  refine ⟨PySem.W.fnOf "law" "law" (defArgs s_law) (defBody s_law) (defScope s_law) .none kVlaw dclaw pmlaw anlaw cdlaw ctlaw, fun s u => .of_eq rfl, fun base _ _ => ?_⟩
  have G0 : Glo P w K mg base 2 g_is_name := by
    refine Glo.init (gl := gls) (bs := bls) (hs := hsl) (sb := sbl) (at_ := atl) ?_ ?_ ?_ ?_ ?_
    · intro p hp
      simp only [gls, List.mem_cons, List.not_mem_nil, or_false] at hp
      rcases hp with rfl | rfl | rfl | rfl | rfl
      · exact gl_str (PySem.W.mg_of X G g_LETTERS) (by decide +kernel) (by decide +kernel)
      · exact gl_str (PySem.W.mg_of X G g_DIGITS) (by decide +kernel) (by decide +kernel)
      · exact gl_int (PySem.W.mg_of X G g_MAX_LENGTH)
      · exact gl_int (PySem.W.mg_of X G g_MAX_SEGMENTS)
      · exact gl_int (PySem.W.mg_of X G g_MAX_PARAMETERS)
    · intro p hp
      simp only [bls, List.mem_cons, List.not_mem_nil, or_false] at hp
      rcases hp with rfl | rfl | rfl | rfl | rfl | rfl | rfl | rfl | rfl
      · exact PySem.W.mg_none_of X G b_all
      · exact PySem.W.mg_none_of X G b_enumerate
      · exact PySem.W.mg_none_of X G b_int
      · exact PySem.W.mg_none_of X G b_isinstance
      · exact PySem.W.mg_none_of X G b_len
      · exact PySem.W.mg_none_of X G b_max
      · exact PySem.W.mg_none_of X G b_range
      · exact PySem.W.mg_none_of X G b_repr
      · exact PySem.W.mg_none_of X G b_str
    · intro p hp
      simp only [sbl, List.mem_cons, List.not_mem_nil, or_false] at hp
      rcases hp with rfl | rfl | rfl
      · exact sub_ne (PySem.W.mg_of X G a_InvalidAddress) (PySem.W.mg_of X G a_ArchiveError) sx_ArchiveError ic_ArchiveError ty_ArchiveError e0 t0
      · exact sub_self (PySem.W.mg_of X G a_InvalidAddress) sx_InvalidAddress ic_InvalidAddress ty_InvalidAddress e1
      · exact sub_ne (PySem.W.mg_of X G a_InvalidAddress) (PySem.W.mg_of X G a_InvalidContent) sx_InvalidContent ic_InvalidContent ty_InvalidContent e2 t2
    · intro p hp
      simp only [atl, List.mem_cons, List.not_mem_nil, or_false] at hp
      rcases hp with rfl
      · exact ⟨⟨_, PySem.W.mg_of X G a_InvalidAddress, ⟨q1_InvalidAddress, q2_InvalidAddress, sx_InvalidAddress, hd_InvalidAddress, q3_InvalidAddress, og, ot, q4_InvalidAddress, q5_InvalidAddress⟩⟩, cls_own (PySem.W.mg_of X G a_InvalidAddress) (oc_mk lo_InvalidAddress oe_InvalidAddress hd_InvalidAddress tk0_InvalidAddress sa_InvalidAddress sx_InvalidAddress ty_InvalidAddress kc_InvalidAddress) i_InvalidAddress f_InvalidAddress FI_InvalidAddress ⟨rfl, rfl, rfl, by decide +kernel, rfl, by decide +kernel, by decide +kernel⟩ (BaseIs.own (PySem.W.mg_of X G a_ArchiveError) ⟨rd_ArchiveError, ga_ArchiveError⟩ v_ArchiveError (by decide +kernel)) rfl rfl rfl (by decide +kernel) (by decide +kernel) (fun _ => ⟨_, rfl⟩) rfl BI_InvalidAddress⟩
    · intro p hp
      simp only [hsl, List.mem_cons, List.not_mem_nil, or_false] at hp
      rcases hp with rfl
      · exact ⟨_, .inl (PySem.W.mg_of X G a_InvalidAddress)⟩
  have G1 : Glo P w K mg base 3 g_is_value := Glo.step G0 (fnG_def F_is_name sc_is_name G0 ck_is_name) (PySem.W.mg_of X G a_is_name) k_is_name B_is_name
  have G2 : Glo P w K mg base 4 g_split_query := Glo.step G1 (fnG_def F_is_value sc_is_value G1 ck_is_value) (PySem.W.mg_of X G a_is_value) k_is_value B_is_value
  have G3 : Glo P w K mg base 5 g_is_query := Glo.step G2 (fnG_def F_split_query sc_split_query G2 ck_split_query) (PySem.W.mg_of X G a_split_query) k_split_query B_split_query
  have G4 : Glo P w K mg base 6 g_is_address := Glo.step G3 (fnG_def F_is_query sc_is_query G3 ck_is_query) (PySem.W.mg_of X G a_is_query) k_is_query B_is_query
  have G5 : Glo P w K mg base 7 g_require_address := Glo.step G4 (fnG_def F_is_address sc_is_address G4 ck_is_address) (PySem.W.mg_of X G a_is_address) k_is_address B_is_address
  have G6 : Glo P w K mg base 8 g_segments_of := Glo.step G5 (fnG_def F_require_address sc_require_address G5 ck_require_address) (PySem.W.mg_of X G a_require_address) k_require_address B_require_address
  have G7 : Glo P w K mg base 9 g_is_trap := Glo.step G6 (fnG_def F_segments_of sc_segments_of G6 ck_segments_of) (PySem.W.mg_of X G a_segments_of) k_segments_of B_segments_of
  have G8 : Glo P w K mg base 10 g_l_numbers := Glo.step G7 (fnG_def F_is_trap sc_is_trap G7 ck_is_trap) (PySem.W.mg_of X G a_is_trap) k_is_trap B_is_trap
  have G9 : Glo P w K mg base 11 g_l_segments := Glo.step G8 (fnG_def F_l_numbers sc_l_numbers G8 ck_l_numbers) (PySem.W.mg_of X G a_l_numbers) k_l_numbers B_l_numbers
  have G10 : Glo P w K mg base 12 g_l_want := Glo.step G9 (fnG_def F_l_segments sc_l_segments G9 ck_l_segments) (PySem.W.mg_of X G a_l_segments) k_l_segments B_l_segments
  have G11 : Glo P w K mg base 13 g_l_error := Glo.step G10 (fnG_def F_l_want sc_l_want G10 ck_l_want) (PySem.W.mg_of X G a_l_want) k_l_want B_l_want
  have G12 : Glo P w K mg base 14 g_law := Glo.step G11 (fnG_def F_l_error sc_l_error G11 ck_l_error) (PySem.W.mg_of X G a_l_error) k_l_error B_l_error
  exact fnG_def F_law sc_law G12 ck_law
end K46

set_option Elab.async false
set_option linter.all false
set_option maxRecDepth 100000
/-! Names and addresses, on lists of codes. -/
namespace Pf
open PySem PySem.Spec L2

def letter (c : Nat) : Bool := decide (97 ≤ c) && decide (c ≤ 122)
def digit (c : Nat) : Bool := decide (48 ≤ c) && decide (c ≤ 57)
def nameL (l : List Nat) : Bool := decide (1 ≤ l.length) && decide (l.length ≤ 8) && l.all letter
def valueL (l : List Nat) : Bool := decide (l.length ≤ 8) && l.all fun c => letter c || digit c
abbrev LETT : Str := "abcdefghijklmnopqrstuvwxyz"
abbrev DIG : Str := "0123456789"
theorem sub_lett : ∀ c < 128, hasSub (mk [c]) LETT = letter c := by decide +kernel
theorem sub_both : ∀ c < 128, hasSub (mk [c]) (LETT ++ DIG) = (letter c || digit c) := by decide +kernel
/-- the turns of a comprehension without a test, whose members have no exception -/
theorem compL_map {t : Tg} {elt : Sto → Rs D} {ρ0 : Sto} {f : D → D} : ∀ {ds : List D}, (∀ d ∈ ds, ∃ ρ1, asgT t d ρ0 = .ok ρ1 ∧ elt ρ1 = .ok (f d)) → compL t (fun _ => .ok true) elt ρ0 ds = .ok (ds.map f)
  | [], _ => rfl
  | d :: ds, h => by
    obtain ⟨ρ1, h1, h2⟩ := h d (by simp)
    unfold compL
    rw [h1, Rs.bind_ok, show noEx (Rs.ok true) = Rs.ok true from rfl, Rs.bind_ok, if_pos rfl, h2, show noEx (Rs.ok (f d)) = Rs.ok (f d) from rfl, Rs.bind_ok, compL_map fun e he => h e (List.mem_cons_of_mem _ he)]
    rfl
theorem boolsOf_map {α : Type} (f : α → Bool) : ∀ l : List α, boolsOf (l.map fun a => .bool (f a)) = some (l.map f)
  | [] => rfl
  | a :: l => by
    show (boolsOf (.bool (f a) :: l.map fun a => .bool (f a))) = _
    unfold boolsOf
    rw [boolsOf_map f l]
    rfl
theorem alll_map {α : Type} (f : α → Bool) (l : List α) : biD .alll [.list (l.map fun a => .bool (f a))] = .ok (.bool (l.all f)) := by
  show opt (boolsOf (l.map fun a => .bool (f a))) (fun bs => PyData.bool (bs.all id)) = _
  rw [boolsOf_map]
  show Rs.ok (PyData.bool ((l.map f).all id)) = _
  rw [List.all_map]
  rfl
end Pf

set_option Elab.async false
set_option linter.all false
set_option maxRecDepth 100000
/-! Steps of the meaning, for proofs about what the defs compute. -/
namespace Pf
open PySem PySem.Spec L2

section
variable {Γ : Gs} {s : S} {ss a b : Ss} {ρ ρ' : Sto} {d : D} {e c : E} {i : Nat} {x : EX} {t : Tg} {it : I} {ds : List D}
theorem ex_nx (h : exe Γ s ρ = .nx ρ') : exes Γ (.cons s ss) ρ = exes Γ ss ρ' := by
  show (exe Γ s ρ).seq (exes Γ ss) = _
  rw [h]; rfl
theorem ex_rt (h : exe Γ s ρ = .rt d) : exes Γ (.cons s ss) ρ = .rt d := by
  show (exe Γ s ρ).seq (exes Γ ss) = _
  rw [h]; rfl
theorem ex_ex (h : exe Γ s ρ = .ex x ρ') : exes Γ (.cons s ss) ρ = .ex x ρ' := by
  show (exe Γ s ρ).seq (exes Γ ss) = _
  rw [h]; rfl
theorem asg_nm (h : sem Γ e ρ = .ok d) : exe Γ (.asg (.nm i) e) ρ = .nx (ρ.set i (some (.pd d))) := by
  show Out.ofR (sem Γ e ρ) ρ _ = _
  rw [h]; rfl
theorem asg_tp {is : List Nat} (h : sem Γ e ρ = .ok (.tuple ds)) (hl : ds.length = is.length) : exe Γ (.asg (.tp is) e) ρ = .nx (setAll is ds ρ) := by
  show Out.ofR (sem Γ e ρ) ρ (fun d => asgO (.tp is) d ρ) = _
  rw [h]
  show Out.ofR (if ds.length = is.length then Rs.ok (setAll is ds ρ) else .bad) ρ (fun ρ' => .nx ρ') = _
  rw [if_pos hl]; rfl
theorem ife_t (h : sem Γ c ρ = .ok (.bool true)) : exe Γ (.ife c a b) ρ = exes Γ a ρ := by
  show Out.ofR ((sem Γ c ρ).bind asB) ρ _ = _
  rw [h]; rfl
theorem ife_f (h : sem Γ c ρ = .ok (.bool false)) : exe Γ (.ife c a b) ρ = exes Γ b ρ := by
  show Out.ofR ((sem Γ c ρ).bind asB) ρ _ = _
  rw [h]; rfl
theorem ret_ok (h : sem Γ e ρ = .ok d) : exe Γ (.ret e) ρ = .rt d := by
  show Out.ofR (sem Γ e ρ) ρ _ = _
  rw [h]; rfl
theorem exp_ok (h : sem Γ e ρ = .ok d) : exe Γ (.exp e) ρ = .nx ρ := by
  show Out.ofR (sem Γ e ρ) ρ _ = _
  rw [h]; rfl
theorem exp_ex (h : sem Γ e ρ = .ex x) : exe Γ (.exp e) ρ = .ex x ρ := by
  show Out.ofR (sem Γ e ρ) ρ _ = _
  rw [h]; rfl
theorem for_ok {bd : Ss} (h : semi Γ it ρ = .ok ds) : exe Γ (.for t it bd) ρ = forL (fun d ρ' => (asgO t d ρ').seq (exes Γ bd)) ds ρ := by
  show Out.ofR (semi Γ it ρ) ρ _ = _
  rw [h]; rfl
end
/-- a loop that ends at the first item with p, else goes on -/
theorem forL_any {step : D → Sto → Out} {good : Sto → Prop} {p : D → Bool} {v : D} : ∀ {ds : List D}, (∀ d ∈ ds, ∀ ρ, good ρ → (p d = true → step d ρ = .rt v) ∧ (p d = false → ∃ ρ', good ρ' ∧ step d ρ = .nx ρ')) →
    ∀ ρ, good ρ → (ds.any p = true → forL step ds ρ = .rt v) ∧ (ds.any p = false → ∃ ρ', good ρ' ∧ forL step ds ρ = .nx ρ')
  | [], _, ρ, g => ⟨(fun h => by cases h), fun _ => ⟨ρ, g, rfl⟩⟩
  | d :: ds, h, ρ, g => by
    obtain ⟨h1, h2⟩ := h d (by simp) ρ g
    cases e : p d with
    | true =>
      refine ⟨fun _ => ?_, (fun q => by rw [List.any_cons, e] at q; cases q)⟩
      unfold forL
      rw [h1 e]
    | false =>
      obtain ⟨ρ', g', e2⟩ := h2 e
      have ih := forL_any (fun d' hd => h d' (List.mem_cons_of_mem _ hd)) ρ' g'
      rw [List.any_cons, e, Bool.false_or]
      unfold forL
      rw [e2]
      exact ih
/-- a loop all of whose turns go on -/
theorem forL_all {step : D → Sto → Out} {good : Sto → Prop} : ∀ {ds : List D}, (∀ d ∈ ds, ∀ ρ, good ρ → ∃ ρ', good ρ' ∧ step d ρ = .nx ρ') → ∀ ρ, good ρ → ∃ ρ', good ρ' ∧ forL step ds ρ = .nx ρ'
  | [], _, ρ, g => ⟨ρ, g, rfl⟩
  | d :: ds, h, ρ, g => by
    obtain ⟨ρ', g', e⟩ := h d (by simp) ρ g
    obtain ⟨ρ2, g2, e2⟩ := forL_all (fun d' hd => h d' (List.mem_cons_of_mem _ hd)) ρ' g'
    refine ⟨ρ2, g2, ?_⟩
    unfold forL
    rw [e]
    exact e2
/-! texts cut at one sign -/
theorem part_hit {p r : List Nat} {c : Nat} (h : c ∉ p) : miD .partition (.str (mk (p ++ (c :: r)))) [.str (mk [c])] = .ok (.tuple [.str (mk p), .str (mk [c]), .str (mk r)]) := by
  show (if ((mk [c]).length == 0) = false then Rs.ok _ else .bad) = _
  rw [if_pos (by rw [len_mk]; rfl)]
  have e : TL.par [c] [] (p ++ ([c] ++ r)) = some ([] ++ p, r) := TL.par_part1 h
  have e2 : partS (mk (p ++ (c :: r))) (mk [c]) = (mk p, mk [c], mk r) := by
    unfold partS
    show (match TL.par [c] [] (p ++ (c :: r)) with
      | some (p, q) => _
      | none => _) = _
    rw [show p ++ (c :: r) = p ++ ([c] ++ r) from rfl, e]
    rfl
  rw [e2]
theorem part_miss {p : List Nat} {c : Nat} (h : c ∉ p) : miD .partition (.str (mk p)) [.str (mk [c])] = .ok (.tuple [.str (mk p), .str Str.empty, .str Str.empty]) := by
  show (if ((mk [c]).length == 0) = false then Rs.ok _ else .bad) = _
  rw [if_pos (by rw [len_mk]; rfl)]
  have e : TL.par [c] [] p = none := TL.par_none1 h
  have e2 : partS (mk p) (mk [c]) = (mk p, Str.empty, Str.empty) := by
    unfold partS
    show (match TL.par [c] [] p with
      | some (p, q) => _
      | none => _) = _
    rw [e]
  rw [e2]
theorem split_join {ps : List (List Nat)} {c : Nat} (hn : ps ≠ []) (h : ∀ p ∈ ps, c ∉ p) (hl : (TL.joinL [c] ps).length + 1 ≤ LIM) : miD .split (.str (mk (TL.joinL [c] ps))) [.str (mk [c])] = .ok (.list (ps.map fun p => .str (mk p))) := by
  show (if ((mk [c]).length == 0) = false ∧ (mk (TL.joinL [c] ps)).length + 1 ≤ LIM then Rs.ok _ else .bad) = _
  rw [if_pos ⟨by rw [len_mk]; rfl, by rw [len_mk]; exact hl⟩]
  have e : TL.spl [c] 0 [] (TL.joinL [c] ps) = ps := TL.spl_join hn h
  show Rs.ok (PyData.list ((splitS (mk (TL.joinL [c] ps)) (mk [c])).map PyData.str)) = _
  unfold splitS
  show Rs.ok (PyData.list (((TL.spl [c] 0 [] (TL.joinL [c] ps)).map mk).map PyData.str)) = _
  rw [e, List.map_map]
  rfl
end Pf

set_option Elab.async false
set_option linter.all false
set_option maxRecDepth 1000000
namespace Pf
open PySem PySem.Spec L2
theorem lc_map {i : Nat} {items : Sto → Rs (List D)} {elt : Sto → Rs D} {ρ : Sto} {ds : List D} {f : D → D} (hi : items ρ = .ok ds) (hl : ds.length ≤ LIM) (h : ∀ d ∈ ds, elt ((wipeR ρ [i]).set i (some (.pd d))) = .ok (f d)) : lcF (.nm i) [i] items (fun _ => .ok true) elt ρ = .ok (ds.map f) := by
  unfold lcF
  rw [hi, Rs.bind_ok, if_pos hl, compL_map (f := f) fun d hd => ⟨_, rfl, h d hd⟩]
  rfl
theorem letter_lt {c : Nat} (h : letter c = true) : c < 128 := by
  unfold letter at h
  simp only [Bool.and_eq_true, decide_eq_true_eq] at h
  omega
theorem name_asc {n : List Nat} (h : nameL n = true) : asc (mk n) = true ∧ n.length ≤ 8 ∧ 1 ≤ n.length ∧ ∀ c ∈ n, letter c = true := by
  unfold nameL at h
  simp only [Bool.and_eq_true, decide_eq_true_eq] at h
  have a := List.all_eq_true.mp h.2
  exact ⟨asc_iff.mpr fun c hc => letter_lt (a c hc), h.1.2, h.1.1, a⟩
theorem joinL_len {c : Nat} : ∀ ns : List (List Nat), (∀ n ∈ ns, n.length ≤ 8) → (TL.joinL [c] ns).length ≤ 9 * ns.length
  | [], _ => Nat.zero_le _
  | [n], h => by
    show n.length ≤ 9 * 1
    have := h n (by simp)
    omega
  | n :: m :: r, h => by
    show (n ++ ([c] ++ TL.joinL [c] (m :: r))).length ≤ _
    have h1 := h n (by simp)
    have ih := joinL_len (c := c) (m :: r) fun k hk => h k (List.mem_cons_of_mem _ hk)
    simp only [List.length_append, List.length_cons, List.length_nil] at ih ⊢
    omega
end Pf
namespace K46
open PySem PySem.Spec L2 Pf
theorem sl_ : ("/" : Str) = mk [47] := by decide
theorem qu_ : ("?" : Str) = mk [63] := by decide
theorem is_name_str {x : Str} (a : asc x = true) (hl : x.length ≤ LIM) : m_is_name [.str x] = .ok (.bool (nameL (cl x))) := by
  have items : semi g_is_name (.val (.var 0)) [some (.pd (.str x)), none] = .ok ((cl x).map fun c => .str (mk [c])) := rfl
  have len : ((cl x).map fun c => PyData.str (mk [c])).length ≤ LIM := by rw [List.length_map, ← len_cl]; exact hl
  let f : D → D := fun d => match d with
    | .str z => .bool ((cl z).all letter)
    | d => d
  have comp : lcF (Tg.nm 1) [1] (semi g_is_name (.val (.var 0))) (semc g_is_name .none) (sem g_is_name (.cmp .inn (.ex (.var 1)) (.ex (.gl 0)))) [some (.pd (.str x)), none] = .ok ((cl x).map fun c => .bool (letter c)) := by
    have := lc_map (i := 1) (elt := sem g_is_name (.cmp .inn (.ex (.var 1)) (.ex (.gl 0)))) (f := f) items len fun d hd => by
      obtain ⟨c, hc, rfl⟩ := List.mem_map.mp hd
      have e := sub_lett c (asc_iff.mp a c hc)
      show pur (toB (.ok (hasSub (mk [c]) LETT))) = .ok (.bool ((cl (mk [c])).all letter))
      rw [e]
      simp [pur, toB]
    rw [List.map_map] at this
    refine (this.trans ?_)
    congr 1
    apply List.map_congr_left
    intro c _
    simp [f]
  have e : m_is_name [.str x] = out ((Out.ofR ((toB (chainF .le .le (fun _ => .ok (.int 1)) (fun _ => .ok (.int x.length)) (fun _ => .ok (.int 8)) [some (.pd (.str x)), none])).bind asB |>.bind fun k => if k = true then
      (((lcF (Tg.nm 1) [1] (semi g_is_name (.val (.var 0))) (semc g_is_name .none) (sem g_is_name (.cmp .inn (.ex (.var 1)) (.ex (.gl 0)))) [some (.pd (.str x)), none]).bind fun ds => .ok (.list ds)).bind fun d => (Rs.ok []).bind fun xs => .ok (d :: xs)).bind fun ds => pur (biD .alll ds) else .ok (.bool false)) [some (.pd (.str x)), none] fun d => .rt d).seq fun ρ => .nx ρ) := rfl
  have ch : chainF .le .le (fun _ => .ok (.int 1)) (fun _ => .ok (.int x.length)) (fun _ => .ok (.int 8)) [some (.pd (.str x)), none] = .ok (decide (1 ≤ (cl x).length) && decide ((cl x).length ≤ 8)) := by
    show (if decide ((1 : Int) ≤ x.length) = true then Rs.ok (decide ((x.length : Int) ≤ 8)) else Rs.ok false) = _
    rw [← len_cl]
    by_cases h1 : 1 ≤ x.length
    · rw [if_pos (by simp; omega)]
      by_cases h2 : x.length ≤ 8
      · rw [decide_eq_true h1, decide_eq_true h2, decide_eq_true (by omega)]; rfl
      · rw [decide_eq_true h1, decide_eq_false h2, decide_eq_false (by omega)]; rfl
    · rw [if_neg (by simp; omega), decide_eq_false h1]; rfl
  rw [e, comp, ch, toB_asB]
  simp only [Rs.bind_ok]
  rw [alll_map]
  unfold nameL
  cases (decide (1 ≤ (cl x).length) && decide ((cl x).length ≤ 8)) <;> rfl
theorem is_address_at {x : Str} {ns : List (List Nat)} {q1 q2 : Str} (hx : miD .partition (.str x) [.str "?"] = .ok (.tuple [.str (mk (TL.joinL [47] ns)), .str q1, .str q2])) (hn : ns ≠ []) (h7 : ns.length ≤ 7) (hv : ∀ n ∈ ns, nameL n = true)
    (hq : q1 = "" ∨ (q1 = "?" ∧ m_is_query [.str q2] = .ok (.bool true))) : m_is_address [.str x] = .ok (.bool true) := by
  let names : List D := ns.map fun p => .str (mk p)
  have sp : miD .split (.str (mk (TL.joinL [47] ns))) [.str "/"] = .ok (.list names) := by
    rw [sl_]
    refine split_join hn (fun p hp hc => ?_) ?_
    · have := (name_asc (hv p hp)).2.2.2 47 hc
      cases this
    · have := joinL_len (c := 47) ns fun n hn => (name_asc (hv n hn)).2.1
      show _ ≤ 1000000
      omega
  let ρ0 : Sto := [some (.pd (.str x)), none, none, none, none, none]
  let ρ1 : Sto := [some (.pd (.str x)), some (.pd (.str (mk (TL.joinL [47] ns)))), some (.pd (.str q1)), some (.pd (.str q2)), none, none]
  let ρ2 : Sto := [some (.pd (.str x)), some (.pd (.str (mk (TL.joinL [47] ns)))), some (.pd (.str q1)), some (.pd (.str q2)), some (.pd (.list names)), none]
  have comp : lcF (.nm 5) [5] (semi g_is_address (.val (.var 4))) (semc g_is_address .none) (sem g_is_address (.call 0 (.cons (.var 5) .nil))) ρ2 = .ok (names.map fun _ => .bool true) := by
    refine lc_map (i := 5) (f := fun _ => .bool true) (ds := names) rfl (by show (ns.map _).length ≤ 1000000; rw [List.length_map]; omega) fun d hd => ?_
    obtain ⟨n, hn', rfl⟩ := List.mem_map.mp hd
    have nm := name_asc (hv n hn')
    show (if 1 = 1 then m_is_name [.str (mk n)] else .bad) = _
    rw [if_pos rfl, is_name_str nm.1 (by rw [len_mk]; show _ ≤ 1000000; omega)]
    show Rs.ok (PyData.bool (nameL n)) = _
    rw [hv n hn']
  have allT : biD .alll [.list (names.map fun _ => .bool true)] = .ok (.bool true) := by
    rw [alll_map (fun _ => true)]
    simp
  show out (exes g_is_address t_is_address ρ0) = _
  unfold t_is_address
  rw [ex_nx (ρ' := ρ0) (by rw [ife_f rfl]; rfl), ex_nx (ρ' := ρ1) (by
      refine (asg_tp (ds := [.str (mk (TL.joinL [47] ns)), .str q1, .str q2]) ?_ rfl).trans rfl
      show pur (miD .partition (.str x) [.str "?"]) = _
      rw [hx]; rfl), ex_nx (ρ' := ρ2) (by
      refine (asg_nm (d := .list names) ?_).trans rfl
      show pur (miD .split (.str (mk (TL.joinL [47] ns))) [.str "/"]) = _
      rw [sp]; rfl), ex_nx (ρ' := ρ2) (by
      rw [ife_f]
      · rfl
      · show ((pur (toB (Rs.ok (decide (((6 : Int) + 1) < (names.length : Int)))))).bind asB).bind (fun k => if k = true then Rs.ok (PyData.bool true) else
          (((((lcF (.nm 5) [5] (semi g_is_address (.val (.var 4))) (semc g_is_address .none) (sem g_is_address (.call 0 (.cons (.var 5) .nil))) ρ2).bind fun ds => .ok (.list ds)).bind fun d => (Rs.ok []).bind fun xs => .ok (d :: xs)).bind fun ds => pur (biD .alll ds)).bind asB).bind fun b => .ok (.bool (!b))) = _
        rw [comp]
        simp only [Rs.bind_ok]
        rw [allT, decide_eq_false (by show ¬ ((7 : Int) < ((ns.map _).length : Int)); rw [List.length_map]; omega)]
        rfl)]
  rcases hq with rfl | ⟨rfl, hq⟩
  · rw [ex_rt (ret_ok (d := .bool true) rfl)]
    rfl
  · rw [ex_rt (ret_ok (d := .bool true) (by
      show (if 1 = 1 then m_is_query [.str q2] else .bad) = _
      rw [if_pos rfl, hq]))]
    rfl
end K46

set_option Elab.async false
set_option linter.all false
set_option maxRecDepth 1000000
namespace K46
open PySem PySem.Spec L2 Pf
theorem require_at {x : Str} (h : m_is_address [.str x] = .ok (.bool true)) : m_require_address [.str x] = .ok .none := by
  show out (exes g_require_address t_require_address [some (.pd (.str x))]) = _
  unfold t_require_address
  rw [ex_nx (ρ' := [some (.pd (.str x))]) (by
    rw [ife_f]
    · rfl
    · show (((if 1 = 1 then m_is_address [.str x] else Rs.bad).bind asB).bind fun b => Rs.ok (PyData.bool (!b))) = _
      rw [if_pos rfl, h]; rfl)]
  rfl
theorem segments_at {x : Str} {ns : List (List Nat)} {q1 q2 : Str} (hx : miD .partition (.str x) [.str "?"] = .ok (.tuple [.str (mk (TL.joinL [47] ns)), .str q1, .str q2])) (hn : ns ≠ []) (h7 : ns.length ≤ 7) (hv : ∀ n ∈ ns, nameL n = true)
    (hq : q1 = "" ∨ (q1 = "?" ∧ m_is_query [.str q2] = .ok (.bool true))) : m_segments_of [.str x] = .ok (.list ((ns.drop 1).map fun p => .str (mk p))) := by
  let names : List D := ns.map fun p => .str (mk p)
  have sp : miD .split (.str (mk (TL.joinL [47] ns))) [.str "/"] = .ok (.list names) := by
    rw [sl_]
    refine split_join hn (fun p hp hc => ?_) ?_
    · have := (name_asc (hv p hp)).2.2.2 47 hc
      cases this
    · have := joinL_len (c := 47) ns fun n hn => (name_asc (hv n hn)).2.1
      show _ ≤ 1000000
      omega
  show out (exes g_segments_of t_segments_of [some (.pd (.str x))]) = _
  unfold t_segments_of
  rw [ex_nx (ρ' := [some (.pd (.str x))]) (exp_ok (d := .none) (by
    show (if 1 = 1 then m_require_address [.str x] else .bad) = _
    rw [if_pos rfl, require_at (is_address_at hx hn h7 hv hq)]))]
  rw [ex_rt (ret_ok (d := .list ((ns.drop 1).map fun p => .str (mk p))) (by
    show ((((pur (miD .partition (.str x) [.str "?"])).bind fun x => pur (ixD x (.int 0))).bind fun x => (strR x).bind fun z => pur (miD .split (.str z) [.str "/"])).bind fun x => pur (slD x (some 1) none)) = _
    rw [hx]
    show ((pur (miD .split (.str (mk (TL.joinL [47] ns))) [.str "/"])).bind fun x => pur (slD x (some 1) none)) = _
    rw [sp]
    show Rs.ok (PyData.list (cut names (some 1) none)) = _
    have e : cut names (some 1) none = names.drop 1 := by
      unfold cut
      have h1 : HT.sIx names.length 0 (some 1) = min 1 names.length := by
        simp only [HT.sIx]
        first
          | rfl
          | (simp; omega)
          | omega
      have h2 : HT.sIx names.length names.length none = names.length := rfl
      rw [h1, h2]
      cases names with
      | nil => rfl
      | cons a l =>
        have : min 1 (a :: l).length = 1 := by simp
        rw [this]
        simp
    rw [e, ← List.map_drop]))]
  rfl
/-! the loops of is_trap -/
def tst (o : Option SV) (S : List D) (a b : Int) (r : Option SV) : Sto := [o, some (.pd (.list S)), some (.pd (.int a)), some (.pd (.int b)), r]
def runE : E := .sl (.var 1) (.some (.var 3)) (.some (.bin .add (.var 3) (.var 2)))
def condE : E := .cmp .eq (.ex (.sl (.var 1) (.some (.var 3)) (.some (.bin .add (.var 3) (.bin .mul (.int 3) (.var 2)))))) (.ex (.bin .mul (.var 4) (.int 3)))
def inner : Ss := .cons (.asg (.nm 4) runE) (.cons (.ife condE (.cons (.ret (.bl true)) .nil) .nil) .nil)
def startsI : I := .r1 (.bin .add (.bin .sub (.len (.ex (.var 1))) (.bin .mul (.int 3) (.var 2))) (.int 1))
def sizesI : I := .r2 (.int 1) (.bin .add (.bin .fdiv (.len (.ex (.var 1))) (.int 3)) (.int 1))
theorem trap_is : t_is_trap = .cons (.asg (.nm 1) (.call 6 (.cons (.var 0) .nil))) (.cons (.for (.nm 2) sizesI (.cons (.for (.nm 3) startsI inner) .nil)) (.cons (.ret (.bl false)) .nil)) := rfl
/-- what the turn tests -/
def runD (S : List D) (a b : Int) : D := .list (cut S (some b) (some (b + a)))
def condR (S : List D) (a b : Int) : Rs D := sem g_is_trap condE (tst none S a b (some (.pd (runD S a b))))
def condB (S : List D) (a b : Int) : Bool := match condR S a b with
  | .ok (.bool k) => k
  | _ => false
def condOk (S : List D) (a b : Int) : Bool := match condR S a b with
  | .ok (.bool _) => true
  | _ => false
def starts (S : List D) (a : Int) : List D := rng 0 ((S.length : Int) - 3 * a + 1).toNat
def sizes (S : List D) : List D := rng 1 (S.length / 3)
def onI (p : Int → Bool) : D → Bool
  | .int i => p i
  | _ => false
def trapB (S : List D) : Bool := (sizes S).any (onI fun a => (starts S a).any (onI (condB S a)))
def trapOk (S : List D) : Bool := (sizes S).all (onI fun a => (starts S a).all (onI (condOk S a)))
theorem onI_all {p : Int → Bool} {ds : List D} (h : ds.all (onI p) = true) {d : D} (m : d ∈ ds) : ∃ i, d = .int i ∧ p i = true := by
  have := List.all_eq_true.mp h d m
  cases d <;> first | exact ⟨_, rfl, this⟩ | cases this
theorem turn {o : Option SV} {S : List D} {a b : Int} {y r : Option SV} (ok : condOk S a b = true) :
    (condB S a b = true → ((asgO (.nm 3) (.int b) [o, some (.pd (.list S)), some (.pd (.int a)), y, r]).seq (exes g_is_trap inner)) = .rt (.bool true)) ∧
    (condB S a b = false → ((asgO (.nm 3) (.int b) [o, some (.pd (.list S)), some (.pd (.int a)), y, r]).seq (exes g_is_trap inner)) = .nx (tst o S a b (some (.pd (runD S a b))))) := by
  have c : sem g_is_trap condE (tst o S a b (some (.pd (runD S a b)))) = condR S a b := rfl
  have h0 : (asgO (.nm 3) (.int b) [o, some (.pd (.list S)), some (.pd (.int a)), y, r]).seq (exes g_is_trap inner) = exes g_is_trap (.cons (.ife condE (.cons (.ret (.bl true)) .nil) .nil) .nil) (tst o S a b (some (.pd (runD S a b)))) := by
    show exes g_is_trap inner (tst o S a b r) = _
    unfold inner
    rw [ex_nx (ρ' := tst o S a b (some (.pd (runD S a b)))) ((asg_nm (d := runD S a b) rfl).trans rfl)]
  have k : ∀ v, condR S a b = .ok (.bool v) → condB S a b = v := fun v e => by unfold condB; rw [e]
  unfold condOk at ok
  split at ok
  · rename_i v e
    rw [k v e, h0]
    refine ⟨fun hv => ?_, fun hv => ?_⟩
    · subst hv
      rw [ex_rt]
      rw [ife_t (c.trans e)]
      rfl
    · subst hv
      rw [ex_nx (ρ' := tst o S a b (some (.pd (runD S a b))))]
      · rfl
      · rw [ife_f (c.trans e)]
        rfl
  · cases ok
theorem trap_at {x : Str} {S : List D} (hs : m_segments_of [.str x] = .ok (.list S)) (h6 : S.length ≤ 1000) (ok : trapOk S = true) : m_is_trap [.str x] = .ok (.bool (trapB S)) := by
  let good1 : Sto → Prop := fun ρ => ∃ y z r, ρ = [some (.pd (.str x)), some (.pd (.list S)), y, z, r]
  have it1 : ∀ ρ, good1 ρ → semi g_is_trap sizesI ρ = .ok (sizes S) := by
    rintro ρ ⟨y, z, r, rfl⟩
    have e : rng2 (.int 1) (.int ((S.length : Int) / 3 + 1)) = .ok (sizes S) := by
      show (if rngOk 1 = true ∧ rngOk ((S.length : Int) / 3 + 1) = true then Rs.ok (rng 1 ((S.length : Int) / 3 + 1 - 1).toNat) else Rs.bad) = _
      rw [if_pos ⟨rngOk_iff.mpr ⟨by omega, by omega⟩, rngOk_iff.mpr ⟨by omega, by omega⟩⟩]
      unfold sizes
      rw [show ((S.length : Int) / 3 + 1 - 1).toNat = S.length / 3 by omega]
    have f : binD .fdiv (.int S.length) (.int 3) = .ok (.int ((S.length : Int) / 3)) := by
      show (if (0 : Int) < 3 ∧ (3 : Int) < 1073741824 then Rs.ok (PyData.int ((S.length : Int) / 3)) else Rs.bad) = _
      rw [if_pos ⟨by omega, by omega⟩]
    show (Rs.ok (PyData.int 1)).bind (fun x => ((pur (binD .fdiv (.int S.length) (.int 3))).bind fun v => pur (binD .add v (.int 1))).bind fun y => rng2 x y) = _
    rw [f, Rs.bind_ok]
    show ((Rs.ok (PyData.int ((S.length : Int) / 3))).bind fun v => pur (binD .add v (.int 1))).bind (fun y => rng2 (.int 1) y) = _
    rw [Rs.bind_ok]
    show (Rs.ok (PyData.int ((S.length : Int) / 3 + 1))).bind (fun y => rng2 (.int 1) y) = _
    rw [Rs.bind_ok]
    exact e
  have step1 : ∀ d ∈ sizes S, ∀ ρ, good1 ρ → (onI (fun a => (starts S a).any (onI (condB S a))) d = true → ((asgO (.nm 2) d ρ).seq (exes g_is_trap (.cons (.for (.nm 3) startsI inner) .nil))) = .rt (.bool true)) ∧
      (onI (fun a => (starts S a).any (onI (condB S a))) d = false → ∃ ρ', good1 ρ' ∧ ((asgO (.nm 2) d ρ).seq (exes g_is_trap (.cons (.for (.nm 3) startsI inner) .nil))) = .nx ρ') := by
    rintro d hd ρ ⟨y, z, r, rfl⟩
    obtain ⟨a, rfl, oka⟩ := onI_all ok hd
    obtain ⟨n, hn, ea⟩ := List.mem_map.mp hd
    have hn' := List.mem_range.mp hn
    have ea : (1 : Int) + n = a := by injection ea
    let ρ1 : Sto := [some (.pd (.str x)), some (.pd (.list S)), some (.pd (.int a)), z, r]
    have e1 : (asgO (.nm 2) (.int a) [some (.pd (.str x)), some (.pd (.list S)), y, z, r]).seq (exes g_is_trap (.cons (.for (.nm 3) startsI inner) .nil)) = exes g_is_trap (.cons (.for (.nm 3) startsI inner) .nil) ρ1 := rfl
    have it2 : semi g_is_trap startsI ρ1 = .ok (starts S a) := by
      show ((pur (binD .mul (.int 3) (.int a))).bind fun m => (pur (binD .sub (.int S.length) m)).bind fun v => pur (binD .add v (.int 1))).bind rng1 = _
      have m : binD .mul (.int 3) (.int a) = .ok (.int (3 * a)) := by
        show (if small64 3 = true ∨ small64 a = true then Rs.ok (PyData.int (3 * a)) else .bad) = _
        rw [if_pos (.inl (by decide))]
      rw [m]
      show (if rngOk ((S.length : Int) - 3 * a + 1) = true then Rs.ok (rng 0 ((S.length : Int) - 3 * a + 1).toNat) else Rs.bad) = _
      rw [if_pos (rngOk_iff.mpr ⟨by omega, by omega⟩)]
      rfl
    let good2 : Sto → Prop := fun ρ => ∃ z r, ρ = [some (.pd (.str x)), some (.pd (.list S)), some (.pd (.int a)), z, r]
    have lp := forL_any (step := fun d ρ' => (asgO (.nm 3) d ρ').seq (exes g_is_trap inner)) (good := good2) (p := onI (condB S a)) (v := .bool true) (ds := starts S a) (by
      rintro d' hd' ρ' ⟨z', r', rfl⟩
      obtain ⟨b, rfl, okb⟩ := onI_all oka hd'
      have t := turn (o := some (.pd (.str x))) (y := z') (r := r') okb
      exact ⟨t.1, fun h => ⟨_, ⟨_, _, rfl⟩, t.2 h⟩⟩) ρ1 ⟨z, r, rfl⟩
    rw [e1]
    refine ⟨fun h => ?_, fun h => ?_⟩
    · rw [ex_rt]
      rw [for_ok it2]
      exact lp.1 h
    · obtain ⟨ρ', ⟨z', r', rfl⟩, e⟩ := lp.2 h
      refine ⟨[some (.pd (.str x)), some (.pd (.list S)), some (.pd (.int a)), z', r'], ⟨_, _, _, rfl⟩, ?_⟩
      rw [ex_nx (by rw [for_ok it2]; exact e)]
      rfl
  have lp := forL_any (v := .bool true) step1 [some (.pd (.str x)), some (.pd (.list S)), none, none, none] ⟨none, none, none, rfl⟩
  show out (exes g_is_trap t_is_trap [some (.pd (.str x)), none, none, none, none]) = _
  rw [trap_is, ex_nx (ρ' := [some (.pd (.str x)), some (.pd (.list S)), none, none, none]) ((asg_nm (d := .list S) (by
    show (if 1 = 1 then m_segments_of [.str x] else .bad) = _
    rw [if_pos rfl, hs])).trans rfl)]
  cases e : trapB S with
  | true =>
    rw [ex_rt (d := .bool true)]
    · rfl
    · rw [for_ok (it1 _ ⟨none, none, none, rfl⟩)]
      exact lp.1 e
  | false =>
    obtain ⟨ρ', _, e2⟩ := lp.2 e
    rw [ex_nx (ρ' := ρ') (by rw [for_ok (it1 _ ⟨none, none, none, rfl⟩)]; exact e2), ex_rt (ret_ok (d := .bool false) rfl)]
    rfl
end K46

set_option Elab.async false
set_option linter.all false
set_option maxRecDepth 1000000
namespace K46
open PySem PySem.Spec L2 Pf
def okB (r : Rs D) (b : Bool) : Bool := match r with
  | .ok (.bool c) => c == b
  | _ => false
theorem okB_eq {r : Rs D} {b : Bool} (h : okB r b = true) : r = .ok (.bool b) := by
  unfold okB at h
  split at h
  · rename_i c
    rw [eq_of_beq h]
  · cases h
/-- the names of the segments, by two alphabets -/
def al0 : List (List Nat) := [[120], [121], [120, 120]]
def al1 : List (List Nat) := [[97], [98]]
def words (al : List (List Nat)) : Nat → List (List (List Nat))
  | 0 => [[]]
  | n + 1 => [] :: (words al n).flatMap fun w => al.map fun a => a :: w
def toD (w : List (List Nat)) : List D := w.map fun p => .str (mk p)
def chk (w : List (List Nat)) : Bool := trapOk (toD w) && okB (m_l_want [.list (toD w)]) (trapB (toD w))
end K46

set_option Elab.async false
set_option linter.all false
set_option maxRecDepth 100000
/-! Whole numbers; the digits that each law draws. -/
namespace Pf
open PySem PySem.Spec L2

theorem addI (i j : Int) : binD .add (.int i) (.int j) = .ok (.int (i + j)) := rfl
theorem subI (i j : Int) : binD .sub (.int i) (.int j) = .ok (.int (i - j)) := rfl
theorem mulI {i j : Int} (h : small64 i = true ∨ small64 j = true) : binD .mul (.int i) (.int j) = .ok (.int (i * j)) := by
  show (if small64 i = true ∨ small64 j = true then Rs.ok (PyData.int (i * j)) else Rs.bad) = _
  rw [if_pos h]
theorem modI {i j : Int} (h : 0 < j) : binD .mod (.int i) (.int j) = .ok (.int (i % j)) := by
  show (if 0 < j then Rs.ok (PyData.int (i % j)) else Rs.bad) = _
  rw [if_pos h]
theorem fdivI {i j : Int} (h : 0 < j) (h2 : j < 1073741824) : binD .fdiv (.int i) (.int j) = .ok (.int (i / j)) := by
  show (if 0 < j ∧ j < 1073741824 then Rs.ok (PyData.int (i / j)) else Rs.bad) = _
  rw [if_pos ⟨h, h2⟩]
theorem powI {i j : Int} (h : 0 ≤ j) (h2 : j ≤ 1000) (h3 : small64 i = true) : binD .pow (.int i) (.int j) = .ok (.int (i ^ j.toNat)) := by
  show (if 0 ≤ j ∧ j ≤ 1000 ∧ small64 i = true then Rs.ok (PyData.int (i ^ j.toNat)) else Rs.bad) = _
  rw [if_pos ⟨h, h2, h3⟩]
theorem small_of {i : Int} (h : -(2 ^ 64) < i) (h2 : i < 2 ^ 64) : small64 i = true := small64_iff.mpr ⟨h, h2⟩
section
variable {Γ : Gs} {ρ : Sto} {a b c : E} {x y z : D} {o : Bi}
theorem sem_bin (ha : sem Γ a ρ = .ok x) (hb : sem Γ b ρ = .ok y) (h : binD o x y = .ok z) : sem Γ (.bin o a b) ρ = .ok z := by
  show (sem Γ a ρ).bind (fun x => (sem Γ b ρ).bind fun y => pur (binD o x y)) = _
  rw [ha, Rs.bind_ok, hb, Rs.bind_ok, h]; rfl
theorem sem_ix (ha : sem Γ a ρ = .ok x) (hb : sem Γ b ρ = .ok y) (h : ixD x y = .ok z) : sem Γ (.ix a b) ρ = .ok z := by
  show (sem Γ a ρ).bind (fun x => (sem Γ b ρ).bind fun y => pur (ixD x y)) = _
  rw [ha, Rs.bind_ok, hb, Rs.bind_ok, h]; rfl
theorem sem_cmp {q : Cm} {k : Bool} (ha : sem Γ a ρ = .ok x) (hb : sem Γ b ρ = .ok y) (h : cmpB q x y = .ok k) : sem Γ (.cmp q (.ex a) (.ex b)) ρ = .ok (.bool k) := by
  show (sem Γ a ρ).bind (fun x => (sem Γ b ρ).bind fun y => pur (toB (cmpB q x y))) = _
  rw [ha, Rs.bind_ok, hb, Rs.bind_ok, h]; rfl
theorem sem_and {k l : Bool} (ha : sem Γ a ρ = .ok (.bool k)) (hb : k = true → sem Γ b ρ = .ok (.bool l)) (hl : k = false → l = false) : sem Γ (.and a b) ρ = .ok (.bool l) := by
  show ((sem Γ a ρ).bind asB).bind (fun k => if k = true then sem Γ b ρ else .ok (.bool false)) = _
  rw [ha]
  cases k with
  | true => exact hb rfl
  | false => rw [hl rfl]; rfl
theorem ix_at {xs : List Int} {k : Nat} {s : Int} (h : xs[k]? = some s) : ixD (.list (xs.map PyData.int)) (.int k) = .ok (.int s) := by
  have hk : k < xs.length := (List.getElem?_eq_some_iff.mp h).1
  show opt (atI (xs.map PyData.int) (k : Int)) id = _
  have e : atI (xs.map PyData.int) (k : Int) = some (.int s) := by
    unfold atI
    have e1 : ixN (xs.map PyData.int).length (k : Int) = some k := by
      unfold ixN
      simp [hk]
    rw [e1]
    show (xs.map PyData.int)[k]? = _
    rw [List.getElem?_map, h]
    rfl
  rw [e]
  rfl
end
theorem app_ok {Γ : Gs} {ρ : Sto} {i : Nat} {e : E} {xs : List D} {d : D} (ho : ρ[i]? = some (some (.own xs))) (h : sem Γ e ρ = .ok d) (hl : xs.length < LIM) : exe Γ (.app i e) ρ = .nx (ρ.set i (some (.own (xs ++ [d])))) := by
  show apF i (sem Γ e) ρ = _
  unfold apF
  have e1 : ownAt ρ i = .ok xs := by
    unfold ownAt
    rw [ho]
  rw [e1]
  show Out.ofR (sem Γ e ρ) ρ _ = _
  rw [h]
  show (if xs.length < LIM then Out.nx (ρ.set i (some (.own (xs ++ [d])))) else .bad) = _
  rw [if_pos hl]
/-- a loop by a word of the turns that are done -/
theorem forL_by {step : D → Sto → Out} (Pv : Nat → Sto → Prop) : ∀ {ds : List D} (n : Nat), (∀ i d ρ, ds[i]? = some d → Pv (n + i) ρ → ∃ ρ', Pv (n + i + 1) ρ' ∧ step d ρ = .nx ρ') → ∀ ρ, Pv n ρ → ∃ ρ', Pv (n + ds.length) ρ' ∧ forL step ds ρ = .nx ρ'
  | [], n, _, ρ, g => ⟨ρ, g, rfl⟩
  | d :: ds, n, h, ρ, g => by
    obtain ⟨ρ', g', e⟩ := h 0 d ρ rfl g
    obtain ⟨ρ2, g2, e2⟩ := forL_by Pv (ds := ds) (n + 1) (fun i d' ρ1 hd p => by
      have := h (i + 1) d' ρ1 (by simpa using hd) (by rw [show n + (i + 1) = n + 1 + i by omega]; exact p)
      rw [show n + (i + 1) + 1 = n + 1 + i + 1 by omega] at this
      exact this) ρ' g'
    refine ⟨ρ2, by rw [List.length_cons, show n + (ds.length + 1) = n + 1 + ds.length by omega]; exact g2, ?_⟩
    unfold forL
    rw [e]
    exact e2
/-! ### the digits of a cell -/
def numOne : Ss := (.cons (.asg (.nm 7) (.bin .mod (.bin .pow (.bin .add (.bin .add (.bin .mod (.var 3) (.int 2147483629)) (.bin .mul (.int 7919) (.var 1))) (.int 1)) (.int 3)) (.int 2147483647))) (.cons (.asg (.nm 7) (.bin .mod (.bin .mul (.bin .add (.var 7) (.bin .mul (.int 104729) (.bin .add (.var 6) (.int 1)))) (.bin .add (.var 6) (.int 3))) (.int 2147483629))) (.cons (.asg (.nm 7) (.bin .mod (.bin .mul (.bin .mod (.bin .pow (.var 7) (.int 5)) (.int 2147483647)) (.int 48271)) (.int 2147483629))) (.cons (.app 5 (.bin .mod (.bin .fdiv (.var 7) (.int 16)) (.ix (.var 2) (.var 6)))) .nil))))
def numBig : Ss := (.cons (.app 5 (.bin .mod (.var 4) (.ix (.var 2) (.var 6)))) (.cons (.asg (.nm 4) (.bin .fdiv (.var 4) (.ix (.var 2) (.var 6)))) .nil))
def numTest : E := (.and (.cmp .ge (.ex (.var 3)) (.ex (.bin .pow (.int 10) (.int 18)))) (.cmp .gt (.ex (.var 4)) (.ex (.int 0))))
def numT : Ss := (.cons (.asg (.nm 3) (.bi .max2 (.cons (.var 0) (.cons (.bin .sub (.neg (.int 1)) (.var 0)) .nil)))) (.cons (.asg (.nm 4) (.var 3)) (.cons (.own 5 .nil) (.cons (.for (.nm 6) (.r1 (.len (.ex (.var 2)))) (.cons (.ife numTest numBig numOne) .nil)) (.frz 5 (.cons (.ret (.var 5)) .nil))))))
section
variable {Γ : Gs} {cell salt number left : Int} {ss rs : List Int} {k : Nat} {s : Int} {y : Option SV}
def numSt (cell salt : Int) (ss : List Int) (number left : Int) (rs : List Int) (k : Nat) (y : Option SV) : Sto :=
  [some (.pd (.int cell)), some (.pd (.int salt)), some (.pd (.list (ss.map PyData.int))), some (.pd (.int number)), some (.pd (.int left)), some (.own (rs.map PyData.int)), some (.pd (.int k)), y]
theorem num_big (hs : ss[k]? = some s) (h0 : 0 < s) (h1 : s < 1073741824) (hl : rs.length < 1000) : exes Γ numBig (numSt cell salt ss number left rs k y) = .nx (numSt cell salt ss number (left / s) (rs ++ [left % s]) k y) := by
  have ix : ∀ ρ rest, ρ = (some (SV.pd (.int cell)) :: some (.pd (.int salt)) :: some (.pd (.list (ss.map PyData.int))) :: rest) → True := fun _ _ _ => trivial
  unfold numBig
  rw [ex_nx (ρ' := numSt cell salt ss number left (rs ++ [left % s]) k y) ((app_ok (xs := rs.map PyData.int) (d := .int (left % s)) rfl (sem_bin (x := .int left) (y := .int s) rfl (sem_ix (x := .list (ss.map PyData.int)) (y := .int k) rfl rfl (ix_at hs)) (modI h0)) (by rw [List.length_map]; show _ < 1000000; omega)).trans (by
      unfold numSt
      rw [List.map_append]
      rfl)),
    ex_nx (ρ' := numSt cell salt ss number (left / s) (rs ++ [left % s]) k y) ((asg_nm (d := .int (left / s)) (sem_bin (x := .int left) (y := .int s) rfl (sem_ix (x := .list (ss.map PyData.int)) (y := .int k) rfl rfl (ix_at hs)) (fdivI h0 h1))).trans rfl)]
  rfl
end
end Pf

set_option Elab.async false
set_option linter.all false
set_option maxRecDepth 100000
/-! The digits that each law draws: the loop. -/
namespace Pf
open PySem PySem.Spec L2
section
variable {Γ : Gs} {cell salt number left : Int} {ss rs : List Int} {k : Nat} {s : Int} {y : Option SV}
theorem mod_rng {a p : Int} (hp : 0 < p) : 0 ≤ a % p ∧ a % p < p := ⟨Int.emod_nonneg _ (by omega), Int.emod_lt_of_pos _ hp⟩
theorem num_one (hs : ss[k]? = some s) (h0 : 0 < s) (hl : rs.length < 1000) (hk : k < 1000) (salt0 : 0 ≤ salt) (salt1 : salt ≤ 1000000) : ∃ r, 0 ≤ r ∧ r < s ∧ ∃ y', exes Γ numOne (numSt cell salt ss number left rs k y) = .nx (numSt cell salt ss number left (rs ++ [r]) k y') := by
  let b1 : Int := number % 2147483629 + 7919 * salt + 1
  have r1 := mod_rng (a := number) (p := 2147483629) (by omega)
  let o1 : Int := b1 ^ 3 % 2147483647
  have r2 := mod_rng (a := b1 ^ 3) (p := 2147483647) (by omega)
  let o2 : Int := (o1 + 104729 * ((k : Int) + 1)) * ((k : Int) + 3) % 2147483629
  have r3 := mod_rng (a := (o1 + 104729 * ((k : Int) + 1)) * ((k : Int) + 3)) (p := 2147483629) (by omega)
  let o3 : Int := o2 ^ 5 % 2147483647 * 48271 % 2147483629
  let r : Int := o3 / 16 % s
  have r5 := mod_rng (a := o3 / 16) h0
  refine ⟨r, r5.1, r5.2, some (.pd (.int o3)), ?_⟩
  let s0 := numSt cell salt ss number left rs k y
  unfold numOne
  have e1 : sem Γ (.bin .mod (.bin .pow (.bin .add (.bin .add (.bin .mod (.var 3) (.int 2147483629)) (.bin .mul (.int 7919) (.var 1))) (.int 1)) (.int 3)) (.int 2147483647)) s0 = .ok (.int o1) :=
    sem_bin (x := .int (b1 ^ 3)) (y := .int 2147483647) (sem_bin (x := .int b1) (y := .int 3) (sem_bin (x := .int (number % 2147483629 + 7919 * salt)) (y := .int 1) (sem_bin (x := .int (number % 2147483629)) (y := .int (7919 * salt))
      (sem_bin (x := .int number) (y := .int 2147483629) rfl rfl (modI (by omega))) (sem_bin (x := .int 7919) (y := .int salt) rfl rfl (mulI (.inl (small_of (by omega) (by omega))))) rfl) rfl rfl) rfl (powI (by omega) (by omega) (small_of (by omega) (by omega)))) rfl (modI (by omega))
  rw [ex_nx (ρ' := numSt cell salt ss number left rs k (some (.pd (.int o1)))) ((asg_nm e1).trans rfl)]
  have e2 : sem Γ (.bin .mod (.bin .mul (.bin .add (.var 7) (.bin .mul (.int 104729) (.bin .add (.var 6) (.int 1)))) (.bin .add (.var 6) (.int 3))) (.int 2147483629)) (numSt cell salt ss number left rs k (some (.pd (.int o1)))) = .ok (.int o2) :=
    sem_bin (x := .int ((o1 + 104729 * ((k : Int) + 1)) * ((k : Int) + 3))) (y := .int 2147483629) (sem_bin (x := .int (o1 + 104729 * ((k : Int) + 1))) (y := .int ((k : Int) + 3)) (sem_bin (x := .int o1) (y := .int (104729 * ((k : Int) + 1))) rfl
      (sem_bin (x := .int 104729) (y := .int ((k : Int) + 1)) rfl (sem_bin (x := .int k) (y := .int 1) rfl rfl rfl) (mulI (.inl (small_of (by omega) (by omega))))) rfl) (sem_bin (x := .int k) (y := .int 3) rfl rfl rfl) (mulI (.inr (small_of (by omega) (by omega))))) rfl (modI (by omega))
  rw [ex_nx (ρ' := numSt cell salt ss number left rs k (some (.pd (.int o2)))) ((asg_nm e2).trans rfl)]
  have r4 := mod_rng (a := o2 ^ 5) (p := 2147483647) (by omega)
  have e3 : sem Γ (.bin .mod (.bin .mul (.bin .mod (.bin .pow (.var 7) (.int 5)) (.int 2147483647)) (.int 48271)) (.int 2147483629)) (numSt cell salt ss number left rs k (some (.pd (.int o2)))) = .ok (.int o3) :=
    sem_bin (x := .int (o2 ^ 5 % 2147483647 * 48271)) (y := .int 2147483629) (sem_bin (x := .int (o2 ^ 5 % 2147483647)) (y := .int 48271) (sem_bin (x := .int (o2 ^ 5)) (y := .int 2147483647) (sem_bin (x := .int o2) (y := .int 5) rfl rfl (powI (by omega) (by omega) (small_of (by show _ < o2; omega) (by show o2 < _; omega)))) rfl (modI (by omega))) rfl
      (mulI (.inr (small_of (by omega) (by omega))))) rfl (modI (by omega))
  rw [ex_nx (ρ' := numSt cell salt ss number left rs k (some (.pd (.int o3)))) ((asg_nm e3).trans rfl)]
  have e4 : sem Γ (.bin .mod (.bin .fdiv (.var 7) (.int 16)) (.ix (.var 2) (.var 6))) (numSt cell salt ss number left rs k (some (.pd (.int o3)))) = .ok (.int r) :=
    sem_bin (x := .int (o3 / 16)) (y := .int s) (sem_bin (x := .int o3) (y := .int 16) rfl rfl (fdivI (by omega) (by omega))) (sem_ix (x := .list (ss.map PyData.int)) (y := .int k) rfl rfl (ix_at hs)) (modI h0)
  rw [ex_nx (ρ' := numSt cell salt ss number left (rs ++ [r]) k (some (.pd (.int o3)))) ((app_ok (xs := rs.map PyData.int) (d := .int r) rfl e4 (by rw [List.length_map]; show _ < 1000000; omega)).trans (by
    unfold numSt
    rw [List.map_append]
    rfl))]
  rfl
theorem num_test : ∃ b, sem Γ numTest (numSt cell salt ss number left rs k y) = .ok (.bool b) := by
  have h1 : sem Γ (.cmp .ge (.ex (.var 3)) (.ex (.bin .pow (.int 10) (.int 18)))) (numSt cell salt ss number left rs k y) = .ok (.bool (decide ((10 : Int) ^ (18 : Int).toNat ≤ number))) :=
    sem_cmp (x := .int number) (y := .int ((10 : Int) ^ (18 : Int).toNat)) rfl (sem_bin (x := .int 10) (y := .int 18) rfl rfl (powI (by omega) (by omega) (small_of (by omega) (by omega)))) rfl
  have h2 : sem Γ (.cmp .gt (.ex (.var 4)) (.ex (.int 0))) (numSt cell salt ss number left rs k y) = .ok (.bool (decide ((0 : Int) < left))) := sem_cmp (x := .int left) (y := .int 0) rfl rfl rfl
  refine ⟨decide ((10 : Int) ^ (18 : Int).toNat ≤ number) && decide ((0 : Int) < left), ?_⟩
  unfold numTest
  exact sem_and h1 (fun e => by rw [h2, e]; rfl) (fun e => by rw [e]; rfl)
end
/-- the digits: as many as sizes, each within its size -/
theorem numbers_at {Γ : Gs} {cell salt : Int} {ss : List Int} (hs : ∀ s ∈ ss, 0 < s ∧ s < 1073741824) (hn : ss.length < 1000) (salt0 : 0 ≤ salt) (salt1 : salt ≤ 1000000) :
    ∃ rs : List Int, out (exes Γ numT (enter 8 [.int cell, .int salt, .list (ss.map PyData.int)])) = .ok (.list (rs.map PyData.int)) ∧ rs.length = ss.length ∧ ∀ (i : Nat) (r s : Int), rs[i]? = some r → ss[i]? = some s → 0 ≤ r ∧ r < s := by
  let number : Int := if -1 - cell > cell then -1 - cell else cell
  let Pv : Nat → Sto → Prop := fun i ρ => ∃ (left : Int) (rs : List Int) (w y : Option SV), ρ = [some (.pd (.int cell)), some (.pd (.int salt)), some (.pd (.list (ss.map PyData.int))), some (.pd (.int number)), some (.pd (.int left)), some (.own (rs.map PyData.int)), w, y] ∧ rs.length = i ∧ i ≤ ss.length ∧ ∀ (j : Nat) (r s : Int), rs[j]? = some r → ss[j]? = some s → 0 ≤ r ∧ r < s
  let step : D → Sto → Out := fun d ρ' => (asgO (.nm 6) d ρ').seq (exes Γ (.cons (.ife numTest numBig numOne) .nil))
  have turn : ∀ i d ρ, (rng 0 ss.length)[i]? = some d → Pv (0 + i) ρ → ∃ ρ', Pv (0 + i + 1) ρ' ∧ step d ρ = .nx ρ' := by
    rintro i d ρ hd ⟨left, rs, w, y, rfl, hr, hi, hb⟩
    rw [Nat.zero_add] at hr hi ⊢
    have hlt : i < ss.length := by
      have := (List.getElem?_eq_some_iff.mp hd).1
      simpa [rng] using this
    obtain rfl : PyData.int (i : Int) = d := by
      unfold rng at hd
      rw [List.getElem?_map, List.getElem?_range hlt] at hd
      have := Option.some.inj hd
      rw [← this]
      show PyData.int (i : Int) = PyData.int (0 + (i : Int))
      rw [Int.zero_add]
    have hsi : ss[i]? = some ss[i] := List.getElem?_eq_getElem hlt
    obtain ⟨s0, s1⟩ := hs ss[i] (List.getElem_mem hlt)
    have go : step (.int i) [some (.pd (.int cell)), some (.pd (.int salt)), some (.pd (.list (ss.map PyData.int))), some (.pd (.int number)), some (.pd (.int left)), some (.own (rs.map PyData.int)), w, y] = exes Γ (.cons (.ife numTest numBig numOne) .nil) (numSt cell salt ss number left rs i y) := rfl
    have more : ∀ r : Int, 0 ≤ r → r < ss[i] → ∀ (j : Nat) (q s : Int), (rs ++ [r])[j]? = some q → ss[j]? = some s → 0 ≤ q ∧ q < s := by
      intro r h0 h1 j q s e1 e2
      by_cases hj : j < rs.length
      · rw [List.getElem?_append_left hj] at e1
        exact hb j q s e1 e2
      · rw [List.getElem?_append_right (by omega)] at e1
        have : j = rs.length := by
          have := (List.getElem?_eq_some_iff.mp e1).1
          simp at this
          omega
        subst this
        simp at e1
        rw [hr, hsi] at e2
        obtain rfl := Option.some.inj e2
        subst e1
        exact ⟨h0, h1⟩
    obtain ⟨b, tb⟩ := num_test (Γ := Γ) (cell := cell) (salt := salt) (number := number) (left := left) (ss := ss) (rs := rs) (k := i) (y := y)
    rw [go]
    cases b with
    | true =>
      have m := mod_rng (a := left) s0
      refine ⟨numSt cell salt ss number (left / ss[i]) (rs ++ [left % ss[i]]) i y, ⟨left / ss[i], rs ++ [left % ss[i]], some (.pd (.int i)), y, rfl, by rw [List.length_append]; simp [hr], hlt, more _ m.1 m.2⟩, ?_⟩
      rw [ex_nx (ρ' := numSt cell salt ss number (left / ss[i]) (rs ++ [left % ss[i]]) i y) (by rw [ife_t tb]; exact num_big hsi s0 s1 (by omega))]
      rfl
    | false =>
      obtain ⟨r, h0, h1, y', e⟩ := num_one (Γ := Γ) (cell := cell) (number := number) (left := left) (y := y) (rs := rs) hsi s0 (by omega) (by omega) salt0 salt1
      refine ⟨numSt cell salt ss number left (rs ++ [r]) i y', ⟨left, rs ++ [r], some (.pd (.int i)), y', rfl, by rw [List.length_append]; simp [hr], hlt, more r h0 h1⟩, ?_⟩
      rw [ex_nx (ρ' := numSt cell salt ss number left (rs ++ [r]) i y') (by rw [ife_f tb]; exact e)]
      rfl
  obtain ⟨ρ', ⟨left, rs, w, y, rfl, hr, hi, hb⟩, e⟩ := forL_by Pv 0 turn [some (.pd (.int cell)), some (.pd (.int salt)), some (.pd (.list (ss.map PyData.int))), some (.pd (.int number)), some (.pd (.int number)), some (.own []), none, none] ⟨number, [], none, none, rfl, rfl, Nat.zero_le _, fun j r s h => by simp at h⟩
  have len : (rng 0 ss.length).length = ss.length := by simp [rng]
  rw [Nat.zero_add, len] at hr
  refine ⟨rs, ?_, hr, hb⟩
  let ρ0 : Sto := [some (.pd (.int cell)), some (.pd (.int salt)), some (.pd (.list (ss.map PyData.int))), none, none, none, none, none]
  show out (exes Γ numT ρ0) = _
  unfold numT
  rw [ex_nx (ρ' := [some (.pd (.int cell)), some (.pd (.int salt)), some (.pd (.list (ss.map PyData.int))), some (.pd (.int number)), none, none, none, none]) ((asg_nm (d := .int number) rfl).trans rfl),
    ex_nx (ρ' := [some (.pd (.int cell)), some (.pd (.int salt)), some (.pd (.list (ss.map PyData.int))), some (.pd (.int number)), some (.pd (.int number)), none, none, none]) ((asg_nm (d := .int number) rfl).trans rfl),
    ex_nx (ρ' := [some (.pd (.int cell)), some (.pd (.int salt)), some (.pd (.list (ss.map PyData.int))), some (.pd (.int number)), some (.pd (.int number)), some (.own []), none, none]) rfl,
    ex_nx (ρ' := [some (.pd (.int cell)), some (.pd (.int salt)), some (.pd (.list (ss.map PyData.int))), some (.pd (.int number)), some (.pd (.int left)), some (.own (rs.map PyData.int)), w, y]) ((for_ok (ds := rng 0 ss.length) (by
      show rng1 (.int (ss.map PyData.int).length) = _
      rw [List.length_map]
      show (if rngOk (ss.length : Int) = true then Rs.ok (rng 0 (ss.length : Int).toNat) else Rs.bad) = _
      rw [if_pos (rngOk_iff.mpr ⟨by omega, by omega⟩)]
      rfl)).trans e)]
  show out (exes Γ (.cons (.ret (.var 5)) .nil) (frz 5 [some (.pd (.int cell)), some (.pd (.int salt)), some (.pd (.list (ss.map PyData.int))), some (.pd (.int number)), some (.pd (.int left)), some (.own (rs.map PyData.int)), w, y])) = _
  have fz : frz 5 [some (.pd (.int cell)), some (.pd (.int salt)), some (.pd (.list (ss.map PyData.int))), some (.pd (.int number)), some (.pd (.int left)), some (.own (rs.map PyData.int)), w, y] =
      [some (.pd (.int cell)), some (.pd (.int salt)), some (.pd (.list (ss.map PyData.int))), some (.pd (.int number)), some (.pd (.int left)), some (.pd (.list (rs.map PyData.int))), w, y] := by
    show (if (rs.map PyData.int).length ≤ LIM then _ else _) = _
    rw [if_pos (by rw [List.length_map]; show _ ≤ 1000000; omega)]
    rfl
  rw [fz, ex_rt (ret_ok (d := .list (rs.map PyData.int)) rfl)]
  rfl
end Pf

set_option Elab.async false
set_option linter.all false
set_option maxRecDepth 1000000
namespace K46
open PySem PySem.Spec L2 Pf
theorem words_mem {al : List (List Nat)} : ∀ {n : Nat} {w : List (List Nat)}, (∀ p ∈ w, p ∈ al) → w.length ≤ n → w ∈ words al n
  | 0, w, _, h => by
    have : w = [] := List.length_eq_zero_iff.mp (Nat.le_zero.mp h)
    subst this
    exact List.mem_singleton.mpr rfl
  | n + 1, [], _, _ => List.mem_cons_self
  | n + 1, a :: w, h, hl => by
    refine List.mem_cons_of_mem _ (List.mem_flatMap.mpr ⟨w, words_mem (fun p hp => h p (List.mem_cons_of_mem _ hp)) (by simpa using hl), ?_⟩)
    exact List.mem_map.mpr ⟨a, h a (by simp), rfl⟩
/-- the names that are drawn from -/
def nm (b : Bool) : List (List Nat) := if b then [[97], [98], [97]] else [[120], [121], [120, 120]]
theorem ix3 {b : Bool} {v : Int} (h : 0 ≤ v) (h3 : v < 3) : ∃ p ∈ nm b, ixD (.list (toD (nm b))) (.int v) = .ok (.str (mk p)) := by
  have : v = 0 ∨ v = 1 ∨ v = 2 := by omega
  rcases this with rfl | rfl | rfl <;> cases b
  · exact ⟨[120], by simp [nm], rfl⟩
  · exact ⟨[97], by simp [nm], rfl⟩
  · exact ⟨[121], by simp [nm], rfl⟩
  · exact ⟨[98], by simp [nm], rfl⟩
  · exact ⟨[120, 120], by simp [nm], rfl⟩
  · exact ⟨[97], by simp [nm], rfl⟩
section
variable {Γ : Gs} {ρ : Sto} {ds : List Int} {b : Bool} {e : E} {j : Nat}
/-- one name, by a digit -/
theorem pick (hd : ds.length = 16) (h0 : getP ρ 0 = .ok (.list (ds.map PyData.int))) (h1 : getP ρ 1 = .ok (.list (toD (nm b)))) (hj : sem Γ e ρ = .ok (.int j)) (lt : j < 16) : ∃ p ∈ nm b, sem Γ (.ix (.var 1) (.bin .mod (.ix (.var 0) e) (.int 3))) ρ = .ok (.str (mk p)) := by
  obtain ⟨d, e1⟩ : ∃ d, ds[j]? = some d := ⟨_, List.getElem?_eq_getElem (by omega)⟩
  have m := mod_rng (a := d) (p := 3) (by omega)
  obtain ⟨p, hp, e2⟩ := ix3 (b := b) m.1 m.2
  exact ⟨p, hp, sem_ix h1 (sem_bin (sem_ix h0 hj (ix_at e1)) rfl (modI (by omega))) e2⟩
/-- several names, in a comprehension over a range -/
theorem picks {i n : Nat} {cond : Sto → Rs Bool} {items : Sto → Rs (List D)} (hd : ds.length = 16) (hi : items ρ = .ok (rng 0 n)) (hn : n ≤ 1000) (h : ∀ j < n, ∃ p ∈ nm b, sem Γ e ((wipeR ρ [i]).set i (some (.pd (.int (j : Int))))) = .ok (.str (mk p))) :
    ∃ w, lcF (.nm i) [i] items (fun _ => .ok true) (sem Γ e) ρ = .ok (toD w) ∧ (∀ p ∈ w, p ∈ nm b) ∧ w.length = n := by
  have key : ∀ l : List Nat, (∀ j ∈ l, j < n) → ∃ w, compL (.nm i) (fun _ => .ok true) (sem Γ e) (wipeR ρ [i]) (l.map fun (j : Nat) => PyData.int (0 + (j : Int))) = .ok (toD w) ∧ (∀ p ∈ w, p ∈ nm b) ∧ w.length = l.length := by
    intro l
    induction l with
    | nil => exact fun _ => ⟨[], rfl, (fun p hp => by cases hp), rfl⟩
    | cons j l ih =>
      intro hl
      obtain ⟨w, e1, e2, e3⟩ := ih fun k hk => hl k (List.mem_cons_of_mem _ hk)
      obtain ⟨p, hp, ep⟩ := h j (hl j (by simp))
      refine ⟨p :: w, ?_, fun q hq => ?_, by simp [e3]⟩
      · show compL (.nm i) (fun _ => .ok true) (sem Γ e) (wipeR ρ [i]) (.int (0 + (j : Int)) :: l.map fun (j : Nat) => PyData.int (0 + (j : Int))) = _
        unfold compL
        rw [show asgT (.nm i) (.int (0 + (j : Int))) (wipeR ρ [i]) = .ok ((wipeR ρ [i]).set i (some (.pd (.int (0 + (j : Int)))))) from rfl, Rs.bind_ok, show noEx (Rs.ok true) = Rs.ok true from rfl, Rs.bind_ok, if_pos rfl, Int.zero_add, ep, show noEx (Rs.ok (PyData.str (mk p))) = Rs.ok (PyData.str (mk p)) from rfl, Rs.bind_ok, e1]
        rfl
      · rcases List.mem_cons.mp hq with rfl | hq
        · exact hp
        · exact e2 q hq
  obtain ⟨w, e1, e2, e3⟩ := key (List.range n) fun j hj => List.mem_range.mp hj
  refine ⟨w, ?_, e2, by rw [e3, List.length_range]⟩
  unfold lcF
  rw [hi, Rs.bind_ok, if_pos (by show (rng 0 n).length ≤ 1000000; simp [rng]; omega), show rng 0 n = (List.range n).map fun (j : Nat) => PyData.int (0 + (j : Int)) from rfl, e1]
  rfl
end
end K46

set_option Elab.async false
set_option linter.all false
set_option maxRecDepth 1000000
namespace K46
open PySem PySem.Spec L2 Pf
/-- a list of drawn names, at most n -/
def InW (b : Bool) (n : Nat) (d : D) : Prop := ∃ w, d = .list (toD w) ∧ (∀ p ∈ w, p ∈ nm b) ∧ w.length ≤ n
theorem cut_hi {α : Type} (xs : List α) (k : Nat) : cut xs none (some (k : Int)) = xs.take k := by
  unfold cut
  have h1 : HT.sIx xs.length 0 none = 0 := rfl
  have h2 : HT.sIx xs.length xs.length (some (k : Int)) = min k xs.length := by
    simp only [HT.sIx]
    first
      | rfl
      | (split <;> omega)
      | (simp; omega)
      | omega
  rw [h1, h2, List.drop_zero, Nat.sub_zero, ← List.take_eq_take_min]
theorem toD_len (w : List (List Nat)) : (toD w).length = w.length := List.length_map _
theorem inw_mul {b : Bool} {n : Nat} {d : D} {k : Int} (h : InW b n d) (k0 : 0 ≤ k) (k1 : k ≤ 10) (hn : n ≤ 1000) : ∃ d', binD .mul d (.int k) = .ok d' ∧ InW b (n * 10) d' := by
  obtain ⟨w, rfl, h1, h2⟩ := h
  have hk : k.toNat ≤ 10 := by omega
  have hle : w.length * k.toNat ≤ n * 10 := Nat.mul_le_mul h2 hk
  refine ⟨.list (toD (List.replicate k.toNat w).flatten), ?_, _, rfl, fun p hp => ?_, ?_⟩
  · show (if -1000000 ≤ k ∧ k ≤ 1000000 ∧ (toD w).length * k.toNat ≤ LIM then Rs.ok (PyData.list (List.replicate k.toNat (toD w)).flatten) else Rs.bad) = _
    rw [if_pos ⟨by omega, by omega, by rw [toD_len]; show _ ≤ 1000000; omega⟩]
    unfold toD
    rw [List.map_flatten, List.map_replicate]
  · obtain ⟨l, hl, hpl⟩ := List.mem_flatten.mp hp
    rw [(List.mem_replicate.mp hl).2] at hpl
    exact h1 p hpl
  · rw [len_rep]
    exact hle
theorem inw_add {b : Bool} {n m : Nat} {d e : D} (h : InW b n d) (g : InW b m e) (hn : n + m ≤ 100000) : ∃ d', binD .add d e = .ok d' ∧ InW b (n + m) d' := by
  obtain ⟨w, rfl, h1, h2⟩ := h
  obtain ⟨v, rfl, g1, g2⟩ := g
  refine ⟨.list (toD (w ++ v)), ?_, _, rfl, fun p hp => (List.mem_append.mp hp).elim (h1 p) (g1 p), by rw [List.length_append]; omega⟩
  show (if (toD w).length + (toD v).length ≤ LIM then Rs.ok (PyData.list (toD w ++ toD v)) else Rs.bad) = _
  rw [if_pos (by rw [toD_len, toD_len]; show _ ≤ 1000000; omega)]
  unfold toD
  rw [List.map_append]
theorem inw_cut {b : Bool} {n : Nat} {d : D} (k : Nat) (h : InW b n d) : ∃ d', slD d none (some (k : Int)) = .ok d' ∧ InW b k d' := by
  obtain ⟨w, rfl, h1, h2⟩ := h
  refine ⟨.list (toD (w.take k)), ?_, _, rfl, fun p hp => h1 p (List.mem_of_mem_take hp), by rw [List.length_take]; omega⟩
  show Rs.ok (PyData.list (cut (toD w) none (some (k : Int)))) = _
  rw [cut_hi]
  unfold toD
  rw [List.map_take]
theorem inw_one {b : Bool} {p : List Nat} (h : p ∈ nm b) : InW b 1 (.list [.str (mk p)]) := ⟨[p], rfl, by simpa using h, by simp⟩
theorem sem_sl6 {Γ : Gs} {ρ : Sto} {e : E} {x z : D} {k : Nat} (ha : sem Γ e ρ = .ok x) (h : slD x none (some (k : Int)) = .ok z) : sem Γ (.sl e .none (.some (.int (k : Int)))) ρ = .ok z := by
  show (sem Γ e ρ).bind (fun x => pur (slD x none (some (k : Int)))) = _
  rw [ha, Rs.bind_ok, h]; rfl
theorem sem_one {Γ : Gs} {ρ : Sto} {e : E} {x : D} (h : sem Γ e ρ = .ok x) : sem Γ (.lst (.cons e .nil)) ρ = .ok (.list [x]) := by
  show ((sem Γ e ρ).bind fun x => (Rs.ok []).bind fun xs => Rs.ok (x :: xs)).bind (fun xs => limT xs .list) = _
  rw [h]
  show (if [x].length ≤ LIM then Rs.ok (PyData.list [x]) else .bad) = _
  rw [if_pos (by show 1 ≤ 1000000; omega)]
end K46

set_option Elab.async false
set_option linter.all false
set_option maxRecDepth 1000000
namespace K46
open PySem PySem.Spec L2 Pf
theorem segments_drawn {ds : List Int} (hd : ds.length = 16) : ∃ b d, m_l_segments [.list (ds.map PyData.int)] = .ok d ∧ InW b 6 d := by
  have at_ : ∀ j : Nat, j < 16 → ∃ v, ds[j]? = some v := fun j h => ⟨_, List.getElem?_eq_getElem (by omega)⟩
  obtain ⟨d0, e0⟩ := at_ 0 (by omega)
  obtain ⟨d1, e1⟩ := at_ 1 (by omega)
  obtain ⟨d4, e4⟩ := at_ 4 (by omega)
  obtain ⟨d6, e6⟩ := at_ 6 (by omega)
  obtain ⟨d8, e8⟩ := at_ 8 (by omega)
  obtain ⟨d11, e11⟩ := at_ 11 (by omega)
  have r0 := mod_rng (a := d0) (p := 2) (by omega)
  have r1 := mod_rng (a := d1) (p := 2) (by omega)
  have r4 := mod_rng (a := d4) (p := 4) (by omega)
  have r6 := mod_rng (a := d6) (p := 3) (by omega)
  have r8 := mod_rng (a := d8) (p := 3) (by omega)
  have r11 := mod_rng (a := d11) (p := 7) (by omega)
  let DS : D := .list (ds.map PyData.int)
  have dig : ∀ {ρ : Sto} {j : Nat} {v k : Int}, getP ρ 0 = .ok DS → ds[j]? = some v → 0 < k → sem g_l_segments (.bin .mod (.ix (.var 0) (.int (j : Int))) (.int k)) ρ = .ok (.int (v % k)) := fun {ρ j v k} h0 e hk =>
    sem_bin (x := .int v) (y := .int k) (sem_ix (x := DS) (y := .int j) h0 rfl (ix_at e)) rfl (modI hk)
  -- the names
  obtain ⟨b, hb⟩ : ∃ b, ixD (.list [.list (toD (nm false)), .list (toD (nm true))]) (.int (d0 % 2)) = .ok (.list (toD (nm b))) := by
    have : d0 % 2 = 0 ∨ d0 % 2 = 1 := by omega
    rcases this with h | h <;> rw [h]
    · exact ⟨false, rfl⟩
    · exact ⟨true, rfl⟩
  let NM : D := .list (toD (nm b))
  let ρ1 : Sto := [some (.pd DS), some (.pd NM), none, none, none, none]
  have s1 : ∀ {st : Ss}, exes g_l_segments (.cons (.asg (.nm 1) (.ix (.lst (.cons (.lst (.cons (.str "x") (.cons (.str "y") (.cons (.str "xx") .nil)))) (.cons (.lst (.cons (.str "a") (.cons (.str "b") (.cons (.str "a") .nil)))) .nil))) (.bin .mod (.ix (.var 0) (.int 0)) (.int 2)))) st) [some (.pd DS), none, none, none, none, none] = exes g_l_segments st ρ1 := fun {st} =>
    ex_nx ((asg_nm (d := NM) (sem_ix (x := .list [.list (toD (nm false)), .list (toD (nm true))]) (y := .int (d0 % 2)) rfl (dig rfl e0 (by omega)) hb)).trans rfl)
  -- the run
  have hr1 : (1 + d1 % 2).toNat ≤ 2 := by omega
  have q1 : sem g_l_segments (.bin .add (.int 1) (.bin .mod (.ix (.var 0) (.int 1)) (.int 2))) ρ1 = .ok (.int (1 + d1 % 2)) := sem_bin (x := .int 1) (y := .int (d1 % 2)) rfl (dig (j := 1) rfl e1 (by omega)) rfl
  obtain ⟨w, cw, hw, lw⟩ := picks (Γ := g_l_segments) (ρ := ρ1) (ds := ds) (b := b) (i := 3) (n := (1 + d1 % 2).toNat) (cond := fun _ => .ok true) (items := semi g_l_segments (.r1 (.bin .add (.int 1) (.bin .mod (.ix (.var 0) (.int 1)) (.int 2))))) (e := .ix (.var 1) (.bin .mod (.ix (.var 0) (.bin .add (.int 2) (.var 3))) (.int 3))) hd (by
      show (sem g_l_segments (.bin .add (.int 1) (.bin .mod (.ix (.var 0) (.int 1)) (.int 2))) ρ1).bind rng1 = _
      rw [q1]
      show (if rngOk (1 + d1 % 2) = true then Rs.ok (rng 0 (1 + d1 % 2).toNat) else Rs.bad) = _
      rw [if_pos (rngOk_iff.mpr ⟨by omega, by omega⟩)]) (by omega) fun j hj => pick (j := 2 + j) hd rfl rfl (by
        show Rs.ok (PyData.int (2 + (j : Int))) = Rs.ok (PyData.int ((2 + j : Nat) : Int))
        rw [Int.natCast_add]; rfl) (by omega)
  have inW : InW b 2 (.list (toD w)) := ⟨w, rfl, hw, by omega⟩
  let ρ2 : Sto := [some (.pd DS), some (.pd NM), some (.pd (.list (toD w))), none, none, none]
  let way : Int := d4 % 4
  let ρ3 : Sto := [some (.pd DS), some (.pd NM), some (.pd (.list (toD w))), none, some (.pd (.int way)), none]
  obtain ⟨p5, hp5, ep5⟩ := pick (Γ := g_l_segments) (ρ := ρ3) (b := b) (e := .int 5) (j := 5) hd rfl rfl rfl (by omega)
  obtain ⟨p7, hp7, ep7⟩ := pick (Γ := g_l_segments) (ρ := ρ3) (b := b) (e := .int 7) (j := 7) hd rfl rfl rfl (by omega)
  have test : ∀ k : Int, sem g_l_segments (.cmp .eq (.ex (.var 4)) (.ex (.int k))) ρ3 = .ok (.bool (decide (way = k))) := fun k =>
    sem_cmp (x := .int way) (y := .int k) rfl rfl (by
      show eqD (.int way) (.int k) = _
      unfold eqD
      rw [if_pos ⟨rfl, rfl⟩]
      rfl)
  have to3 : ∀ {st : Ss}, exes g_l_segments (.cons (.ownLc 2 (.nm 3) [3] (.r1 (.bin .add (.int 1) (.bin .mod (.ix (.var 0) (.int 1)) (.int 2)))) .none (.ix (.var 1) (.bin .mod (.ix (.var 0) (.bin .add (.int 2) (.var 3))) (.int 3)))) (.frz 2 (.cons (.asg (.nm 4) (.bin .mod (.ix (.var 0) (.int 4)) (.int 4))) st))) ρ1 = exes g_l_segments st ρ3 := fun {st} => by
    rw [ex_nx (ρ' := [some (.pd DS), some (.pd NM), some (.own (toD w)), none, none, none]) (by
      show Out.ofR (lcF (.nm 3) [3] (semi g_l_segments (.r1 (.bin .add (.int 1) (.bin .mod (.ix (.var 0) (.int 1)) (.int 2))))) (fun _ => .ok true) (sem g_l_segments (.ix (.var 1) (.bin .mod (.ix (.var 0) (.bin .add (.int 2) (.var 3))) (.int 3)))) ρ1) ρ1 _ = _
      rw [cw]
      rfl)]
    show exes g_l_segments (.cons (.asg (.nm 4) (.bin .mod (.ix (.var 0) (.int 4)) (.int 4))) st) (frz 2 [some (.pd DS), some (.pd NM), some (.own (toD w)), none, none, none]) = _
    have fz : frz 2 [some (.pd DS), some (.pd NM), some (.own (toD w)), none, none, none] = ρ2 := by
      show (if (toD w).length ≤ LIM then _ else _) = _
      rw [if_pos (by rw [toD_len]; show _ ≤ 1000000; omega)]
      rfl
    rw [fz]
    exact ex_nx ((asg_nm (d := .int way) (dig (j := 4) rfl e4 (by omega))).trans rfl)
  obtain ⟨x1, m1, i1⟩ := inw_mul (k := 3) inW (by omega) (by omega) (by omega)
  obtain ⟨y1, c1, k1⟩ := inw_cut 6 i1
  obtain ⟨x2, m2, i2⟩ := inw_mul (k := 2) inW (by omega) (by omega) (by omega)
  obtain ⟨x3, m3, i3⟩ := inw_add i2 (inw_one hp5) (by omega)
  obtain ⟨x4, m4, i4⟩ := inw_add i3 inW (by omega)
  obtain ⟨y2, c2, k2⟩ := inw_cut 6 i4
  obtain ⟨z1, n1, o1⟩ := inw_mul (k := d8 % 3) (inw_one hp7) (by omega) (by omega) (by omega)
  obtain ⟨z2, n2, o2⟩ := inw_cut 1 inW
  obtain ⟨z3, n3, o3⟩ := inw_mul (k := 1 + d6 % 3) o2 (by omega) (by omega) (by omega)
  obtain ⟨z4, n4, o4⟩ := inw_add (inw_one hp5) o3 (by omega)
  obtain ⟨z5, n5, o5⟩ := inw_add o4 o1 (by omega)
  obtain ⟨y3, c3, k3⟩ := inw_cut 6 o5
  have start : m_l_segments [.list (ds.map PyData.int)] = out (exes g_l_segments t_l_segments [some (.pd DS), none, none, none, none, none]) := rfl
  rw [start]
  unfold t_l_segments
  rw [s1, to3]
  by_cases w0 : way = 0
  · have q11 : sem g_l_segments (.bin .mod (.ix (.var 0) (.int 11)) (.int 7)) ρ3 = .ok (.int (d11 % 7)) := dig (j := 11) rfl e11 (by omega)
    obtain ⟨v, cv, hv, lv⟩ := picks (Γ := g_l_segments) (ρ := ρ3) (ds := ds) (b := b) (i := 3) (n := (d11 % 7).toNat) (cond := fun _ => .ok true) (items := semi g_l_segments (.r1 (.bin .mod (.ix (.var 0) (.int 11)) (.int 7)))) (e := .ix (.var 1) (.bin .mod (.ix (.var 0) (.bin .add (.int 5) (.var 3))) (.int 3))) hd (by
      show (sem g_l_segments (.bin .mod (.ix (.var 0) (.int 11)) (.int 7)) ρ3).bind rng1 = _
      rw [q11]
      show (if rngOk (d11 % 7) = true then Rs.ok (rng 0 (d11 % 7).toNat) else Rs.bad) = _
      rw [if_pos (rngOk_iff.mpr ⟨by omega, by omega⟩)]) (by omega) fun j hj => pick (j := 5 + j) hd rfl rfl (by
        show Rs.ok (PyData.int (5 + (j : Int))) = Rs.ok (PyData.int ((5 + j : Nat) : Int))
        rw [Int.natCast_add]; rfl) (by omega)
    refine ⟨b, .list (toD v), ?_, v, rfl, hv, by omega⟩
    rw [ex_rt (d := .list (toD v))]
    · rfl
    · rw [ife_t (by rw [test 0, decide_eq_true w0]), ex_rt]
      refine ret_ok ?_
      show (lcF (.nm 3) [3] (semi g_l_segments (.r1 (.bin .mod (.ix (.var 0) (.int 11)) (.int 7)))) (fun _ => .ok true) (sem g_l_segments (.ix (.var 1) (.bin .mod (.ix (.var 0) (.bin .add (.int 5) (.var 3))) (.int 3)))) ρ3).bind (fun ds => Rs.ok (PyData.list ds)) = _
      rw [cv]; rfl
  rw [ex_nx (ρ' := ρ3) (by rw [ife_f (by rw [test 0, decide_eq_false w0])]; rfl)]
  by_cases w1 : way = 1
  · refine ⟨b, y1, ?_, k1⟩
    rw [ex_rt (d := y1)]
    · rfl
    · rw [ife_t (by rw [test 1, decide_eq_true w1]), ex_rt]
      exact ret_ok (sem_sl6 (k := 6) (sem_bin (x := .list (toD w)) (y := .int 3) rfl rfl m1) c1)
  rw [ex_nx (ρ' := ρ3) (by rw [ife_f (by rw [test 1, decide_eq_false w1])]; rfl)]
  by_cases w2 : way = 2
  · refine ⟨b, y2, ?_, k2⟩
    rw [ex_rt (d := y2)]
    · rfl
    · rw [ife_t (by rw [test 2, decide_eq_true w2]), ex_rt]
      exact ret_ok (sem_sl6 (k := 6) (sem_bin (x := x3) (y := .list (toD w)) (sem_bin (x := x2) (y := .list [.str (mk p5)]) (sem_bin (x := .list (toD w)) (y := .int 2) rfl rfl m2) (sem_one ep5) m3) rfl m4) c2)
  rw [ex_nx (ρ' := ρ3) (by rw [ife_f (by rw [test 2, decide_eq_false w2])]; rfl)]
  let ρ4 : Sto := [some (.pd DS), some (.pd NM), some (.pd (.list (toD w))), none, some (.pd (.int way)), some (.pd z1)]
  have q8 : sem g_l_segments (.bin .mod (.ix (.var 0) (.int 8)) (.int 3)) ρ3 = .ok (.int (d8 % 3)) := dig (j := 8) rfl e8 (by omega)
  have q6 : sem g_l_segments (.bin .mod (.ix (.var 0) (.int 6)) (.int 3)) ρ4 = .ok (.int (d6 % 3)) := dig (j := 6) rfl e6 (by omega)
  rw [ex_nx (ρ' := ρ4) ((asg_nm (d := z1) (sem_bin (x := .list [.str (mk p7)]) (y := .int (d8 % 3)) (sem_one ep7) q8 n1)).trans rfl)]
  refine ⟨b, y3, ?_, k3⟩
  have ep5' : sem g_l_segments (.ix (.var 1) (.bin .mod (.ix (.var 0) (.int 5)) (.int 3))) ρ4 = .ok (.str (mk p5)) := ep5
  rw [ex_rt (d := y3)]
  · rfl
  · exact ret_ok (sem_sl6 (k := 6) (sem_bin (x := z4) (y := z1) (sem_bin (x := .list [.str (mk p5)]) (y := z3) (sem_one ep5') (sem_bin (x := z2) (y := .int (1 + d6 % 3)) (sem_sl6 (k := 1) rfl n2) (sem_bin (x := .int 1) (y := .int (d6 % 3)) rfl q6 rfl) n3) n4) rfl n5) c3)
end K46

set_option Elab.async false
set_option linter.all false
set_option maxRecDepth 1000000
namespace K46
open PySem PySem.Spec L2 Pf
theorem nm_name {b : Bool} {p : List Nat} (h : p ∈ nm b) : nameL p = true ∧ p ∈ (if b then al1 else al0) := by
  cases b
  · have h : p ∈ [[120], [121], [120, 120]] := h
    simp only [List.mem_cons, List.not_mem_nil, or_false] at h
    rcases h with rfl | rfl | rfl <;> exact ⟨by decide, by decide⟩
  · have h : p ∈ [[97], [98], [97]] := h
    simp only [List.mem_cons, List.not_mem_nil, or_false] at h
    rcases h with rfl | rfl | rfl <;> exact ⟨by decide, by decide⟩
theorem strsOf_map : ∀ l : List (List Nat), strsOf (l.map fun p => PyData.str (mk p)) = some (l.map mk)
  | [] => rfl
  | p :: l => by
    show strsOf (.str (mk p) :: l.map fun p => PyData.str (mk p)) = _
    unfold strsOf
    rw [strsOf_map l]
    rfl
theorem sum_len : ∀ l : List (List Nat), (∀ n ∈ l, n.length ≤ 8) → ((l.map mk).map (·.length)).sum ≤ 8 * l.length
  | [], _ => Nat.zero_le _
  | n :: l, h => by
    have h1 := h n (by simp)
    have ih := sum_len l fun k hk => h k (List.mem_cons_of_mem _ hk)
    simp only [List.map_cons, List.sum_cons, List.length_cons, len_mk] at ih ⊢
    omega
theorem join_names {l : List (List Nat)} (h : ∀ n ∈ l, nameL n = true) (h7 : l.length ≤ 7) : miD .join (.str "/") [.list (l.map fun p => .str (mk p))] = .ok (.str (mk (TL.joinL [47] l))) := by
  have h8 : ∀ n ∈ l, n.length ≤ 8 := fun n hn => (name_asc (h n hn)).2.1
  have e : joinS "/" (l.map mk) = mk (TL.joinL [47] l) := by
    unfold joinS
    rw [List.map_map]
    show mk (TL.joinL (cl "/") (l.map id)) = _
    rw [List.map_id]
    rfl
  show ((opt (strsOf (l.map fun p => PyData.str (mk p))) id).bind fun ys => if (joinS "/" ys).length ≤ LIM ∧ (ys.map (·.length)).sum + ys.length * ("/" : Str).length ≤ 16777216 then Rs.ok (PyData.str (joinS "/" ys)) else Rs.bad) = _
  rw [strsOf_map]
  show (if (joinS "/" (l.map mk)).length ≤ LIM ∧ ((l.map mk).map (·.length)).sum + (l.map mk).length * ("/" : Str).length ≤ 16777216 then Rs.ok (PyData.str (joinS "/" (l.map mk))) else Rs.bad) = _
  have j := joinL_len (c := 47) l h8
  have s := sum_len l h8
  rw [if_pos ⟨by rw [e, len_mk]; show _ ≤ 1000000; omega, by rw [List.length_map]; show _ + _ * 1 ≤ _; omega⟩, e]
theorem no_q {l : List (List Nat)} (h : ∀ n ∈ l, nameL n = true) : 63 ∉ TL.joinL [47] l := fun hc => by
  rcases join_mem hc with h1 | ⟨p, hp, h2⟩
  · simp at h1
  · have := (name_asc (h p hp)).2.2.2 63 h2
    cases this
/-- the queries -/
def qs : List Str := ["", "?x=x", "?x=x&y=x&a=x"]
theorem trap_addr {l : List (List Nat)} {q : Str} (hl : l ≠ []) (h : ∀ n ∈ l, nameL n = true) (h7 : l.length ≤ 7) (hq : q ∈ qs) (y1 : m_is_query [.str "x=x"] = .ok (.bool true)) (y2 : m_is_query [.str "x=x&y=x&a=x"] = .ok (.bool true)) (ok : trapOk (toD (l.drop 1)) = true) :
    m_is_trap [.str (mk (TL.joinL [47] l) ++ q)] = .ok (.bool (trapB (toD (l.drop 1)))) := by
  have nq := no_q h
  have len : (toD (l.drop 1)).length ≤ 1000 := by
    rw [toD_len, List.length_drop]
    omega
  unfold qs at hq
  simp only [List.mem_cons, List.not_mem_nil, or_false] at hq
  rcases hq with rfl | rfl | rfl
  · have e : mk (TL.joinL [47] l) ++ ("" : Str) = mk (TL.joinL [47] l) := cl_inj (by rw [cl_app]; exact List.append_nil _)
    rw [e]
    exact trap_at (segments_at (x := mk (TL.joinL [47] l)) (q1 := "") (q2 := "") (by rw [qu_]; exact part_miss nq) hl h7 h (.inl rfl)) len ok
  · have e : mk (TL.joinL [47] l) ++ ("?x=x" : Str) = mk (TL.joinL [47] l ++ (63 :: cl "x=x")) := cl_inj (by rw [cl_app]; rfl)
    rw [e]
    exact trap_at (segments_at (q1 := "?") (q2 := "x=x") (by rw [qu_]; exact part_hit nq) hl h7 h (.inr ⟨rfl, y1⟩)) len ok
  · have e : mk (TL.joinL [47] l) ++ ("?x=x&y=x&a=x" : Str) = mk (TL.joinL [47] l ++ (63 :: cl "x=x&y=x&a=x")) := cl_inj (by rw [cl_app]; rfl)
    rw [e]
    exact trap_at (segments_at (q1 := "?") (q2 := "x=x&y=x&a=x") (by rw [qu_]; exact part_hit nq) hl h7 h (.inr ⟨rfl, y2⟩)) len ok
end K46

set_option Elab.async false
set_option linter.all false
set_option maxRecDepth 1000000
namespace K46
open PySem PySem.Spec L2 Pf
theorem drawn_ok {b : Bool} {d : D} (h : InW b 6 d) (k0 : (words al0 6).all chk = true) (k1 : (words al1 6).all chk = true) : ∃ w, d = .list (toD w) ∧ w.length ≤ 6 ∧ (∀ p ∈ w, nameL p = true) ∧ trapOk (toD w) = true ∧ m_l_want [.list (toD w)] = .ok (.bool (trapB (toD w))) := by
  obtain ⟨w, rfl, h1, h2⟩ := h
  have c : chk w = true := by
    cases b
    · exact List.all_eq_true.mp k0 w (words_mem (fun p hp => (nm_name (h1 p hp)).2) h2)
    · exact List.all_eq_true.mp k1 w (words_mem (fun p hp => (nm_name (h1 p hp)).2) h2)
  unfold chk at c
  rw [Bool.and_eq_true] at c
  exact ⟨w, rfl, h2, fun p hp => (nm_name (h1 p hp)).1, c.1, okB_eq c.2⟩
/-- the last loop's test, whatever else the frame holds -/
def errE : E := .cmp .ne (.ex (.call 11 (.cons (.var 9) .nil))) (.ex (.lst (.cons (.bi .repr (.cons (.var 9) .nil)) (.cons (.bl true) (.cons (.bl false) .nil)))))
def errVals : List D := [.none, .str "", .str "a/x/x/x/", .str "A/x/x/x", .str "a/x/x/x?", .int 5, .list [.str "a"], .tuple [.str "a", .str "x"], .str "a/x/x/x/x/x/x/x", .str "a x"]
def errOk (v : D) : Bool := okB (sem g_law errE [none, none, none, none, none, none, none, none, none, some (.pd v)]) false
theorem errs : errVals.all errOk = true := by decide +kernel
end K46

set_option Elab.async false
set_option linter.all false
set_option maxRecDepth 1000000
namespace K46
open PySem PySem.Spec L2 Pf
/-- the text of a bool -/
def bs (b : Bool) : D := .str (if b then "True" else "False")
def okS (r : Rs D) (s : Str) : Bool := match r with
  | .ok (.str x) => x == s
  | _ => false
theorem okS_eq {r : Rs D} {s : Str} (h : okS r s = true) : r = .ok (.str s) := by
  unfold okS at h
  split at h
  · rw [eq_of_beq h]
  · cases h
def okT (r : Rs Bool) (b : Bool) : Bool := match r with
  | .ok x => x == b
  | _ => false
theorem okT_eq {r : Rs Bool} {b : Bool} (h : okT r b = true) : r = .ok b := by
  unfold okT at h
  split at h
  · rw [eq_of_beq h]
  · cases h
theorem repr_b (b : Bool) : biD .repr [.bool b] = .ok (bs b) := okS_eq (s := if b then "True" else "False") (by cases b <;> decide +kernel)
theorem ne_b (b : Bool) : cmpB .ne (bs b) (bs b) = .ok false := okT_eq (by cases b <;> decide +kernel)
theorem hosts : ∀ h ∈ [[97], [120], [104, 111, 115, 116]], nameL h = true := by decide
/-- the two inner loops -/
def qBody : Ss := .cons (.ife (.cmp .ne (.ex (.bi .repr (.cons (.call 7 (.cons (.bin .add (.var 7) (.var 8)) .nil)) .nil))) (.ex (.var 5))) (.cons (.ret (.bl false)) .nil) .nil) .nil
def hBody : Ss := .cons (.asg (.nm 7) (.mt .join (.str "/") (.cons (.bin .add (.lst (.cons (.var 6) .nil)) (.var 4)) .nil))) (.cons (.for (.nm 8) (.val (.lst (.cons (.str "") (.cons (.str "?x=x") (.cons (.str "?x=x&y=x&a=x") .nil))))) qBody) .nil)
theorem q_turn {o0 o1 o2 o3 o4 o6 o8 o9 : Option SV} {l : List (List Nat)} {q : Str} {b : Bool} (h : m_is_trap [.str (mk (TL.joinL [47] l) ++ q)] = .ok (.bool b)) (hl : (mk (TL.joinL [47] l)).length + q.length ≤ LIM) :
    exes g_law qBody [o0, o1, o2, o3, o4, some (.pd (bs b)), o6, some (.pd (.str (mk (TL.joinL [47] l)))), some (.pd (.str q)), o9] = .nx [o0, o1, o2, o3, o4, some (.pd (bs b)), o6, some (.pd (.str (mk (TL.joinL [47] l)))), some (.pd (.str q)), o9] := by
  let ρ : Sto := [o0, o1, o2, o3, o4, some (.pd (bs b)), o6, some (.pd (.str (mk (TL.joinL [47] l)))), some (.pd (.str q)), o9]
  have ad : binD .add (.str (mk (TL.joinL [47] l))) (.str q) = .ok (.str (mk (TL.joinL [47] l) ++ q)) := by
    show (if (mk (TL.joinL [47] l)).length + q.length ≤ LIM then Rs.ok (PyData.str (mk (TL.joinL [47] l) ++ q)) else Rs.bad) = _
    rw [if_pos hl]
  have call : sem g_law (.call 7 (.cons (.bin .add (.var 7) (.var 8)) .nil)) ρ = .ok (.bool b) := by
    show ((sem g_law (.bin .add (.var 7) (.var 8)) ρ).bind fun x => (Rs.ok []).bind fun xs => Rs.ok (x :: xs)).bind (fun ds => callG g_law 7 ds) = _
    rw [sem_bin (x := .str (mk (TL.joinL [47] l))) (y := .str q) rfl rfl ad]
    show (if 1 = 1 then m_is_trap [.str (mk (TL.joinL [47] l) ++ q)] else .bad) = _
    rw [if_pos rfl, h]
  have rp : sem g_law (.bi .repr (.cons (.call 7 (.cons (.bin .add (.var 7) (.var 8)) .nil)) .nil)) ρ = .ok (bs b) := by
    show ((sem g_law (.call 7 (.cons (.bin .add (.var 7) (.var 8)) .nil)) ρ).bind fun x => (Rs.ok []).bind fun xs => Rs.ok (x :: xs)).bind (fun ds => pur (biD .repr ds)) = _
    rw [call]
    show pur (biD .repr [.bool b]) = _
    rw [repr_b]; rfl
  unfold qBody
  rw [ex_nx (ρ' := ρ) (by
    rw [ife_f]
    · rfl
    · exact sem_cmp (x := bs b) (y := bs b) rp rfl (ne_b b))]
  rfl
theorem h_turn {o0 o1 o2 o3 o7 o8 o9 : Option SV} {w : List (List Nat)} {h : List Nat} (hh : nameL h = true) (hw : ∀ p ∈ w, nameL p = true) (h6 : w.length ≤ 6) (y1 : m_is_query [.str "x=x"] = .ok (.bool true)) (y2 : m_is_query [.str "x=x&y=x&a=x"] = .ok (.bool true)) (ok : trapOk (toD w) = true) :
    ∃ p7 p8, exes g_law hBody [o0, o1, o2, o3, some (.pd (.list (toD w))), some (.pd (bs (trapB (toD w)))), some (.pd (.str (mk h))), o7, o8, o9] = .nx [o0, o1, o2, o3, some (.pd (.list (toD w))), some (.pd (bs (trapB (toD w)))), some (.pd (.str (mk h))), p7, p8, o9] := by
  let l := h :: w
  have hl : ∀ n ∈ l, nameL n = true := fun n hn => (List.mem_cons.mp hn).elim (fun e => by rw [e]; exact hh) (hw n)
  have l7 : l.length ≤ 7 := by show w.length + 1 ≤ 7; omega
  have jl := joinL_len (c := 47) l fun n hn => (name_asc (hl n hn)).2.1
  let ρ1 : Sto := [o0, o1, o2, o3, some (.pd (.list (toD w))), some (.pd (bs (trapB (toD w)))), some (.pd (.str (mk h))), some (.pd (.str (mk (TL.joinL [47] l)))), o8, o9]
  have jn : sem g_law (.mt .join (.str "/") (.cons (.bin .add (.lst (.cons (.var 6) .nil)) (.var 4)) .nil)) [o0, o1, o2, o3, some (.pd (.list (toD w))), some (.pd (bs (trapB (toD w)))), some (.pd (.str (mk h))), o7, o8, o9] = .ok (.str (mk (TL.joinL [47] l))) := by
    have ad : binD .add (.list [.str (mk h)]) (.list (toD w)) = .ok (.list (l.map fun p => .str (mk p))) := by
      show (if [PyData.str (mk h)].length + (toD w).length ≤ LIM then Rs.ok (PyData.list ([PyData.str (mk h)] ++ toD w)) else Rs.bad) = _
      rw [if_pos (by rw [toD_len]; show 1 + _ ≤ 1000000; omega)]
      rfl
    show ((sem g_law (.bin .add (.lst (.cons (.var 6) .nil)) (.var 4)) _).bind fun x => (Rs.ok []).bind fun xs => Rs.ok (x :: xs)).bind (fun ds => pur (miD .join (.str "/") ds)) = _
    rw [sem_bin (x := .list [.str (mk h)]) (y := .list (toD w)) (sem_one rfl) rfl ad]
    show pur (miD .join (.str "/") [.list (l.map fun p => .str (mk p))]) = _
    rw [join_names hl l7]; rfl
  let good : Sto → Prop := fun ρ => ∃ p8, ρ = [o0, o1, o2, o3, some (.pd (.list (toD w))), some (.pd (bs (trapB (toD w)))), some (.pd (.str (mk h))), some (.pd (.str (mk (TL.joinL [47] l)))), p8, o9]
  obtain ⟨ρ', ⟨p8, rfl⟩, e⟩ := forL_all (good := good) (step := fun d ρ' => (asgO (.nm 8) d ρ').seq (exes g_law qBody)) (ds := qs.map PyData.str) (by
    rintro d hd ρ ⟨p8, rfl⟩
    obtain ⟨q, hq, rfl⟩ := List.mem_map.mp hd
    refine ⟨_, ⟨some (.pd (.str q)), rfl⟩, ?_⟩
    have t := trap_addr (l := l) (q := q) (by simp [l]) hl l7 hq y1 y2 ok
    have ql : q.length ≤ 20 := by
      have : qs.all (fun q => decide (q.length ≤ 20)) = true := by decide
      exact of_decide_eq_true (List.all_eq_true.mp this q hq)
    exact q_turn (o8 := none) t (by rw [len_mk]; show _ ≤ 1000000; omega)) ρ1 ⟨o8, rfl⟩
  refine ⟨some (.pd (.str (mk (TL.joinL [47] l)))), p8, ?_⟩
  unfold hBody
  rw [ex_nx (ρ' := ρ1) ((asg_nm jn).trans rfl), ex_nx (ρ' := [o0, o1, o2, o3, some (.pd (.list (toD w))), some (.pd (bs (trapB (toD w)))), some (.pd (.str (mk h))), some (.pd (.str (mk (TL.joinL [47] l)))), p8, o9]) ((for_ok (ds := qs.map PyData.str) rfl).trans e)]
  rfl
end K46

set_option Elab.async false
set_option linter.all false
set_option maxRecDepth 1000000
namespace K46
open PySem PySem.Spec L2 Pf
/-- the i-th hundred -/
def cent {α : Type} (l : List α) (i : Nat) : List α := (l.drop (100 * i)).take 100
theorem all_cent {α : Type} {p : α → Bool} : ∀ (n : Nat) (l : List α), l.length ≤ 100 * n → (∀ i < n, (cent l i).all p = true) → l.all p = true
  | 0, l, h, _ => by
    obtain rfl : l = [] := List.length_eq_zero_iff.mp (by omega)
    rfl
  | n + 1, l, h, q => by
    have h0 := q 0 (by omega)
    have ih := all_cent (p := p) n (l.drop 100) (by rw [List.length_drop]; omega) fun i hi => by
      have := q (i + 1) (by omega)
      unfold cent at this ⊢
      rw [List.drop_drop]
      rw [show 100 * (i + 1) = 100 + 100 * i by omega] at this
      exact this
    rw [← List.take_append_drop 100 l, List.all_append, ih, Bool.and_true]
    unfold cent at h0
    simpa using h0
theorem q1_0 : (cent (words al1 6) 0).all chk = true := by decide +kernel
theorem q1_1 : (cent (words al1 6) 1).all chk = true := by decide +kernel
theorem len1 : (words al1 6).length ≤ 100 * 2 := by decide +kernel
theorem chk1 : (words al1 6).all chk = true := all_cent 2 _ len1 fun i hi => match i, hi with
  | 0, _ => q1_0
  | 1, _ => q1_1
  | i + 2, h => by omega
theorem q0_0 : (cent (words al0 6) 0).all chk = true := by decide +kernel
theorem q0_1 : (cent (words al0 6) 1).all chk = true := by decide +kernel
theorem q0_2 : (cent (words al0 6) 2).all chk = true := by decide +kernel
theorem q0_3 : (cent (words al0 6) 3).all chk = true := by decide +kernel
theorem q0_4 : (cent (words al0 6) 4).all chk = true := by decide +kernel
theorem q0_5 : (cent (words al0 6) 5).all chk = true := by decide +kernel
theorem q0_6 : (cent (words al0 6) 6).all chk = true := by decide +kernel
theorem q0_7 : (cent (words al0 6) 7).all chk = true := by decide +kernel
theorem q0_8 : (cent (words al0 6) 8).all chk = true := by decide +kernel
theorem q0_9 : (cent (words al0 6) 9).all chk = true := by decide +kernel
theorem q0_10 : (cent (words al0 6) 10).all chk = true := by decide +kernel
theorem len0 : (words al0 6).length ≤ 100 * 11 := by decide +kernel
theorem chk0 : (words al0 6).all chk = true := all_cent 11 _ len0 fun i hi => match i, hi with
  | 0, _ => q0_0
  | 1, _ => q0_1
  | 2, _ => q0_2
  | 3, _ => q0_3
  | 4, _ => q0_4
  | 5, _ => q0_5
  | 6, _ => q0_6
  | 7, _ => q0_7
  | 8, _ => q0_8
  | 9, _ => q0_9
  | 10, _ => q0_10
  | i + 11, h => by omega
theorem qry1 : okB (m_is_query [.str "x=x"]) true = true := by decide +kernel
theorem qry2 : okB (m_is_query [.str "x=x&y=x&a=x"]) true = true := by decide +kernel
end K46

set_option Elab.async false
set_option linter.all false
set_option maxRecDepth 1000000
namespace K46
open PySem PySem.Spec L2 Pf
def cBody : Ss := .cons (.asg (.nm 3) (.call 8 (.cons (.var 2) (.cons (.bin .add (.int 4600) (.var 1)) (.cons (.bin .mul (.lst (.cons (.int 420) .nil)) (.int 16)) .nil))))) (.cons (.asg (.nm 4) (.call 9 (.cons (.var 3) .nil))) (.cons (.asg (.nm 5) (.bi .repr (.cons (.call 10 (.cons (.var 4) .nil)) .nil))) (.cons (.for (.nm 6) (.val (.lst (.cons (.str "a") (.cons (.str "x") (.cons (.str "host") .nil))))) hBody) .nil)))
def itE : E := .bin .add (.sl (.var 0) .none (.some (.int 20))) (.bin .mul (.lst (.cons (.int 7) .nil)) (.ti .int (.cons (.cmp .eq (.ex (.var 0)) (.ex (.lst .nil))) .nil)))
theorem law_is : t_law = .cons (.for (.tp [1, 2]) (.enum itE) cBody) (.cons (.for (.nm 9) (.val (.lst (.cons .non (.cons (.str "") (.cons (.str "a/x/x/x/") (.cons (.str "A/x/x/x") (.cons (.str "a/x/x/x?") (.cons (.int 5) (.cons (.lst (.cons (.str "a") .nil)) (.cons (.tup (.cons (.str "a") (.cons (.str "x") .nil))) (.cons (.str "a/x/x/x/x/x/x/x") (.cons (.str "a x") .nil)))))))))))) (.cons (.ife errE (.cons (.ret (.bl false)) .nil) .nil) .nil)) (.cons (.ret (.bl true)) .nil)) := rfl
theorem c_turn {o0 o3 o4 o5 o6 o7 o8 o9 : Option SV} {i : Nat} {c : Int} (hi : i ≤ 100) : ∃ p3 p4 p5 p6 p7 p8, exes g_law cBody [o0, some (.pd (.int i)), some (.pd (.int c)), o3, o4, o5, o6, o7, o8, o9] = .nx [o0, some (.pd (.int i)), some (.pd (.int c)), p3, p4, p5, p6, p7, p8, o9] := by
  obtain ⟨rs, e1, len, _⟩ := numbers_at (Γ := g_l_numbers) (cell := c) (salt := 4600 + (i : Int)) (ss := List.replicate 16 420) (fun s hs => by rw [(List.mem_replicate.mp hs).2]; omega) (by simp) (by omega) (by omega)
  have e1 : m_l_numbers [.int c, .int (4600 + (i : Int)), .list ((List.replicate 16 420).map PyData.int)] = .ok (.list (rs.map PyData.int)) := e1
  obtain ⟨b, d, e2, iw⟩ := segments_drawn (ds := rs) (by rw [len]; simp)
  obtain ⟨w, rfl, h6, hw, ok, e3⟩ := drawn_ok iw chk0 chk1
  have y1 := okB_eq qry1
  have y2 := okB_eq qry2
  let B : D := bs (trapB (toD w))
  unfold cBody
  rw [ex_nx (ρ' := [o0, some (.pd (.int i)), some (.pd (.int c)), some (.pd (.list (rs.map PyData.int))), o4, o5, o6, o7, o8, o9]) ((asg_nm (d := .list (rs.map PyData.int)) (by
      show (if 3 = 3 then m_l_numbers [.int c, .int (4600 + (i : Int)), .list ((List.replicate 16 420).map PyData.int)] else .bad) = _
      rw [if_pos rfl, e1])).trans rfl),
    ex_nx (ρ' := [o0, some (.pd (.int i)), some (.pd (.int c)), some (.pd (.list (rs.map PyData.int))), some (.pd (.list (toD w))), o5, o6, o7, o8, o9]) ((asg_nm (d := .list (toD w)) (by
      show (if 1 = 1 then m_l_segments [.list (rs.map PyData.int)] else .bad) = _
      rw [if_pos rfl, e2])).trans rfl),
    ex_nx (ρ' := [o0, some (.pd (.int i)), some (.pd (.int c)), some (.pd (.list (rs.map PyData.int))), some (.pd (.list (toD w))), some (.pd B), o6, o7, o8, o9]) ((asg_nm (d := B) (by
      show ((if 1 = 1 then m_l_want [.list (toD w)] else .bad).bind fun x => (Rs.ok []).bind fun xs => Rs.ok (x :: xs)).bind (fun ds => pur (biD .repr ds)) = _
      rw [if_pos rfl, e3]
      show pur (biD .repr [.bool (trapB (toD w))]) = _
      rw [repr_b]; rfl)).trans rfl)]
  let good : Sto → Prop := fun ρ => ∃ p6 p7 p8, ρ = [o0, some (.pd (.int i)), some (.pd (.int c)), some (.pd (.list (rs.map PyData.int))), some (.pd (.list (toD w))), some (.pd B), p6, p7, p8, o9]
  obtain ⟨ρ', ⟨p6, p7, p8, rfl⟩, e⟩ := forL_all (good := good) (step := fun d ρ' => (asgO (.nm 6) d ρ').seq (exes g_law hBody)) (ds := toD [[97], [120], [104, 111, 115, 116]]) (by
    rintro d hd ρ ⟨p6, p7, p8, rfl⟩
    obtain ⟨h, hh, rfl⟩ := List.mem_map.mp hd
    obtain ⟨q7, q8, t⟩ := h_turn (o0 := o0) (o1 := some (.pd (.int i))) (o2 := some (.pd (.int c))) (o3 := some (.pd (.list (rs.map PyData.int)))) (o7 := p7) (o8 := p8) (o9 := o9) (hosts h hh) hw h6 y1 y2 ok
    exact ⟨_, ⟨_, q7, q8, rfl⟩, t⟩) [o0, some (.pd (.int i)), some (.pd (.int c)), some (.pd (.list (rs.map PyData.int))), some (.pd (.list (toD w))), some (.pd B), o6, o7, o8, o9] ⟨o6, o7, o8, rfl⟩
  refine ⟨some (.pd (.list (rs.map PyData.int))), some (.pd (.list (toD w))), some (.pd B), p6, p7, p8, ?_⟩
  rw [ex_nx ((for_ok (ds := toD [[97], [120], [104, 111, 115, 116]]) rfl).trans e)]
  rfl
end K46

set_option Elab.async false
set_option linter.all false
set_option maxRecDepth 1000000
namespace K46
open PySem PySem.Spec L2 Pf
theorem ints_dict : ∀ ns : List Int, PyData.hasDictAll (ns.map PyData.int) = false
  | [] => rfl
  | n :: ns => by
    show (PyData.hasDict (.int n) || PyData.hasDictAll (ns.map PyData.int)) = false
    rw [ints_dict ns]; rfl
theorem ints_depth : ∀ ns : List Int, PyData.depthAll (ns.map PyData.int) ≤ 2
  | [] => by decide
  | n :: ns => by
    have ih := ints_depth ns
    have e : PyData.depthAll ((n :: ns).map PyData.int) = max (PyData.depth (.int n)) (PyData.depthAll (ns.map PyData.int)) := by
      simp only [List.map_cons, PyData.depthAll]
    have e0 : PyData.depth (.int n) ≤ 2 := by simp only [PyData.depth]; omega
    rw [e]
    omega
theorem ints_plain (ns : List Int) : Pf.plain (.list (ns.map PyData.int)) = true := by
  unfold Pf.plain
  have h1 : PyData.hasDict (.list (ns.map PyData.int)) = false := by simp only [PyData.hasDict]; exact ints_dict ns
  have h2 := ints_depth ns
  have h3 : PyData.depth (.list (ns.map PyData.int)) ≤ 64 := by simp only [PyData.depth]; omega
  rw [h1, decide_eq_true h3]
  rfl
theorem enum_in {L : List D} : ∀ {k : Nat} {d : D}, d ∈ enumD k L → ∃ (i : Nat) (e : D), d = .tuple [.int i, e] ∧ e ∈ L ∧ i < k + L.length := by
  induction L with
  | nil => intro k d h; cases h
  | cons a L ih =>
    intro k d h
    rcases List.mem_cons.mp (show d ∈ PyData.tuple [.int k, a] :: enumD (k + 1) L from h) with rfl | h
    · exact ⟨k, a, rfl, by simp, by simp⟩
    · obtain ⟨i, e, h1, h2, h3⟩ := ih h
      exact ⟨i, e, h1, List.mem_cons_of_mem _ h2, by rw [List.length_cons]; omega⟩
/-- what the main loop walks -/
theorem items_at {ns : List Int} {ρ : Sto} (h0 : getP ρ 0 = .ok (.list (ns.map PyData.int))) : ∃ L : List Int, L.length ≤ 21 ∧ semi g_law (.enum itE) ρ = .ok (enumD 0 (L.map PyData.int)) := by
  have t : ∃ b, sem g_law (.cmp .eq (.ex (.var 0)) (.ex (.lst .nil))) ρ = .ok (.bool b) := by
    refine ⟨PyData.eqv (.list (ns.map PyData.int)) (.list []), sem_cmp (x := .list (ns.map PyData.int)) (y := .list []) h0 rfl ?_⟩
    show eqD _ _ = _
    unfold eqD
    rw [if_pos ⟨ints_plain ns, by decide⟩]
  obtain ⟨b, hb⟩ := t
  have sl : sem g_law (.sl (.var 0) .none (.some (.int 20))) ρ = .ok (.list ((ns.take 20).map PyData.int)) := sem_sl6 (k := 20) h0 (by
    show Rs.ok (PyData.list (cut (ns.map PyData.int) none (some ((20 : Nat) : Int)))) = _
    rw [cut_hi, List.map_take])
  have ti : sem g_law (.ti .int (.cons (.cmp .eq (.ex (.var 0)) (.ex (.lst .nil))) .nil)) ρ = .ok (.int (if b then 1 else 0)) := by
    show ((sem g_law (.cmp .eq (.ex (.var 0)) (.ex (.lst .nil))) ρ).bind fun x => (Rs.ok []).bind fun xs => Rs.ok (x :: xs)).bind (fun ds => pur (tiD .int ds)) = _
    rw [hb]
    rfl
  have ml : sem g_law (.bin .mul (.lst (.cons (.int 7) .nil)) (.ti .int (.cons (.cmp .eq (.ex (.var 0)) (.ex (.lst .nil))) .nil))) ρ = .ok (.list ((if b then [7] else []).map PyData.int)) :=
    sem_bin (x := .list [.int 7]) (y := .int (if b then 1 else 0)) rfl ti (by cases b <;> rfl)
  refine ⟨ns.take 20 ++ (if b then [7] else []), ?_, ?_⟩
  · rw [List.length_append, List.length_take]
    cases b <;> simp <;> omega
  · show (sem g_law itE ρ).bind enumL = _
    unfold itE
    rw [sem_bin sl ml (z := .list ((ns.take 20 ++ (if b then [7] else [])).map PyData.int)) (by
      show (if ((ns.take 20).map PyData.int).length + ((if b then [7] else []).map PyData.int).length ≤ LIM then Rs.ok (PyData.list ((ns.take 20).map PyData.int ++ (if b then [7] else []).map PyData.int)) else Rs.bad) = _
      rw [if_pos (by
        rw [List.length_map, List.length_map, List.length_take]
        show _ ≤ 1000000
        cases b <;> simp <;> omega), List.map_append])]
    rfl
theorem law_ok : ∀ ns : List Int, ns.length ≤ 63 → m_law [.list (ns.map PyData.int)] = .ok (.bool true) := by
  intro ns _
  let SC : Option SV := some (.pd (.list (ns.map PyData.int)))
  let good : Sto → Prop := fun ρ => ∃ x1 x2 x3 x4 x5 x6 x7 x8 x9, ρ = [SC, x1, x2, x3, x4, x5, x6, x7, x8, x9]
  let ρ0 : Sto := [SC, none, none, none, none, none, none, none, none, none]
  obtain ⟨L, hL, it⟩ := items_at (ns := ns) (ρ := ρ0) rfl
  obtain ⟨ρ1, ⟨x1, x2, x3, x4, x5, x6, x7, x8, x9, rfl⟩, e1⟩ := forL_all (good := good) (step := fun d ρ' => (asgO (.tp [1, 2]) d ρ').seq (exes g_law cBody)) (ds := enumD 0 (L.map PyData.int)) (by
    rintro d hd ρ ⟨x1, x2, x3, x4, x5, x6, x7, x8, x9, rfl⟩
    obtain ⟨i, e, rfl, he, hi⟩ := enum_in hd
    obtain ⟨c, _, rfl⟩ := List.mem_map.mp he
    rw [List.length_map] at hi
    obtain ⟨p3, p4, p5, p6, p7, p8, t⟩ := c_turn (o0 := SC) (o3 := x3) (o4 := x4) (o5 := x5) (o6 := x6) (o7 := x7) (o8 := x8) (o9 := x9) (i := i) (c := c) (by omega)
    exact ⟨_, ⟨_, _, _, _, _, _, _, _, _, rfl⟩, t⟩) ρ0 ⟨none, none, none, none, none, none, none, none, none, rfl⟩
  obtain ⟨ρ2, _, e2⟩ := forL_all (good := good) (step := fun d ρ' => (asgO (.nm 9) d ρ').seq (exes g_law (.cons (.ife errE (.cons (.ret (.bl false)) .nil) .nil) .nil))) (ds := errVals) (by
    rintro d hd ρ ⟨x1, x2, x3, x4, x5, x6, x7, x8, x9, rfl⟩
    have ok := List.all_eq_true.mp errs d hd
    have e : sem g_law errE [SC, x1, x2, x3, x4, x5, x6, x7, x8, some (.pd d)] = .ok (.bool false) := okB_eq ok
    refine ⟨[SC, x1, x2, x3, x4, x5, x6, x7, x8, some (.pd d)], ⟨_, _, _, _, _, _, _, _, _, rfl⟩, ?_⟩
    show exes g_law (.cons (.ife errE (.cons (.ret (.bl false)) .nil) .nil) .nil) [SC, x1, x2, x3, x4, x5, x6, x7, x8, some (.pd d)] = _
    rw [ex_nx (ρ' := [SC, x1, x2, x3, x4, x5, x6, x7, x8, some (.pd d)]) (by rw [ife_f e]; rfl)]
    rfl) [SC, x1, x2, x3, x4, x5, x6, x7, x8, x9] ⟨_, _, _, _, _, _, _, _, _, rfl⟩
  have start : m_law [.list (ns.map PyData.int)] = out (exes g_law t_law ρ0) := rfl
  rw [start, law_is, ex_nx ((for_ok it).trans e1), ex_nx ((for_ok (ds := errVals) rfl).trans e2), ex_rt (ret_ok (d := .bool true) rfl)]
  rfl
end K46

open PySem PySem.W PyProof.Rows
set_option maxRecDepth 100000 in
set_option maxHeartbeats 0 in
theorem PySem.Challenge.cw_pagesasseen_k46_traps_holds : PySem.Challenge.rw_pagesasseen_k46_traps.Holds := by
  w_on; o_law; k_head; (case hw => w_witness2)
  k_fill
  refine Pf.walk_G (l := PySem.Challenge.rw_pagesasseen_k46_traps) (k := 15) (x := "_law_script") (m := K46.m_law) rfl (by decide) rfl ⟨rfl, by decide, by decide⟩ (fun w h Y => PySem.W.kIn_of Y) ?F K46.law_ok
  case F =>
    intro w mg fa h KX G hmg
    refine' K46.all KX G hmg ?a_InvalidAddress ?a_ArchiveError ?a_InvalidContent ?sx_InvalidAddress ?ty_InvalidAddress ?ic_InvalidAddress ?sx_ArchiveError ?ty_ArchiveError ?ic_ArchiveError ?sx_InvalidContent ?ty_InvalidContent ?ic_InvalidContent ?og ?ot ?lo_InvalidAddress ?oe_InvalidAddress ?hd_InvalidAddress ?tk0_InvalidAddress ?sa_InvalidAddress ?kc_InvalidAddress ?q1_InvalidAddress ?q2_InvalidAddress ?q3_InvalidAddress ?q4_InvalidAddress ?q5_InvalidAddress ?i_InvalidAddress ?f_InvalidAddress ?l_InvalidAddress ?c_InvalidAddress ?k_InvalidAddress ?rd_ArchiveError ?ga_ArchiveError ?v_ArchiveError ?e0 ?t0 ?e1 ?e2 ?t2 ?g_LETTERS ?g_DIGITS ?g_MAX_LENGTH ?g_MAX_SEGMENTS ?g_MAX_PARAMETERS ?b_all ?b_enumerate ?b_int ?b_isinstance ?b_len ?b_max ?b_range ?b_repr ?b_str ?a_is_name ?l_is_name ?c_is_name ?k_is_name ?a_is_value ?l_is_value ?c_is_value ?k_is_value ?a_split_query ?l_split_query ?c_split_query ?k_split_query ?a_is_query ?l_is_query ?c_is_query ?k_is_query ?a_is_address ?l_is_address ?c_is_address ?k_is_address ?a_require_address ?l_require_address ?c_require_address ?k_require_address ?a_segments_of ?l_segments_of ?c_segments_of ?k_segments_of ?a_is_trap ?l_is_trap ?c_is_trap ?k_is_trap ?a_l_numbers ?l_l_numbers ?c_l_numbers ?k_l_numbers ?a_l_segments ?l_l_segments ?c_l_segments ?k_l_segments ?a_l_want ?l_l_want ?c_l_want ?k_l_want ?a_l_error ?l_l_error ?c_l_error ?k_l_error ?a_law ?l_law ?c_law ?k_law
    (case a_InvalidAddress => k_is); (case a_ArchiveError => k_is); (case a_InvalidContent => k_is); (case sx_InvalidAddress => k_is); (case ty_InvalidAddress => k_is); (case ic_InvalidAddress => k_is)
    (case sx_ArchiveError => k_is); (case ty_ArchiveError => k_is); (case ic_ArchiveError => k_is); (case sx_InvalidContent => k_is); (case ty_InvalidContent => k_is); (case ic_InvalidContent => k_is)
    (case og => k_is); (case ot => k_is); (case lo_InvalidAddress => k_is); (case oe_InvalidAddress => decide +kernel); (case hd_InvalidAddress => k_is); (case tk0_InvalidAddress => k_is)
    (case sa_InvalidAddress => k_is); (case kc_InvalidAddress => k_is); (case q1_InvalidAddress => k_is); (case q2_InvalidAddress => k_is); (case q3_InvalidAddress => k_is); (case q4_InvalidAddress => k_is)
    (case q5_InvalidAddress => k_is); (case i_InvalidAddress => k_is); (case f_InvalidAddress => k_is); (case l_InvalidAddress => k_is); (case c_InvalidAddress => k_is); (case k_InvalidAddress => k_is)
    (case rd_ArchiveError => k_is); (case ga_ArchiveError => k_is); (case v_ArchiveError => k_is); (case e0 => k_is); (case t0 => decide +kernel); (case e1 => k_is)
    (case e2 => k_is); (case t2 => decide +kernel); (case g_LETTERS => k_is); (case g_DIGITS => k_is); (case g_MAX_LENGTH => k_is); (case g_MAX_SEGMENTS => k_is)
    (case g_MAX_PARAMETERS => k_is); (case b_all => k_is); (case b_enumerate => k_is); (case b_int => k_is); (case b_isinstance => k_is); (case b_len => k_is)
    (case b_max => k_is); (case b_range => k_is); (case b_repr => k_is); (case b_str => k_is); (case a_is_name => k_is); (case l_is_name => k_is)
    (case c_is_name => k_is); (case k_is_name => k_is); (case a_is_value => k_is); (case l_is_value => k_is); (case c_is_value => k_is); (case k_is_value => k_is)
    (case a_split_query => k_is); (case l_split_query => k_is); (case c_split_query => k_is); (case k_split_query => k_is); (case a_is_query => k_is); (case l_is_query => k_is)
    (case c_is_query => k_is); (case k_is_query => k_is); (case a_is_address => k_is); (case l_is_address => k_is); (case c_is_address => k_is); (case k_is_address => k_is)
    (case a_require_address => k_is); (case l_require_address => k_is); (case c_require_address => k_is); (case k_require_address => k_is); (case a_segments_of => k_is); (case l_segments_of => k_is)
    (case c_segments_of => k_is); (case k_segments_of => k_is); (case a_is_trap => k_is); (case l_is_trap => k_is); (case c_is_trap => k_is); (case k_is_trap => k_is)
    (case a_l_numbers => k_is); (case l_l_numbers => k_is); (case c_l_numbers => k_is); (case k_l_numbers => k_is); (case a_l_segments => k_is); (case l_l_segments => k_is)
    (case c_l_segments => k_is); (case k_l_segments => k_is); (case a_l_want => k_is); (case l_l_want => k_is); (case c_l_want => k_is); (case k_l_want => k_is)
    (case a_l_error => k_is); (case l_l_error => k_is); (case c_l_error => k_is); (case k_l_error => k_is); (case a_law => k_is); (case l_law => k_is)
    (case c_law => k_is); (case k_law => k_is)

