import PyProof.Rows.All
import Wide.All
import OpenK.AllK
import Wide.FinOn
import HandS.ForMost
import HandS.Exc
import HandS.ExcOwn
import HandS.CallSlots
import HandS.WordsExc
import HandS.Deep
import HandS.FStr
import HandS.IsInst
import HandS.TryOnly
import HandS.ExcField
import HandS.ExcIs
import HandS.TupAny
import HandS.Style
import HandS.More
import HandS.RaiseMore
import HandS.Small
import KE.SortData
import KE.DataMinMax
import HandS.Codes
import HandS.Walk
import HandS.SetBool
import HandS.SetKeys
import HandS.ExcInit
import HandS.ClsMeth
import KE.KExcInit
import HandS.TryMany
import PyProof.Rows.SetFrom
import HandS.ReplaceLit
import PyProof.Rows.StrCase
import HandS.ReplaceList
import HandS.Dict
import PySem.Challenge.RW_pagesasseen_k01_valid_addresses
set_option Elab.async false
set_option linter.all false
set_option maxRecDepth 100000
/-! The ground of the layer: values by content (PyData), the slots of a def by content, and how they stand in the abstract heap. -/
namespace Pf
open PySem PySem.Spec L2

abbrev D := PyData
/-- an exception by content: its class, its one attribute's name, that attribute -/
structure EX where
  cls : Str
  attr : Str
  val : D
/-- what a slot holds: data that nobody changes; a list of our own that may still grow; an exception -/
inductive SV where
  | pd (d : D)
  | own (xs : List D)
  | exc (e : EX)
abbrev Sto := List (Option SV)
/-- the exception that the suite around holds: its object, its dict, its class by name -/
abbrev XP := Option (Addr × Addr × Str)
inductive Rs (α : Type) where
  | ok (a : α)
  | ex (e : EX)
  | bad
namespace Rs
def bind {α β : Type} : Rs α → (α → Rs β) → Rs β
  | ok a, f => f a
  | ex e, _ => ex e
  | bad, _ => bad
@[simp] theorem bind_ok {α β : Type} (a : α) (f : α → Rs β) : (Rs.ok a).bind f = f a := rfl
@[simp] theorem bind_ex {α β : Type} (e : EX) (f : α → Rs β) : (Rs.ex e : Rs α).bind f = .ex e := rfl
@[simp] theorem bind_bad {α β : Type} (f : α → Rs β) : (Rs.bad : Rs α).bind f = .bad := rfl
theorem bind_assoc {α β γ : Type} (m : Rs α) (f : α → Rs β) (g : β → Rs γ) : (m.bind f).bind g = m.bind fun a => (f a).bind g := by cases m <;> rfl
end Rs

/-! ### the heap without the lists that may still change -/
def msk (H : Hp) (O : List Addr) : Hp := fun b => if b ∈ O then none else H b
theorem msk_in {H : Hp} {O : List Addr} {b : Addr} (h : b ∈ O) : msk H O b = none := if_pos h
theorem msk_out {H : Hp} {O : List Addr} {b : Addr} (h : b ∉ O) : msk H O b = H b := if_neg h
theorem msk_some {H : Hp} {O : List Addr} {b : Addr} {o : HO} (h : msk H O b = some o) : b ∉ O ∧ H b = some o := by
  by_cases hb : b ∈ O
  · rw [msk_in hb] at h; cases h
  · rw [msk_out hb] at h; exact ⟨hb, h⟩
theorem msk_nil (H : Hp) : msk H [] = H := by funext b; exact msk_out (by simp)
theorem msk_sub {H : Hp} {O : List Addr} : Same (msk H O) H := fun b o h => (msk_some h).2
theorem msk_same {H H' : Hp} {O : List Addr} (s : Same H H') : Same (msk H O) (msk H' O) := fun b o h => by
  obtain ⟨h1, h2⟩ := msk_some h
  rw [msk_out h1]; exact s b o h2
/-- what is new is not among ours -/
def Thr (H : Hp) (O : List Addr) : Prop := ∀ a ∈ O, H a ≠ none
theorem Thr.same {H H' : Hp} {O : List Addr} (t : Thr H O) (s : Same H H') : Thr H' O := fun a h e => by
  cases q : H a with
  | none => exact t a h q
  | some o => rw [s a o q] at e; cases e
theorem Thr.out {H : Hp} {O : List Addr} (t : Thr H O) {p : Addr} (h : H p = none) : p ∉ O := fun z => t p z h
theorem same_new {H : Hp} {p : Addr} {o : HO} (h : H p = none) : Same H (upd H p o) := fun b u e => by
  rw [upd_ne (ne_of_none e h)]; exact e
theorem Same.seqT {K : PySem.W.Frag} {H H' : Hp} {a : Addr} {xs : List V} (e : Same H H') (h : SqT K H a xs) : SqT K H' a xs := by
  rcases h with (h | ⟨o, h⟩) | h
  · exact .inl (.inl (e a _ h))
  · exact .inl (.inr ⟨o, e a _ h⟩)
  · exact .inr h

theorem Same.rd {H H' : Hp} {a : Addr} {u : HO} (e : Same H H') (h : Rd H a u) : Rd H' a u := by
  rcases h with h | ⟨o, h⟩
  · exact .inl (e a _ h)
  · exact .inr ⟨o, e a _ h⟩
/-- a list to be read: tracked, locked, or an object of the module's own -/
def RL (K : PySem.W.Frag) (H : Hp) (a : Addr) (xs : List V) : Prop :=
  Rd H a (.lst xs) ∨ ∃ (its : Array Value) (n : Nat), K.lookup a = some { cls := .type "list", data := .seq its n } ∧ its.size ≤ sizeLine ∧ Vals xs its.toList
theorem Same.rl {K : PySem.W.Frag} {H H' : Hp} {a : Addr} {xs : List V} (e : Same H H') (h : RL K H a xs) : RL K H' a xs := h.imp (Same.rd e) id
theorem RL.sq {K : PySem.W.Frag} {H : Hp} {a : Addr} {xs : List V} (h : RL K H a xs) : SqL K H a xs := by
  rcases h with h | ⟨its, n, h1, h2, h3⟩
  · exact .inl h
  · exact .inr ⟨_, its, n, h1, rfl, rfl, rfl, h2, h3⟩
/-- the most that a text, a list, a tuple may hold here -/
abbrev LIM : Nat := 1000000
/-- plain signs -/
def asc (x : Str) : Bool := x.cps.toList.all fun c => decide (c < 128)
def keyD : Key → D
  | .inl i => .int i
  | .inr x => .str x
/-! data as it stands: what Dp says, dicts besides, with the bounds that every operation keeps -/
mutual
inductive Dn (K : PySem.W.Frag) (H : Hp) : V → D → Prop
  | non : Dn K H .non .none
  | bl (b : Bool) : Dn K H (.bl b) (.bool b)
  | int (i : Int) : Dn K H (.int i) (.int i)
  | str {x : Str} : asc x = true → x.length ≤ LIM → Dn K H (.str x) (.str x)
  | lst {a : Addr} {xs : List V} {ds : List D} : RL K H a xs → xs.length ≤ LIM → DnAll K H xs ds → Dn K H (.ref a) (.list ds)
  | tup {a : Addr} {xs : List V} {ds : List D} : SqT K H a xs → xs.length ≤ LIM → DnAll K H xs ds → Dn K H (.ref a) (.tuple ds)
  | dct {a : Addr} {kvs : List (Key × V)} {ds : List (D × D)} : H a = some (.dK kvs) → kvs.length ≤ LIM → DnKV K H kvs ds → Dn K H (.ref a) (.dict ds)
inductive DnAll (K : PySem.W.Frag) (H : Hp) : List V → List D → Prop
  | nil : DnAll K H [] []
  | cons {v : V} {vs : List V} {d : D} {ds : List D} : Dn K H v d → DnAll K H vs ds → DnAll K H (v :: vs) (d :: ds)
inductive DnKV (K : PySem.W.Frag) (H : Hp) : List (Key × V) → List (D × D) → Prop
  | nil : DnKV K H [] []
  | cons {k : Key} {v : V} {vs : List (Key × V)} {d : D} {ds : List (D × D)} : Dn K H v d → DnKV K H vs ds → DnKV K H ((k, v) :: vs) ((keyD k, d) :: ds)
end

mutual
theorem dp_mono {K : PySem.W.Frag} {H H' : Hp} (s : Same H H') : ∀ {v : V} {d : D}, Dn K H v d → Dn K H' v d
  | _, _, .non => .non
  | _, _, .bl b => .bl b
  | _, _, .int i => .int i
  | _, _, .str h l => .str h l
  | _, _, .lst h l a => .lst (Same.rl s h) l (dpAll_mono s a)
  | _, _, .tup h l a => .tup (Same.seqT s h) l (dpAll_mono s a)
  | _, _, .dct h l a => .dct (s _ _ h) l (dpKV_mono s a)
theorem dpAll_mono {K : PySem.W.Frag} {H H' : Hp} (s : Same H H') : ∀ {vs : List V} {ds : List D}, DnAll K H vs ds → DnAll K H' vs ds
  | _, _, .nil => .nil
  | _, _, .cons h t => .cons (dp_mono s h) (dpAll_mono s t)
theorem dpKV_mono {K : PySem.W.Frag} {H H' : Hp} (s : Same H H') : ∀ {vs : List (Key × V)} {ds : List (D × D)}, DnKV K H vs ds → DnKV K H' vs ds
  | _, _, .nil => .nil
  | _, _, .cons h t => .cons (dp_mono s h) (dpKV_mono s t)
end
/-! data without a dict, not too deep: what == takes -/
def plain (d : D) : Bool := !d.hasDict && decide (d.depth ≤ 64)
mutual
theorem dn_dp {K : PySem.W.Frag} {H : Hp} : ∀ {v : V} {d : D}, Dn K H v d → d.hasDict = false → Dp K H v d
  | _, _, .non, _ => .non
  | _, _, .bl b, _ => .bl b
  | _, _, .int i, _ => .int i
  | _, _, .str _ _, _ => .str _
  | _, _, .lst h _ a, e => .lst h.sq (dnAll_dp a (by simpa only [PyData.hasDict] using e))
  | _, _, .tup h _ a, e => .tup h (dnAll_dp a (by simpa only [PyData.hasDict] using e))
  | _, _, .dct _ _ _, e => by simp [PyData.hasDict] at e
theorem dnAll_dp {K : PySem.W.Frag} {H : Hp} : ∀ {vs : List V} {ds : List D}, DnAll K H vs ds → PyData.hasDictAll ds = false → DpAll K H vs ds
  | _, _, .nil, _ => .nil
  | _, _, .cons h t, e => by
    simp only [PyData.hasDictAll, Bool.or_eq_false_iff] at e
    exact .cons (dn_dp h e.1) (dnAll_dp t e.2)
end
theorem asc_ok {x : Str} (h : asc x = true) : PySem.PyData.strOk x = true := by
  unfold asc at h
  unfold PySem.PyData.strOk
  rw [← Array.all_toList]
  refine List.all_eq_true.mpr fun c hc => ?_
  have := List.all_eq_true.mp h c hc
  simp at this ⊢
  omega
mutual
theorem dn_lay {K : PySem.W.Frag} {H : Hp} : ∀ {v : V} {d : D}, Dn K H v d → d.hasDict = false → d.canLay0 = true
  | _, _, .non, _ => rfl
  | _, _, .bl b, _ => rfl
  | _, _, .int i, _ => rfl
  | _, _, .str h _, _ => by simp only [PyData.canLay0]; exact asc_ok h
  | _, _, .lst h _ a, e => by simp only [PyData.canLay0]; exact dnAll_lay a (by simpa only [PyData.hasDict] using e)
  | _, _, .tup h _ a, e => by simp only [PyData.canLay0]; exact dnAll_lay a (by simpa only [PyData.hasDict] using e)
  | _, _, .dct _ _ _, e => by simp [PyData.hasDict] at e
theorem dnAll_lay {K : PySem.W.Frag} {H : Hp} : ∀ {vs : List V} {ds : List D}, DnAll K H vs ds → PyData.hasDictAll ds = false → PyData.canLayAll0 ds = true
  | _, _, .nil, _ => rfl
  | _, _, .cons h t, e => by
    simp only [PyData.hasDictAll, Bool.or_eq_false_iff] at e
    simp only [PyData.canLayAll0, Bool.and_eq_true]
    exact ⟨dn_lay h e.1, dnAll_lay t e.2⟩
end
theorem dn_shaped {K : PySem.W.Frag} {H : Hp} {v : V} {d : D} (h : Dn K H v d) (p : plain d = true) : Dp K H v d ∧ SeqAt.shaped d = true := by
  simp only [plain, Bool.and_eq_true, Bool.not_eq_true'] at p
  exact ⟨dn_dp h p.1, by simp only [SeqAt.shaped, Bool.and_eq_true]; exact ⟨dn_lay h p.1, p.2⟩⟩

section
variable {K : PySem.W.Frag} {H : Hp}
theorem dpAll_len : ∀ {vs : List V} {ds : List D}, DnAll K H vs ds → vs.length = ds.length
  | _, _, .nil => rfl
  | _, _, .cons _ t => congrArg Nat.succ (dpAll_len t)
theorem dpAll_get : ∀ {vs : List V} {ds : List D} {i : Nat} {d : D}, DnAll K H vs ds → ds[i]? = some d → ∃ v, vs[i]? = some v ∧ Dn K H v d
  | _, _, _, _, .nil, e => by simp at e
  | _, _, 0, _, .cons h _, e => by simp at e; subst e; exact ⟨_, rfl, h⟩
  | _, _, i + 1, d, .cons _ t, e => by
    obtain ⟨v, h1, h2⟩ := dpAll_get (i := i) (d := d) t (by simpa using e)
    exact ⟨v, by simpa using h1, h2⟩
theorem dpAll_get' : ∀ {vs : List V} {ds : List D} {i : Nat} {v : V}, DnAll K H vs ds → vs[i]? = some v → ∃ d, ds[i]? = some d ∧ Dn K H v d
  | _, _, _, _, .nil, e => by simp at e
  | _, _, 0, _, .cons h _, e => by simp at e; subst e; exact ⟨_, rfl, h⟩
  | _, _, i + 1, d, .cons _ t, e => by
    obtain ⟨v, h1, h2⟩ := dpAll_get' (i := i) (v := d) t (by simpa using e)
    exact ⟨v, by simpa using h1, h2⟩
theorem dpAll_app : ∀ {vs ws : List V} {ds es : List D}, DnAll K H vs ds → DnAll K H ws es → DnAll K H (vs ++ ws) (ds ++ es)
  | _, _, _, _, .nil, s => s
  | _, _, _, _, .cons h t, s => .cons h (dpAll_app t s)
theorem dpAll_take : ∀ {vs : List V} {ds : List D} (n : Nat), DnAll K H vs ds → DnAll K H (vs.take n) (ds.take n)
  | _, _, 0, _ => .nil
  | _, _, _ + 1, .nil => .nil
  | _, _, n + 1, .cons h t => .cons h (dpAll_take n t)
theorem dpAll_drop : ∀ {vs : List V} {ds : List D} (n : Nat), DnAll K H vs ds → DnAll K H (vs.drop n) (ds.drop n)
  | _, _, 0, h => h
  | _, _, _ + 1, .nil => .nil
  | _, _, n + 1, .cons _ t => dpAll_drop n t
theorem dpAll_set {v : V} {d : D} (h : Dn K H v d) : ∀ {vs : List V} {ds : List D} (n : Nat), DnAll K H vs ds → DnAll K H (vs.set n v) (ds.set n d)
  | _, _, _, .nil => .nil
  | _, _, 0, .cons _ t => .cons h t
  | _, _, n + 1, .cons g t => .cons g (dpAll_set h n t)
theorem dpAll_rep {vs : List V} {ds : List D} (h : DnAll K H vs ds) : ∀ n : Nat, DnAll K H (List.replicate n vs).flatten (List.replicate n ds).flatten
  | 0 => .nil
  | n + 1 => by
    rw [List.replicate_succ, List.replicate_succ, List.flatten_cons, List.flatten_cons]
    exact dpAll_app h (dpAll_rep h n)
theorem dpAll_rev : ∀ {vs : List V} {ds : List D}, DnAll K H vs ds → DnAll K H vs.reverse ds.reverse
  | _, _, .nil => .nil
  | _, _, .cons a b => by rw [List.reverse_cons, List.reverse_cons]; exact dpAll_app (dpAll_rev b) (.cons a .nil)
theorem dpAll_strs : ∀ xs : List Str, (∀ x ∈ xs, asc x = true ∧ x.length ≤ LIM) → DnAll K H (xs.map V.str) (xs.map PyData.str)
  | [], _ => .nil
  | x :: xs, h => .cons (.str (h x (by simp)).1 (h x (by simp)).2) (dpAll_strs xs fun y hy => h y (List.mem_cons_of_mem _ hy))
theorem dpAll_ints : ∀ xs : List Int, DnAll K H (xs.map V.int) (xs.map PyData.int)
  | [] => .nil
  | x :: xs => .cons (.int x) (dpAll_ints xs)
end

/-! ### slots by content -/
/-- how a slot's content stands; xp: the exception that the suite around holds, its object and its dict -/
def SlotOk (K : PySem.W.Frag) (xp : XP) (H : Hp) (O : List Addr) : SV → V → Prop
  | .pd d, v => Dn K (msk H O) v d
  | .own xs, v => ∃ a vs, v = .ref a ∧ a ∈ O ∧ H a = some (.lst vs) ∧ DnAll K (msk H O) vs xs
  | .exc e, v => ∃ a dd w, xp = some (a, dd, e.cls) ∧ v = .ref a ∧ msk H O dd = some (.xd [(e.attr, w)]) ∧ Dn K (msk H O) w e.val
structure Rel (K : PySem.W.Frag) (xp : XP) (σ : St) (H : Hp) (ρ : Sto) (O : List Addr) : Prop where
  len : σ.length = ρ.length
  at_ : ∀ (i : Nat) (s : SV), ρ[i]? = some (some s) → ∃ v, σ[i]? = some (some v) ∧ SlotOk K xp H O s v
  inj : ∀ (i j : Nat) (xs ys : List D) (v : V), ρ[i]? = some (some (.own xs)) → ρ[j]? = some (some (.own ys)) → σ[i]? = some (some v) → σ[j]? = some (some v) → i = j
  thr : Thr H O
theorem SlotOk.mono {K : PySem.W.Frag} {xp : XP} {H H' : Hp} {O : List Addr} {s : SV} {v : V} (e : Same H H') (h : SlotOk K xp H O s v) : SlotOk K xp H' O s v := by
  cases s with
  | pd d => exact dp_mono (msk_same e) h
  | own xs =>
    obtain ⟨a, vs, h1, h2, h3, h4⟩ := h
    exact ⟨a, vs, h1, h2, e _ _ h3, dpAll_mono (msk_same e) h4⟩
  | exc x =>
    obtain ⟨a, dd, w, h1, h2, h3, h4⟩ := h
    exact ⟨a, dd, w, h1, h2, msk_same e _ _ h3, dp_mono (msk_same e) h4⟩
theorem Rel.mono {K : PySem.W.Frag} {xp : XP} {σ : St} {H H' : Hp} {ρ : Sto} {O : List Addr} (r : Rel K xp σ H ρ O) (e : Same H H') : Rel K xp σ H' ρ O :=
  ⟨r.len, fun i s h => let ⟨v, h1, h2⟩ := r.at_ i s h; ⟨v, h1, h2.mono e⟩, r.inj, r.thr.same e⟩
theorem get_set {α : Type} {l : List α} {i j : Nat} {x y : α} (h : (l.set i x)[j]? = some y) : (i = j ∧ y = x) ∨ (i ≠ j ∧ l[j]? = some y) := by
  by_cases e : i = j
  · subst e
    rw [List.getElem?_set_self'] at h
    cases q : l[i]? with
    | none => rw [q] at h; cases h
    | some z => rw [q] at h; exact .inl ⟨rfl, (Option.some.inj h).symm⟩
  · rw [List.getElem?_set_ne e] at h; exact .inr ⟨e, h⟩
/-- a slot takes data -/
theorem Rel.set {K : PySem.W.Frag} {xp : XP} {σ : St} {H : Hp} {ρ : Sto} {O : List Addr} (r : Rel K xp σ H ρ O) {i : Nat} {v : V} {d : D} (h : Dn K (msk H O) v d) : Rel K xp (σ.set i (some v)) H (ρ.set i (some (.pd d))) O := by
  refine ⟨by simp [r.len], fun j s q => ?_, fun j k xs ys u q1 q2 p1 p2 => ?_, r.thr⟩
  · rcases get_set q with ⟨rfl, e⟩ | ⟨ne, e⟩
    · obtain rfl := Option.some.inj e
      have hl : i < σ.length := by rw [r.len]; have := (List.getElem?_eq_some_iff.mp q).1; simpa using this
      exact ⟨v, by rw [List.getElem?_set_self hl], h⟩
    · rw [List.getElem?_set_ne ne]; exact r.at_ j s e
  · rcases get_set q1 with ⟨rfl, e⟩ | ⟨ne, e⟩
    · exact absurd (Option.some.inj e) (by intro z; cases z)
    · rcases get_set q2 with ⟨rfl, e'⟩ | ⟨ne', e'⟩
      · exact absurd (Option.some.inj e') (by intro z; cases z)
      · rw [List.getElem?_set_ne ne] at p1; rw [List.getElem?_set_ne ne'] at p2
        exact r.inj j k xs ys u e e' p1 p2
/-- a slot is emptied -/
theorem Rel.unset {K : PySem.W.Frag} {xp : XP} {σ : St} {H : Hp} {ρ : Sto} {O : List Addr} (r : Rel K xp σ H ρ O) (i : Nat) (x : Option V) : Rel K xp (σ.set i x) H (ρ.set i none) O := by
  refine ⟨by simp [r.len], fun j s q => ?_, fun j k xs ys u q1 q2 p1 p2 => ?_, r.thr⟩
  · rcases get_set q with ⟨rfl, e⟩ | ⟨ne, e⟩
    · cases e
    · rw [List.getElem?_set_ne ne]; exact r.at_ j s e
  · rcases get_set q1 with ⟨rfl, e⟩ | ⟨ne, e⟩
    · cases e
    · rcases get_set q2 with ⟨rfl, e'⟩ | ⟨ne', e'⟩
      · cases e'
      · rw [List.getElem?_set_ne ne] at p1; rw [List.getElem?_set_ne ne'] at p2
        exact r.inj j k xs ys u e e' p1 p2
theorem msk_cons_sub {H : Hp} {O : List Addr} {p : Addr} : Same (msk H (p :: O)) (msk H O) := fun b o h => by
  obtain ⟨h1, h2⟩ := msk_some h
  rw [msk_out fun z => h1 (List.mem_cons_of_mem _ z)]; exact h2
theorem msk_cons_new {H H' : Hp} {O : List Addr} {p : Addr} (hp : H p = none) (s : Same H H') : Same (msk H O) (msk H' (p :: O)) := fun b o h => by
  obtain ⟨h1, h2⟩ := msk_some h
  rw [msk_out fun z => ?_]
  · exact s b o h2
  · rcases List.mem_cons.mp z with rfl | z
    · rw [hp] at h2; cases h2
    · exact h1 z
end Pf

set_option Elab.async false
set_option linter.all false
set_option maxRecDepth 100000
/-! The readings by content, and the small steps of expressions. -/
namespace Pf
open PySem PySem.Spec L2

/-- an exception by content, as its class and its dict stand -/
def ExAt (K : PySem.W.Frag) (mg : Str → Option Value) (F : Hp) (e : EX) (cls : Value) (d : Option Addr) : Prop :=
  ∃ C dd w, cls = .ref C ∧ d = some dd ∧ mg e.cls = some (.ref C) ∧ F dd = some (.xd [(e.attr, w)]) ∧ Dn K F w e.val
theorem ExAt.mono {K : PySem.W.Frag} {mg : Str → Option Value} {F F' : Hp} {e : EX} {cls : Value} {d : Option Addr} (h : ExAt K mg F e cls d) (s : Same F F') : ExAt K mg F' e cls d := by
  obtain ⟨C, dd, w, h1, h2, h3, h4, h5⟩ := h
  exact ⟨C, dd, w, h1, h2, h3, s _ _ h4, dp_mono s h5⟩
/-- what is wanted of an outcome -/
def End (K : PySem.W.Frag) (mg : Str → Option Value) (W : WX) (O : List Addr) (σ : St) (H : Hp) {α : Type} (P : α → Hp → Prop) : Rs α → Prop
  | .ok a => ∀ H', Same H H' → P a H'
  | .ex e => ∀ H' cls d, Same H H' → ExAt K mg (msk H' O) e cls d → W cls d σ H'
  | .bad => False
section
variable {K : PySem.W.Frag} {mg : Str → Option Value} {W : WX} {O : List Addr} {σ : St} {H : Hp} {α β : Type} {P P' : α → Hp → Prop}
theorem End.grow {H1 : Hp} {r : Rs α} (h : End K mg W O σ H P r) (s : Same H H1) : End K mg W O σ H1 P r := by
  cases r with
  | ok a => exact fun H' s' => h H' (s.trans s')
  | ex e => exact fun H' c d s' => h H' c d (s.trans s')
  | bad => exact h
theorem End.imp {r : Rs α} (h : End K mg W O σ H P r) (k : ∀ a H', r = .ok a → Same H H' → P a H' → P' a H') : End K mg W O σ H P' r := by
  cases r with
  | ok a => exact fun H' s' => k a H' rfl s' (h H' s')
  | ex e => exact h
  | bad => exact h
theorem End.bind {m : Rs β} {k : β → Rs α} (h : End K mg W O σ H P (m.bind k)) : End K mg W O σ H (fun b H1 => End K mg W O σ H1 P (k b)) m := by
  cases m with
  | ok a => exact fun H' s' => End.grow h s'
  | ex e => exact h
  | bad => exact h
theorem End.ok {a : α} (h : End K mg W O σ H P (.ok a)) : P a H := h H (Same.refl H)
end
def rdE (K : PySem.W.Frag) (mg : Str → Option Value) (xp : XP) (W : WX) (f : Sto → Rs D) : TE := fun σ H Q => ∃ ρ O, Rel K xp σ H ρ O ∧ End K mg W O σ H (fun d H' => ∀ v, Dn K (msk H' O) v d → Q v H') (f ρ)
/-- the value may lean on lists that are still ours -/
def rdL (K : PySem.W.Frag) (mg : Str → Option Value) (xp : XP) (W : WX) (f : Sto → Rs D) : TE := fun σ H Q => ∃ ρ O, Rel K xp σ H ρ O ∧ End K mg W O σ H (fun d H' => ∀ v, Dn K H' v d → Q v H') (f ρ)
/-- a list that was made for this -/
def rdF (K : PySem.W.Frag) (mg : Str → Option Value) (xp : XP) (W : WX) (f : Sto → Rs (List D)) : TE := fun σ H Q => ∃ ρ O, Rel K xp σ H ρ O ∧
  End K mg W O σ H (fun ds H' => ∀ p vs, H p = none → H' p = some (.lst vs) → vs.length ≤ LIM → DnAll K (msk H' (p :: O)) vs ds → Q (.ref p) H') (f ρ)
def rdT (K : PySem.W.Frag) (mg : Str → Option Value) (xp : XP) (W : WX) (f : Sto → Rs Bool) : TT := fun σ H Q => ∃ ρ O, Rel K xp σ H ρ O ∧ End K mg W O σ H (fun b H' => Q b H') (f ρ)
def rdA (K : PySem.W.Frag) (mg : Str → Option Value) (xp : XP) (W : WX) (f : Sto → Rs (List D)) : TA := fun σ H Q => ∃ ρ O, Rel K xp σ H ρ O ∧ End K mg W O σ H (fun ds H' => ∀ vs, DnAll K (msk H' O) vs ds → Q vs H') (f ρ)
abbrev CE (X : Cx) (xp : XP) (W : WX) (e : Expr) (f : Sto → Rs D) : Prop := PE X e (rdE X.K X.mg xp W f)
abbrev CL (X : Cx) (xp : XP) (W : WX) (e : Expr) (f : Sto → Rs D) : Prop := PE X e (rdL X.K X.mg xp W f)
abbrev CF (X : Cx) (xp : XP) (W : WX) (e : Expr) (f : Sto → Rs (List D)) : Prop := PE X e (rdF X.K X.mg xp W f)
abbrev CT (X : Cx) (xp : XP) (W : WX) (e : Expr) (f : Sto → Rs Bool) : Prop := PT X e (rdT X.K X.mg xp W f)
abbrev CA (X : Cx) (xp : XP) (W : WX) (es : List Expr) (f : Sto → Rs (List D)) : Prop := L2.PA X es (rdA X.K X.mg xp W f)

section
variable {X : Cx} {xp : XP} {W : WX} {e : Expr}
theorem pe_imp {t t' : TE} (h : PE X e t) (k : ∀ σ H Q, t' σ H Q → t σ H Q) : PE X e t' := ⟨fun pins s σ H Q I q => h.run pins s σ H Q I (k σ H Q q)⟩
theorem pt_imp {t t' : TT} (h : PT X e t) (k : ∀ σ H Q, t' σ H Q → t σ H Q) : PT X e t' := ⟨fun pins s σ H Q I q => h.run pins s σ H Q I (k σ H Q q)⟩
theorem pw_imp {t t' : TT} (h : PW X e t) (k : ∀ σ H Q, t' σ H Q → t σ H Q) : PW X e t' := ⟨fun wh pins s σ H Q I q => h.run wh pins s σ H Q I (k σ H Q q)⟩
theorem pa_imp {es : List Expr} {t t' : TA} (h : L2.PA X es t) (k : ∀ σ H Q, t' σ H Q → t σ H Q) : L2.PA X es t' := ⟨fun pos pins s σ H Q I q => h.run pos pins s σ H Q I (k σ H Q q)⟩
theorem CE.lax {f : Sto → Rs D} (h : CE X xp W e f) : CL X xp W e f := pe_imp h fun σ H Q ⟨ρ, O, R, q⟩ => ⟨ρ, O, R, q.imp fun d H' _ s k v hv => k v (dp_mono msk_sub hv)⟩
theorem rd_fresh {K : PySem.W.Frag} {H H' : Hp} {O : List Addr} {p : Addr} {vs : List V} {ds : List D} (t : Thr H O) (hp : H p = none) (h : H' p = some (.lst vs)) (hl : vs.length ≤ LIM) (a : DnAll K (msk H' (p :: O)) vs ds) : Dn K (msk H' O) (.ref p) (.list ds) :=
  .lst (.inl (.inl (by rw [msk_out (t.out hp)]; exact h))) hl (dpAll_mono msk_cons_sub a)
theorem CF.ce {f : Sto → Rs (List D)} (h : CF X xp W e f) : CE X xp W e (fun ρ => (f ρ).bind fun ds => .ok (.list ds)) := pe_imp h fun σ H Q ⟨ρ, O, R, q⟩ => ⟨ρ, O, R, (End.bind q).imp fun ds H' _ s k p vs hp h1 hl h2 => k.ok _ (rd_fresh R.thr hp h1 hl h2)⟩

/-! ### names, constants -/
def getP (ρ : Sto) (i : Nat) : Rs D := match ρ[i]? with
  | some (some (.pd d)) => .ok d
  | _ => .bad
/-- .. a list of ours, only looked at -/
def getO (ρ : Sto) (i : Nat) : Rs D := match ρ[i]? with
  | some (some (.own xs)) => if xs.length ≤ LIM then .ok (.list xs) else .bad
  | _ => .bad
theorem ce_var {i : Nat} {x : Str} {pos : Pos} (hN : X.N[i]? = some x) (hv : Vis X.env.scope x) (hd : (x == ("__debug__" : Str)) = false) (hcd : (x == ("__classdict__" : Str)) = false) : CE X xp W (.Name x pos) (fun ρ => getP ρ i) :=
  pe_imp (pe_var hN hv hd hcd) fun σ H Q ⟨ρ, O, R, q⟩ => by
    have q : End X.K X.mg W O σ H (fun d H' => ∀ (v : V), Dn X.K (msk H' O) v d → Q v H') (getP ρ i) := q
    unfold getP at q
    split at q
    · rename_i d e
      obtain ⟨v, h1, h2⟩ := R.at_ i _ e
      exact ⟨v, h1, q.ok v h2⟩
    · exact q.elim
theorem cl_var {i : Nat} {x : Str} {pos : Pos} (hN : X.N[i]? = some x) (hv : Vis X.env.scope x) (hd : (x == ("__debug__" : Str)) = false) (hcd : (x == ("__classdict__" : Str)) = false) : CL X xp W (.Name x pos) (fun ρ => getO ρ i) :=
  pe_imp (pe_var hN hv hd hcd) fun σ H Q ⟨ρ, O, R, q⟩ => by
    have q : End X.K X.mg W O σ H (fun d H' => ∀ (v : V), Dn X.K H' v d → Q v H') (getO ρ i) := q
    unfold getO at q
    split at q
    · rename_i xs e
      obtain ⟨v, h1, a, vs, rfl, h3, h4, h5⟩ := R.at_ i _ e
      by_cases hl : xs.length ≤ LIM
      · rw [if_pos hl] at q
        exact ⟨_, h1, q.ok _ (.lst (.inl (.inl h4)) (by rw [dpAll_len h5]; exact hl) (dpAll_mono msk_sub h5))⟩
      · rw [if_neg hl] at q
        exact q.elim
    · exact q.elim
theorem ce_const {v : V} {d : D} (h : PE X e (tC v)) (hd : ∀ F, Dn X.K F v d) : CE X xp W e (fun _ => .ok d) := pe_imp h fun σ H Q ⟨ρ, O, R, q⟩ => q.ok v (hd _)
theorem ce_int {i j pos} : CE X xp W (.Constant (.int i) j pos) (fun _ => .ok (.int i)) := ce_const pe_int fun _ => .int i
theorem ce_bl {i j pos} : CE X xp W (.Constant (.bool i) j pos) (fun _ => .ok (.bool i)) := ce_const pe_bl fun _ => .bl i
theorem ce_non {j pos} : CE X xp W (.Constant .none j pos) (fun _ => .ok .none) := ce_const pe_non fun _ => .non
theorem ce_str {x j pos} (h : asc x = true) (hl : x.length ≤ LIM) : CE X xp W (.Constant (.str x) j pos) (fun _ => .ok (.str x)) := ce_const pe_str fun _ => .str h hl

/-! ### operations on values -/
/-- the reading r of a two-place operation serves g -/
def Okk (r : Rs D) (P : D → Prop) : Prop := match r with
  | .ok d => P d
  | _ => False
theorem Okk.imp {r : Rs D} {P P' : D → Prop} (h : Okk r P) (k : ∀ d, P d → P' d) : Okk r P' := by
  cases r with
  | ok d => exact k d h
  | ex e => exact h
  | bad => exact h
def Im2 (K : PySem.W.Frag) (r : R2) (g : D → D → Rs D) : Prop := ∀ (H : Hp) (O : List Addr) (x y : V) (dx dy : D) (Q : VK), Thr H O → Dn K (msk H O) x dx → Dn K (msk H O) y dy →
  Okk (g dx dy) (fun d => ∀ v H', Same H H' → Dn K (msk H' O) v d → Q v H') → r x y H Q
/-- .. whose answer is flat, the operands only looked at -/
def Im2L (K : PySem.W.Frag) (r : R2) (g : D → D → Rs D) : Prop := ∀ (H : Hp) (x y : V) (dx dy : D) (Q : VK), Dn K H x dx → Dn K H y dy →
  Okk (g dx dy) (fun d => ∀ v H', Same H H' → (∀ F, Dn K F v d) → Q v H') → r x y H Q
def Im1L (K : PySem.W.Frag) (r : V → Hp → VK → Prop) (g : D → Rs D) : Prop := ∀ (H : Hp) (x : V) (dx : D) (Q : VK), Dn K H x dx →
  Okk (g dx) (fun d => ∀ v H', Same H H' → (∀ F, Dn K F v d) → Q v H') → r x H Q
/-- a pure operation: never an exception -/
def pur (r : Rs D) : Rs D := match r with
  | .ok d => .ok d
  | _ => .bad
theorem end_pur {K : PySem.W.Frag} {mg : Str → Option Value} {O : List Addr} {σ : St} {H : Hp} {P : D → Hp → Prop} {r : Rs D} (h : End K mg W O σ H P (pur r)) : Okk r fun d => ∀ H', Same H H' → P d H' := by
  cases r with
  | ok d => exact h
  | ex e => exact h.elim
  | bad => exact h.elim
section
variable {a b : Expr} {fa fb : Sto → Rs D}
theorem rd2 {K : PySem.W.Frag} {mg : Str → Option Value} {r : R2} {g : D → D → Rs D} (hr : Im2 K r g) {σ : St} {H : Hp} {Q : VK} (h : rdE K mg xp W (fun ρ => (fa ρ).bind fun x => (fb ρ).bind fun y => pur (g x y)) σ H Q) : tOp r (rdE K mg xp W fa) (rdE K mg xp W fb) σ H Q := by
  obtain ⟨ρ, O, R, q⟩ := h
  refine ⟨ρ, O, R, q.bind.imp fun dx H1 _ s1 q1 vx hx => ⟨ρ, O, R.mono s1, q1.bind.imp fun dy H2 _ s2 q2 vy hy => ?_⟩⟩
  have q3 := end_pur q2
  exact hr H2 O vx vy dx dy Q ((R.mono s1).thr.same s2) (dp_mono (msk_same s2) hx) hy (q3.imp fun d k v H' s h => k H' s v h)
theorem rd2L {K : PySem.W.Frag} {mg : Str → Option Value} {r : R2} {g : D → D → Rs D} (hr : Im2L K r g) {σ : St} {H : Hp} {Q : VK} (h : rdE K mg xp W (fun ρ => (fa ρ).bind fun x => (fb ρ).bind fun y => pur (g x y)) σ H Q) : tOp r (rdL K mg xp W fa) (rdL K mg xp W fb) σ H Q := by
  obtain ⟨ρ, O, R, q⟩ := h
  refine ⟨ρ, O, R, q.bind.imp fun dx H1 _ s1 q1 vx hx => ⟨ρ, O, R.mono s1, q1.bind.imp fun dy H2 _ s2 q2 vy hy => ?_⟩⟩
  have q3 := end_pur q2
  exact hr H2 vx vy dx dy Q (dp_mono s2 hx) hy (q3.imp fun d k v H' s h => k H' s v (h _))
theorem ce_bin {op : Operator} {r : R2} {g : D → D → Rs D} {pos : Pos} (ho : OpR X (binaryOp op) r) (hr : Im2 X.K r g) (ha : CE X xp W a fa) (hb : CE X xp W b fb) : CE X xp W (.BinOp a op b pos) (fun ρ => (fa ρ).bind fun x => (fb ρ).bind fun y => pur (g x y)) :=
  pe_imp (pe_op ho ha hb) fun _ _ _ h => rd2 hr h
theorem ce_cmp {op : CmpOp} {r : R2} {g : D → D → Rs D} {pos : Pos} (ho : OpR X (compareOp op) r) (hr : Im2L X.K r g) (ha : CL X xp W a fa) (hb : CL X xp W b fb) (hm : behindInMarks op b = false) : CE X xp W (.Compare a [op] [b] pos) (fun ρ => (fa ρ).bind fun x => (fb ρ).bind fun y => pur (g x y)) :=
  pe_imp (pe_cmpR ho ha hb hm) fun _ _ _ h => rd2L hr h
/-- the answer of a test -/
def asB : D → Rs Bool
  | .bool b => .ok b
  | _ => .bad
theorem Dn.isB {K : PySem.W.Frag} {H : Hp} {v : V} {k : Bool} (h : Dn K H v (.bool k)) : v = .bl k := by cases h; rfl
theorem ct_cmp {op : CmpOp} {r : R2} {g : D → D → Rs D} {pos : Pos} (ho : OpR X (compareOp op) r) (hr : Im2L X.K r g) (ha : CL X xp W a fa) (hb : CL X xp W b fb) (hm : behindInMarks op b = false) : CT X xp W (.Compare a [op] [b] pos) (fun ρ => ((fa ρ).bind fun x => (fb ρ).bind fun y => pur (g x y)).bind asB) :=
  pt_imp (pt_cmpR ho ha hb hm) fun σ H Q ⟨ρ, O, R, q⟩ => rd2L hr ⟨ρ, O, R, q.bind.imp fun d H' _ s k v hv => by
    cases d with
    | bool b => exact ⟨b, hv.isB, k.ok⟩
    | _ => exact k.elim⟩
/-- a value as a test -/
theorem ct_val {f : Sto → Rs D} (h : CE X xp W e f) (he : ∀ whole, isTrue e X.env whole = (do let v ← whole; standAt e.pos; holding [v] (truthy v))) : CT X xp W e (fun ρ => (f ρ).bind asB) :=
  pt_imp (pt_val h he) fun σ H Q ⟨ρ, O, R, q⟩ => ⟨ρ, O, R, q.bind.imp fun d H' _ s k v hv => by
    cases d with
    | bool b => exact ⟨b, hv.isB, k.ok⟩
    | _ => exact k.elim⟩
end
/-! ### and, or, not, if else -/
section
variable {a b : Expr} {rest : List Expr} {pos : Pos} {ta tb : Sto → Rs Bool} {fa fb : Sto → Rs D}
theorem ct_not (h : CT X xp W a ta) : CT X xp W (.UnaryOp .Not a pos) (fun ρ => (ta ρ).bind fun b => .ok (!b)) :=
  pt_imp (pt_not h) fun σ H Q ⟨ρ, O, R, q⟩ => ⟨ρ, O, R, q.bind.imp fun b H' _ s k => k.ok⟩
abbrev CW (X : Cx) (xp : XP) (W : WX) (e : Expr) (f : Sto → Rs Bool) : Prop := PW X e (rdT X.K X.mg xp W f)
theorem cw_and1 (h : CT X xp W a ta) : CW X xp W (.BoolOp .And [a] pos) ta := pw_and1 h
theorem cw_or1 (h : CT X xp W a ta) : CW X xp W (.BoolOp .Or [a] pos) ta := pw_or1 h
theorem cw_and (h : CT X xp W a ta) (h2 : CW X xp W (.BoolOp .And (b :: rest) pos) tb) : CW X xp W (.BoolOp .And (a :: b :: rest) pos) (fun ρ => (ta ρ).bind fun k => if k = true then tb ρ else .ok false) :=
  pw_imp (pw_and h h2) fun σ H Q ⟨ρ, O, R, q⟩ => ⟨ρ, O, R, q.bind.imp fun c H' _ s k => by
    cases c with
    | true => exact ⟨ρ, O, R.mono s, k⟩
    | false => exact k.ok⟩
theorem cw_or (h : CT X xp W a ta) (h2 : CW X xp W (.BoolOp .Or (b :: rest) pos) tb) : CW X xp W (.BoolOp .Or (a :: b :: rest) pos) (fun ρ => (ta ρ).bind fun k => if k = true then .ok true else tb ρ) :=
  pw_imp (pw_or h h2) fun σ H Q ⟨ρ, O, R, q⟩ => ⟨ρ, O, R, q.bind.imp fun c H' _ s k => by
    cases c with
    | true => exact k.ok
    | false => exact ⟨ρ, O, R.mono s, k⟩⟩
theorem ct_of_cw (h : CW X xp W e ta) : CT X xp W e ta := PW.pt h
/-- as values -/
theorem End.bindB {K : PySem.W.Frag} {mg : Str → Option Value} {O : List Addr} {σ : St} {H : Hp} {α : Type} {P : α → Hp → Prop} {m : Rs D} {k : Bool → Rs α} (h : End K mg W O σ H P ((m.bind asB).bind k)) : End K mg W O σ H (fun d H1 => ∃ b, d = .bool b ∧ End K mg W O σ H1 P (k b)) m := by
  rw [Rs.bind_assoc] at h
  exact h.bind.imp fun d H' _ s q => by
    cases d with
    | bool b => exact ⟨b, rfl, q⟩
    | _ => exact q.elim
theorem ce_not (h : CE X xp W a fa) : CE X xp W (.UnaryOp .Not a pos) (fun ρ => ((fa ρ).bind asB).bind fun b => .ok (.bool (!b))) :=
  pe_imp (pe_not h) fun σ H Q ⟨ρ, O, R, q⟩ => ⟨ρ, O, R, (End.bindB q).imp fun d H' _ s ⟨b, e, k⟩ v hv => by
    subst e
    exact ⟨b, hv.isB, k.ok _ (.bl _)⟩⟩
theorem ce_one {op} (h : CE X xp W a fa) : CE X xp W (.BoolOp op [a] pos) fa := pe_one h
theorem ce_and (h : CE X xp W a fa) (h2 : CE X xp W (.BoolOp .And (b :: rest) pos) fb) : CE X xp W (.BoolOp .And (a :: b :: rest) pos) (fun ρ => ((fa ρ).bind asB).bind fun k => if k = true then fb ρ else .ok (.bool false)) :=
  pe_imp (pe_and h h2) fun σ H Q ⟨ρ, O, R, q⟩ => ⟨ρ, O, R, (End.bindB q).imp fun d H' _ s ⟨b, e, k⟩ v hv => by
    subst e
    refine ⟨b, hv.isB, ?_⟩
    cases b with
    | true => exact ⟨ρ, O, R.mono s, k⟩
    | false => exact k.ok _ (.bl _)⟩
theorem ce_or (h : CE X xp W a fa) (h2 : CE X xp W (.BoolOp .Or (b :: rest) pos) fb) : CE X xp W (.BoolOp .Or (a :: b :: rest) pos) (fun ρ => ((fa ρ).bind asB).bind fun k => if k = true then .ok (.bool true) else fb ρ) :=
  pe_imp (pe_or h h2) fun σ H Q ⟨ρ, O, R, q⟩ => ⟨ρ, O, R, (End.bindB q).imp fun d H' _ s ⟨b, e, k⟩ v hv => by
    subst e
    refine ⟨b, hv.isB, ?_⟩
    cases b with
    | true => exact k.ok _ (.bl _)
    | false => exact ⟨ρ, O, R.mono s, k⟩⟩
theorem ce_if {c : Expr} (hc : CT X xp W c ta) (h : CE X xp W a fa) (h2 : CE X xp W b fb) : CE X xp W (.IfExp c a b pos) (fun ρ => (ta ρ).bind fun k => if k = true then fa ρ else fb ρ) :=
  pe_imp (pe_ifExp hc h h2) fun σ H Q ⟨ρ, O, R, q⟩ => ⟨ρ, O, R, q.bind.imp fun b H' _ s k => by
    cases b with
    | true => exact ⟨ρ, O, R.mono s, k⟩
    | false => exact ⟨ρ, O, R.mono s, k⟩⟩
end
/-! ### arguments, displays -/
section
variable {es : List Expr} {pos : Pos} {fa : Sto → Rs D} {fs : Sto → Rs (List D)}
theorem ca_nil : CA X xp W [] (fun _ => .ok []) := pa_imp pa_nil fun σ H Q ⟨ρ, O, R, q⟩ => q.ok [] .nil
theorem ca_cons (h : CE X xp W e fa) (h2 : CA X xp W es fs) (hs : starEach (e :: es) X.env = (false, eval e X.env) :: starEach es X.env) : CA X xp W (e :: es) (fun ρ => (fa ρ).bind fun x => (fs ρ).bind fun xs => .ok (x :: xs)) :=
  pa_imp (pa_cons h h2 hs) fun σ H Q ⟨ρ, O, R, q⟩ => ⟨ρ, O, R, q.bind.imp fun d H' _ s k v hv => ⟨ρ, O, R.mono s, k.bind.imp fun ds H2 _ s2 k2 vs hvs => k2.ok _ (.cons (dp_mono (msk_same s2) hv) hvs)⟩⟩
theorem lim_line : LIM ≤ sizeLine := by decide
theorem ce_tup {k : Nat} (h : CA X xp W es fs) : CE X xp W (.Tuple es k pos) (fun ρ => (fs ρ).bind fun xs => if xs.length ≤ LIM then .ok (.tuple xs) else .bad) :=
  pe_imp (pe_tup h) fun σ H Q ⟨ρ, O, R, q⟩ => ⟨ρ, O, R, q.bind.imp fun ds H' _ s k vs hv => by
    by_cases hl : ds.length ≤ LIM
    · rw [if_pos hl] at k
      have hl' : vs.length ≤ LIM := by rw [dpAll_len hv]; exact hl
      refine ⟨Nat.le_trans hl' lim_line, fun p hp => k _ (same_new hp) _ (.tup (.inl (.inl ?_)) hl' (dpAll_mono (msk_same (same_new hp)) hv))⟩
      rw [msk_out ((R.thr.same s).out hp)]; exact upd_same
    · rw [if_neg hl] at k; exact k.elim⟩
theorem cf_lst (h : CA X xp W es fs) : CF X xp W (.List es pos) (fun ρ => (fs ρ).bind fun xs => if xs.length ≤ LIM then .ok xs else .bad) :=
  pe_imp (pe_lst h) fun σ H Q ⟨ρ, O, R, q⟩ => ⟨ρ, O, R, q.bind.imp fun ds H' _ s k vs hv => by
    by_cases hl : ds.length ≤ LIM
    · rw [if_pos hl] at k
      have hl' : vs.length ≤ LIM := by rw [dpAll_len hv]; exact hl
      refine ⟨Nat.le_trans hl' lim_line, fun p hp => k _ (same_new hp) p vs (s.free hp) upd_same hl' (dpAll_mono (msk_cons_new hp (same_new hp)) hv)⟩
    · rw [if_neg hl] at k; exact k.elim⟩
end
end
end Pf

set_option Elab.async false
set_option linter.all false
set_option maxRecDepth 100000
/-! Operations on values: what each computes by content, and that the machine does so. -/
namespace Pf
open PySem PySem.Spec L2

/-! ### texts -/
abbrev cl (x : Str) : List Nat := x.cps.toList
abbrev mk (l : List Nat) : Str := ⟨l.toArray⟩
theorem cl_mk (l : List Nat) : cl (mk l) = l := rfl
theorem mk_cl (x : Str) : mk (cl x) = x := TL.mk_tl x
theorem len_cl (x : Str) : x.length = (cl x).length := TL.len_tl x
theorem cl_app (x y : Str) : cl (x ++ y) = cl x ++ cl y := TL.tl_append x y
theorem cl_inj {x y : Str} (h : cl x = cl y) : x = y := TL.ext_tl h
theorem asc_iff {x : Str} : asc x = true ↔ ∀ c ∈ cl x, c < 128 := by
  unfold asc
  rw [List.all_eq_true]
  exact ⟨fun h c hc => of_decide_eq_true (h c hc), fun h c hc => decide_eq_true (h c hc)⟩
theorem asc_app {x y : Str} (hx : asc x = true) (hy : asc y = true) : asc (x ++ y) = true := by
  rw [asc_iff] at *
  intro c hc
  rw [cl_app, List.mem_append] at hc
  exact hc.elim (hx c) (hy c)
theorem asc_sub {x : Str} {l : List Nat} (hx : asc x = true) (h : ∀ c ∈ l, c ∈ cl x) : asc (mk l) = true := by
  rw [asc_iff] at *
  exact fun c hc => hx c (h c hc)
theorem len_app (x y : Str) : (x ++ y).length = x.length + y.length := by rw [len_cl, cl_app, List.length_append, ← len_cl, ← len_cl]
/-- the items of xs[lo:hi] -/
def cut {α : Type} (xs : List α) (lo hi : Option Int) : List α := (xs.drop (HT.sIx xs.length 0 lo)).take (HT.sIx xs.length xs.length hi - HT.sIx xs.length 0 lo)
theorem cut_mem {α : Type} {xs : List α} {lo hi : Option Int} {c : α} (h : c ∈ cut xs lo hi) : c ∈ xs := List.mem_of_mem_drop (List.mem_of_mem_take h)
theorem cut_le {α : Type} (xs : List α) (lo hi : Option Int) : (cut xs lo hi).length ≤ xs.length := by
  unfold cut
  rw [List.length_take, List.length_drop]
  omega

/-! ### + - * // % ** -/
inductive Bi where
  | add | sub | mul | fdiv | mod | pow
  deriving DecidableEq
def Bi.op : Bi → Operator
  | .add => .Add | .sub => .Sub | .mul => .Mult | .fdiv => .FloorDiv | .mod => .Mod | .pow => .Pow
def small64 (i : Int) : Bool := decide (-(2 ^ 64) < i) && decide (i < 2 ^ 64)
theorem small64_iff {i : Int} : small64 i = true ↔ -(2 ^ 64) < i ∧ i < 2 ^ 64 := by simp [small64]
def binD : Bi → D → D → Rs D
  | .add, .int i, .int j => .ok (.int (i + j))
  | .add, .str x, .str y => if x.length + y.length ≤ LIM then .ok (.str (x ++ y)) else .bad
  | .add, .list xs, .list ys => if xs.length + ys.length ≤ LIM then .ok (.list (xs ++ ys)) else .bad
  | .add, .tuple xs, .tuple ys => if xs.isEmpty = false ∧ xs.length + ys.length ≤ LIM then .ok (.tuple (xs ++ ys)) else .bad
  | .sub, .int i, .int j => .ok (.int (i - j))
  | .mul, .int i, .int j => if small64 i = true ∨ small64 j = true then .ok (.int (i * j)) else .bad
  | .mul, .list xs, .int k => if -1000000 ≤ k ∧ k ≤ 1000000 ∧ xs.length * k.toNat ≤ LIM then .ok (.list (List.replicate k.toNat xs).flatten) else .bad
  | .mul, .str x, .int k => if 0 ≤ k ∧ k ≤ 1000000 ∧ x.length * k.toNat ≤ LIM then .ok (.str (mk (List.replicate k.toNat (cl x)).flatten)) else .bad
  | .fdiv, .int i, .int j => if 0 < j ∧ j < 1073741824 then .ok (.int (i / j)) else .bad
  | .mod, .int i, .int j => if 0 < j then .ok (.int (i % j)) else .bad
  | .pow, .int i, .int j => if 0 ≤ j ∧ j ≤ 1000 ∧ small64 i = true then .ok (.int (i ^ j.toNat)) else .bad
  | _, _, _ => .bad
section
variable {X : Cx}
theorem Inv.lstR {pins : List (Addr × Obj)} {σ : St} {H : Hp} {s : Shared} {l : Addr} {xs : List V} (I : Inv X pins σ H s) (h : RL X.K H l xs) : xs.length ≤ sizeLine ∧ ∃ (its : List Value) (n : Nat), Vals xs its ∧ xs.length = its.length ∧ s.heap.get? l = some { cls := .type "list", data := .seq its.toArray n } := by
  rcases h with h | ⟨its, n, k, z, r⟩
  · obtain ⟨z, its, n, r, e⟩ := h.ok I.hok
    exact ⟨z, its, n, r, r.length, e⟩
  ·     exact ⟨Nat.le_trans (Nat.le_of_eq (r.length.trans Array.length_toList)) z, its.toList, n, r, r.length, by rw [Array.toArray_toList]; exact I.kIn _ _ k⟩
def rCatR (K : PySem.W.Frag) : R2 := fun x y H Q => ∃ l b xs zs, x = .ref l ∧ y = .ref b ∧ RL K H l xs ∧ RL K H b zs ∧ xs.length + zs.length ≤ sizeLine ∧ ∀ p, H p = none → Q (.ref p) (upd H p (.lst (xs ++ zs)))
theorem op_catR : OpR X (binaryOp .Add) (rCatR X.K) := fun pins s σ H x y v u Q I rx ry ⟨l, b, xs, zs, ex, ey, hl, hb, hz, q⟩ => by
  subst ex ey
  cases rx; cases ry
  obtain ⟨z1, i1, n1, r1, k1, g1⟩ := Inv.lstR I hl
  obtain ⟨z2, i2, n2, r2, k2, g2⟩ := Inv.lstR I hb
  have fits : (i1.toArray.size + i2.toArray.size : Nat) ≤ sizeLine := by
    rw [List.size_toArray, List.size_toArray]
    omega
  refine PySem.P.add_list g1 g2 ?_ fits
  rw [show i1.toArray ++ i2.toArray = (i1 ++ i2).toArray by simp]
  have room : (xs ++ zs).length ≤ sizeLine := by rw [List.length_append]; omega
  exact ⟨V.ref _, _, I.lnew (t' := s.toks) (Vals.append r1 r2) room, rfl, q _ I.fresh⟩
def rRepR (K : PySem.W.Frag) : R2 := fun x y H Q => ∃ l k xs, x = .ref l ∧ y = .int k ∧ RL K H l xs ∧ -1000000 ≤ k ∧ k ≤ 1000000 ∧ xs.length * k.toNat ≤ LIM ∧
  ∀ p, H p = none → Q (.ref p) (upd H p (.lst (List.replicate k.toNat xs).flatten))
theorem op_repR : OpR X (binaryOp .Mult) (rRepR X.K) := fun pins s σ H x y v u Q I rx ry ⟨l, k, xs, ex, ey, hl, lo, hi, hz, q⟩ => by
  subst ex ey
  cases rx
  obtain ⟨tk, rfl⟩ := ry
  obtain ⟨z1, i1, n1, r1, k1, g1⟩ := Inv.lstR I hl
  have hz' : i1.toArray.size * k.toNat ≤ LIM := by rw [List.size_toArray, ← k1]; exact hz
  have big : (LIM : Nat) ≤ (2 ^ 63 - 1) / 8 := by decide
  have f1 : ¬ i1.toArray.size * k.toNat > (2 ^ 63 - 1) / 8 := Nat.not_lt.mpr (Nat.le_trans hz' big)
  have f2 : ¬ (!Builtin.List.listFitsIndex k) = true := by rw [fitsIndex_both (by omega) (by omega)]; decide
  have f3 : ¬ Builtin.List.listTooLong (i1.toArray.size * k.toNat) = true := by rw [notLongL (Nat.le_trans hz' lim_line)]; decide
  have g0 : ∀ m : Nat, (List.replicate m i1.toArray).foldl (fun p q => p ++ q) #[] = (List.replicate m i1).flatten.toArray := fun m => (foldl_rep i1 m []).trans (by rw [List.nil_append])
  have f4 : (List.replicate (if i1.toArray.isEmpty = true then 0 else k.toNat) i1.toArray).foldl (fun p q => p ++ q) #[] = (List.replicate k.toNat i1).flatten.toArray := by
    rw [g0]
    cases i1 with
    | nil => simp
    | cons c cs => rw [if_neg (by simp)]
  have room : (List.replicate k.toNat xs).flatten.length ≤ sizeLine := by rw [PyProof.Rows.lm_len_rep_flat, Nat.mul_comm]; exact Nat.le_trans hz lim_line
  refine wpAny_binaryOp_repeat_ref (T := "list") (U := "int") (by decide) ⟨_, g1, rfl⟩ (fun z => typeIs_int z k tk) noFill_list_mul F.fills_int_mul F.slot_int_rmul repeat_list F.slot_int_index.lookup ?_
  refine call_meets F.slot_int_rmul (typeIs_int s k tk) F.entry_int_rmul (F.args_int_rmul_2 _ _) (int___rmul___int_list k tk l i1.toArray n1) ⟨g1, rfl, ⟨_, g1, rfl⟩, ?_⟩
  refine call_meets F.slot_list_mul ⟨_, g1, rfl⟩ F.entry_list_mul (F.args_list_mul_2 _ _) (AutoListH.list___mul___list_int_3 l i1.toArray n1 k tk f2 f1 f3) ⟨g1, ?_⟩
  rw [f4]
  exact ⟨V.ref _, _, I.lnew (t' := s.toks) (Vals.rep r1 k.toNat) room, rfl, q _ I.fresh⟩
/-- s * k -/
def rMulS : R2 := fun x y H Q => ∃ z k, x = .str z ∧ y = .int k ∧ 0 ≤ k ∧ k ≤ 1000000 ∧ z.length * k.toNat ≤ LIM ∧ Q (.str (mk (List.replicate k.toNat (cl z)).flatten)) H
theorem fold_app_arr (a : Array Nat) : ∀ (k : Nat) (acc : List Nat), ((List.replicate k a).foldl (· ++ ·) acc.toArray) = (acc ++ (List.replicate k a.toList).flatten).toArray
  | 0, acc => by simp
  | k + 1, acc => by
    rw [List.replicate_succ, List.foldl_cons, List.replicate_succ, List.flatten_cons, ← List.append_assoc]
    rw [← fold_app_arr a k (acc ++ a.toList)]
    congr 1
    apply Array.ext'
    simp
theorem mul_txt {z : Str} {k : Int} (h0 : 0 ≤ k) : Txt.mul z k = mk (List.replicate k.toNat (cl z)).flatten := by
  unfold Txt.mul
  by_cases h1 : k < 1
  · have : k = 0 := by omega
    subst this
    rfl
  · rw [if_neg h1]
    by_cases h2 : (k == 1 || z.length == 0) = true
    · rw [if_pos h2]
      rcases Bool.or_eq_true _ _ ▸ h2 with h3 | h3
      · have : k = 1 := by simpa using h3
        subst this
        exact (cl_inj (by simp [mk, cl])).symm
      · have : cl z = [] := by
          have e : z.length = 0 := by simpa using h3
          rw [len_cl] at e
          exact List.length_eq_zero_iff.mp e
        apply cl_inj
        rw [this]
        simp [cl, mk]
    · rw [if_neg h2]
      apply congrArg
      have := fold_app_arr z.cps k.toNat []
      simpa using this
theorem op_mulS : OpR X (binaryOp .Mult) rMulS := fun pins s σ H x y v u Q I rx ry ⟨z, k, ex, ey, h0, h1, hz, q⟩ => by
  subst ex ey
  obtain ⟨t, rfl⟩ := rx
  obtain ⟨t', rfl⟩ := ry
  refine PySem.SB.mul ⟨by simp; omega, fun n1 _ => ?_, fun _ _ => ?_⟩ fun t2 k2 => ?_
  · have hp : 0 < k := by omega
    have h3 : ((z.length : Int)) * k ≤ 1000000 := by
      have e : ((z.length * k.toNat : Nat) : Int) = (z.length : Int) * k := by rw [Int.natCast_mul, Int.toNat_of_nonneg h0]
      have : ((z.length * k.toNat : Nat) : Int) ≤ ((LIM : Nat) : Int) := Int.ofNat_le.mpr hz
      rw [e] at this
      exact this
    rw [Int.not_lt]
    exact (Int.le_ediv_iff_mul_le hp).mpr (by omega)
  · show Builtin.Str.tooLong (z.length * k.toNat) = false
    unfold Builtin.Str.tooLong
    simp
    exact Nat.le_trans hz lim_line
  · rw [mul_txt h0]
    exact ⟨V.str _, H, I.tok _, ⟨_, rfl⟩, q⟩
/-- the reading of each -/
def rBin (K : PySem.W.Frag) : Bi → R2
  | .add => fun x y H Q => (rI0 (fun i j => .int (i + j)) x y H Q ∨ (∃ i j, x = .str i ∧ y = .str j ∧ i.length + j.length ≤ sizeLine ∧ Q (.str (i ++ j)) H)) ∨ (rCatR K x y H Q ∨ rCatT K x y H Q)
  | .sub => rI0 fun i j => .int (i - j)
  | .mul => fun x y H Q => rI CMul (fun i j => .int (i * j)) x y H Q ∨ (rRepR K x y H Q ∨ rMulS x y H Q)
  | .fdiv => rI CDiv fun i j => .int (i / j)
  | .mod => rI (fun _ j => 0 < j) fun i j => .int (i % j)
  | .pow => rI CPow fun i j => .int (i ^ j.toNat)
theorem bin_op : ∀ b : Bi, OpR X (binaryOp b.op) (rBin X.K b)
  | .add => (op_add.or op_add_str).or (op_catR.or op_catT)
  | .sub => op_sub
  | .mul => op_mul.or (op_repR.or op_mulS)
  | .fdiv => op_fdiv
  | .mod => op_mod
  | .pow => op_pow
end
section
variable {K : PySem.W.Frag}
theorem dn_newL {H : Hp} {O : List Addr} {p : Addr} {vs : List V} {ds : List D} (t : Thr H O) (hp : H p = none) (hl : vs.length ≤ LIM) (a : DnAll K (msk H O) vs ds) : Dn K (msk (upd H p (.lst vs)) O) (.ref p) (.list ds) :=
  .lst (.inl (.inl (by rw [msk_out (t.out hp)]; exact upd_same))) hl (dpAll_mono (msk_same (same_new hp)) a)
theorem dn_newT {H : Hp} {O : List Addr} {p : Addr} {vs : List V} {ds : List D} (t : Thr H O) (hp : H p = none) (hl : vs.length ≤ LIM) (a : DnAll K (msk H O) vs ds) : Dn K (msk (upd H p (.tup vs)) O) (.ref p) (.tuple ds) :=
  .tup (.inl (.inl (by rw [msk_out (t.out hp)]; exact upd_same))) hl (dpAll_mono (msk_same (same_new hp)) a)
theorem rd_sub {H : Hp} {O : List Addr} {a : Addr} {xs : List V} (h : RL K (msk H O) a xs) : RL K H a xs := Same.rl msk_sub h
theorem sqT_sub {H : Hp} {O : List Addr} {a : Addr} {xs : List V} (h : SqT K (msk H O) a xs) : SqT K H a xs := Same.seqT msk_sub h
theorem asc_rep {x : Str} {n : Nat} (h : asc x = true) : asc (mk (List.replicate n (cl x)).flatten) = true := asc_sub h fun c hc => by
  obtain ⟨l, h1, h2⟩ := List.mem_flatten.mp hc
  rw [(List.mem_replicate.mp h1).2] at h2
  exact h2
theorem len_mk (l : List Nat) : (mk l).length = l.length := by rw [len_cl, cl_mk]
theorem len_rep {α : Type} (n : Nat) (l : List α) : (List.replicate n l).flatten.length = l.length * n := by
  induction n with
  | zero => simp
  | succ n ih => rw [List.replicate_succ, List.flatten_cons, List.length_append, ih, Nat.mul_succ, Nat.add_comm]
theorem bin_im (b : Bi) : Im2 K (rBin K b) (binD b) := by
  intro H O x y dx dy Q t hx hy h
  cases b
  case add =>
    cases hx <;> cases hy <;> first | exact h.elim | skip
    · exact .inl (.inl ⟨_, _, rfl, rfl, h _ _ (Same.refl _) (.int _)⟩)
    · rename_i i h1 h2 j h3 h4
      have h : Okk (if i.length + j.length ≤ LIM then .ok (.str (i ++ j)) else .bad) _ := h
      by_cases hl : i.length + j.length ≤ LIM
      · rw [if_pos hl] at h
        exact .inl (.inr ⟨_, _, rfl, rfl, Nat.le_trans hl lim_line, h _ _ (Same.refl _) (.str (asc_app h1 h3) (by rw [len_app]; exact hl))⟩)
      · rw [if_neg hl] at h; exact h.elim
    · rename_i a vs ds h1 h2 h3 b ws es h4 h5 h6
      have h : Okk (if ds.length + es.length ≤ LIM then .ok (.list (ds ++ es)) else .bad) _ := h
      by_cases hl : ds.length + es.length ≤ LIM
      · rw [if_pos hl] at h
        have hl' : vs.length + ws.length ≤ LIM := by rw [dpAll_len h3, dpAll_len h6]; exact hl
        refine .inr (.inl ⟨_, _, _, _, rfl, rfl, rd_sub h1, rd_sub h4, Nat.le_trans hl' lim_line, fun p hp => ?_⟩)
        exact h _ _ (same_new hp) (dn_newL t hp (by rw [List.length_append]; exact hl') (dpAll_app h3 h6))
      · rw [if_neg hl] at h; exact h.elim
    · rename_i a vs ds h1 h2 h3 b ws es h4 h5 h6
      have h : Okk (if ds.isEmpty = false ∧ ds.length + es.length ≤ LIM then .ok (.tuple (ds ++ es)) else .bad) _ := h
      by_cases hl : ds.isEmpty = false ∧ ds.length + es.length ≤ LIM
      · rw [if_pos hl] at h
        have hl' : vs.length + ws.length ≤ LIM := by rw [dpAll_len h3, dpAll_len h6]; exact hl.2
        refine .inr (.inr ⟨_, _, _, _, rfl, rfl, sqT_sub h1, sqT_sub h4, ?_, Nat.le_trans hl' lim_line, fun e => ?_, fun _ p hp => ?_⟩)
        · intro e; subst e
          cases h3
          simp at hl
        · subst e
          cases h6
          rw [List.append_nil] at h
          exact h _ _ (Same.refl _) (.tup h1 h2 h3)
        · exact h _ _ (same_new hp) (dn_newT t hp (by rw [List.length_append]; exact hl') (dpAll_app h3 h6))
      · rw [if_neg hl] at h; exact h.elim
  case sub =>
    cases hx <;> cases hy <;> first | exact h.elim | exact ⟨_, _, rfl, rfl, h _ _ (Same.refl _) (.int _)⟩
  case mul =>
    cases hx <;> cases hy <;> first | exact h.elim | skip
    · rename_i i j
      have h : Okk (if small64 i = true ∨ small64 j = true then .ok (.int (i * j)) else .bad) _ := h
      by_cases hl : small64 i = true ∨ small64 j = true
      · rw [if_pos hl] at h
        exact .inl ⟨_, _, rfl, rfl, hl.imp small64_iff.mp small64_iff.mp, h _ _ (Same.refl _) (.int _)⟩
      · rw [if_neg hl] at h; exact h.elim
    · rename_i z h1 h2 k
      have h : Okk (if 0 ≤ k ∧ k ≤ 1000000 ∧ z.length * k.toNat ≤ LIM then .ok (.str (mk (List.replicate k.toNat (cl z)).flatten)) else .bad) _ := h
      by_cases hl : 0 ≤ k ∧ k ≤ 1000000 ∧ z.length * k.toNat ≤ LIM
      · rw [if_pos hl] at h
        exact .inr (.inr ⟨_, _, rfl, rfl, hl.1, hl.2.1, hl.2.2, h _ _ (Same.refl _) (.str (asc_rep h1) (by rw [len_mk, len_rep, ← len_cl]; exact hl.2.2))⟩)
      · rw [if_neg hl] at h; exact h.elim
    · rename_i a vs ds h1 h2 h3 k
      have h : Okk (if -1000000 ≤ k ∧ k ≤ 1000000 ∧ ds.length * k.toNat ≤ LIM then .ok (.list (List.replicate k.toNat ds).flatten) else .bad) _ := h
      by_cases hl : -1000000 ≤ k ∧ k ≤ 1000000 ∧ ds.length * k.toNat ≤ LIM
      · rw [if_pos hl] at h
        have hl' : vs.length * k.toNat ≤ LIM := by rw [dpAll_len h3]; exact hl.2.2
        refine .inr (.inl ⟨_, _, _, rfl, rfl, rd_sub h1, hl.1, hl.2.1, hl', fun p hp => ?_⟩)
        exact h _ _ (same_new hp) (dn_newL t hp (by rw [len_rep]; exact hl') (dpAll_rep h3 _))
      · rw [if_neg hl] at h; exact h.elim
  case fdiv =>
    cases hx <;> cases hy <;> first | exact h.elim | skip
    rename_i i j
    have h : Okk (if 0 < j ∧ j < 1073741824 then .ok (.int (i / j)) else .bad) _ := h
    by_cases hl : 0 < j ∧ j < 1073741824
    · rw [if_pos hl] at h; exact ⟨_, _, rfl, rfl, hl, h _ _ (Same.refl _) (.int _)⟩
    · rw [if_neg hl] at h; exact h.elim
  case mod =>
    cases hx <;> cases hy <;> first | exact h.elim | skip
    rename_i i j
    have h : Okk (if 0 < j then .ok (.int (i % j)) else .bad) _ := h
    by_cases hl : 0 < j
    · rw [if_pos hl] at h; exact ⟨_, _, rfl, rfl, hl, h _ _ (Same.refl _) (.int _)⟩
    · rw [if_neg hl] at h; exact h.elim
  case pow =>
    cases hx <;> cases hy <;> first | exact h.elim | skip
    rename_i i j
    have h : Okk (if 0 ≤ j ∧ j ≤ 1000 ∧ small64 i = true then .ok (.int (i ^ j.toNat)) else .bad) _ := h
    by_cases hl : 0 ≤ j ∧ j ≤ 1000 ∧ small64 i = true
    · rw [if_pos hl] at h
      have := small64_iff.mp hl.2.2
      exact ⟨_, _, rfl, rfl, ⟨hl.1, by omega, by omega⟩, h _ _ (Same.refl _) (.int _)⟩
    · rw [if_neg hl] at h; exact h.elim
end
end Pf

set_option Elab.async false
set_option linter.all false
set_option maxRecDepth 100000
/-! Comparisons. -/
namespace Pf
open PySem PySem.Spec L2

inductive Cm where
  | eq | ne | lt | le | gt | ge | is | isn | inn | nin
  deriving DecidableEq
def Cm.op : Cm → CmpOp
  | .eq => .Eq | .ne => .NotEq | .lt => .Lt | .le => .LtE | .gt => .Gt | .ge => .GtE | .is => .Is | .isn => .IsNot | .inn => .In | .nin => .NotIn
def flatD : D → Bool
  | .none | .bool _ | .int _ | .str _ => true
  | _ => false
/-- is, for None and the bools -/
def isD : D → D → Rs Bool
  | x, .none => .ok (match x with | .none => true | _ => false)
  | .bool a, .bool b => .ok (decide (a = b))
  | _, _ => .bad
/-- x stands in y as a text -/
def hasSub (x y : Str) : Bool := !(Builtin.Str.occurrences y x 0 y.length 1).isEmpty
def inD : D → D → Rs Bool
  | .str x, .str y => .ok (hasSub x y)
  | x, .list ys => if plain x = true ∧ plain (.list ys) = true then .ok (ys.any fun z => PyData.eqv z x) else .bad
  | x, .tuple ys => if flatD x = true ∧ ys.all flatD = true then .ok (ys.any fun z => PyData.eqv z x) else .bad
  | _, _ => .bad
def eqD (x y : D) : Rs Bool := if plain x = true ∧ plain y = true then .ok (PyData.eqv x y) else .bad
def ltD : D → D → Rs Bool
  | .int i, .int j => .ok (decide (i < j))
  | .str x, .str y => .ok (decide (cl x < cl y))
  | _, _ => .bad
def leD : D → D → Rs Bool
  | .int i, .int j => .ok (decide (i ≤ j))
  | .str x, .str y => .ok (!decide (cl y < cl x))
  | _, _ => .bad
def gtD : D → D → Rs Bool
  | .int i, .int j => .ok (decide (j < i))
  | _, _ => .bad
def geD : D → D → Rs Bool
  | .int i, .int j => .ok (decide (j ≤ i))
  | _, _ => .bad
def cmpB : Cm → D → D → Rs Bool
  | .eq, x, y => eqD x y
  | .ne, x, y => (eqD x y).bind fun b => .ok (!b)
  | .lt, x, y => ltD x y
  | .le, x, y => leD x y
  | .gt, x, y => gtD x y
  | .ge, x, y => geD x y
  | .is, x, y => isD x y
  | .isn, x, y => (isD x y).bind fun b => .ok (!b)
  | .inn, x, y => inD x y
  | .nin, x, y => (inD x y).bind fun b => .ok (!b)
def toB (r : Rs Bool) : Rs D := r.bind fun b => .ok (.bool b)
def cmpD (c : Cm) (x y : D) : Rs D := toB (cmpB c x y)
section
variable {X : Cx}
def rLeS : R2 := fun x y H Q => ∃ i j, x = .str i ∧ y = .str j ∧ Q (.bl (!decide (j.cps.toList < i.cps.toList))) H
def rLtS : R2 := fun x y H Q => ∃ i j, x = .str i ∧ y = .str j ∧ Q (.bl (decide (i.cps.toList < j.cps.toList))) H
def rInS : R2 := fun x y H Q => ∃ i j, x = .str i ∧ y = .str j ∧ Q (.bl (!(Builtin.Str.occurrences j i 0 j.length 1).isEmpty)) H
def rNiS : R2 := fun x y H Q => ∃ i j, x = .str i ∧ y = .str j ∧ Q (.bl (!(!(Builtin.Str.occurrences j i 0 j.length 1).isEmpty))) H
def rIsN0 : R2 := fun x y H Q => y = .non ∧ Q (.bl (decide (x = .non))) H
def rNoN0 : R2 := fun x y H Q => y = .non ∧ Q (.bl (!decide (x = .non))) H
def rCmp (K : PySem.W.Frag) : Cm → R2
  | .eq => rEqD K
  | .ne => rNeD K
  | .lt => fun x y H Q => rI0 (fun i j => .bl (decide (i < j))) x y H Q ∨ rLtS x y H Q
  | .le => fun x y H Q => rI0 (fun i j => .bl (decide (i ≤ j))) x y H Q ∨ rLeS x y H Q
  | .gt => rI0 fun i j => .bl (decide (j < i))
  | .ge => rI0 fun i j => .bl (decide (j ≤ i))
  | .is => fun x y H Q => rIsN0 x y H Q ∨ rIsB x y H Q
  | .isn => fun x y H Q => rNoN0 x y H Q ∨ rNotB x y H Q
  | .inn => fun x y H Q => rInS x y H Q ∨ (rInD K x y H Q ∨ rIn K false x y H Q)
  | .nin => fun x y H Q => rNiS x y H Q ∨ (rNotInD K x y H Q ∨ rIn K true x y H Q)
theorem cmp_op (hu : X.A.units + 65 < cLine) : ∀ c : Cm, OpR X (compareOp c.op) (rCmp X.K c)
  | .eq => op_eqD (by omega)
  | .ne => op_neD (by omega)
  | .lt => op_lt.or op_lt_str
  | .le => op_le.or op_le_str
  | .gt => op_gt
  | .ge => op_ge
  | .is => op_isN.or op_isBl
  | .isn => op_notN.or op_notBl
  | .inn => op_in_str.or ((op_inD hu).or op_in_seq)
  | .nin => op_notIn_str.or ((op_notInD hu).or op_notIn_seq)
end
section
variable {K : PySem.W.Frag}
theorem isnon {H : Hp} {v : V} {d : D} (h : Dn K H v d) : decide (v = .non) = (match d with | .none => true | _ => false) := by
  cases h <;> simp
theorem flatV_of {H : Hp} {v : V} {d : D} (h : Dn K H v d) (f : flatD d = true) : flatV v = true := by
  cases h <;> first | rfl | cases f
theorem eqV_of {H : Hp} {v w : V} {d e : D} (h : Dn K H v d) (g : Dn K H w e) (f : flatD d = true) (f' : flatD e = true) : eqV v w = PyData.eqv d e := by
  cases h <;> cases g <;> first | cases f; done | cases f'; done | simp [eqV, PyData.eqv]
theorem flatAll_of {H : Hp} : ∀ {vs : List V} {ds : List D}, DnAll K H vs ds → ds.all flatD = true → vs.all flatV = true
  | _, _, .nil, _ => rfl
  | _, _, .cons h t, f => by
    simp only [List.all_cons, Bool.and_eq_true] at f ⊢
    exact ⟨flatV_of h f.1, flatAll_of t f.2⟩
theorem inV_of {H : Hp} {x : V} {dx : D} (hx : Dn K H x dx) (fx : flatD dx = true) : ∀ {vs : List V} {ds : List D}, DnAll K H vs ds → ds.all flatD = true → inV x vs = ds.any fun z => PyData.eqv z dx
  | _, _, .nil, _ => rfl
  | _, _, .cons h t, f => by
    simp only [List.all_cons, Bool.and_eq_true] at f
    show (eqV _ x || inV x _) = _
    rw [List.any_cons, eqV_of h hx f.1 fx, inV_of hx fx t f.2]
def NoEx {α : Type} (r : Rs α) : Prop := match r with
  | .ex _ => False
  | _ => True
theorem NoEx.elim {α : Type} {r : Rs α} {e : EX} (n : NoEx r) (h : r = .ex e) : False := by subst h; exact n
theorem noex_eq (x y : D) : NoEx (eqD x y) := by unfold eqD; split <;> trivial
theorem noex_is (x y : D) : NoEx (isD x y) := by unfold isD; split <;> trivial
theorem noex_in (x y : D) : NoEx (inD x y) := by
  unfold inD
  split
  · trivial
  · split <;> trivial
  · split <;> trivial
  · trivial
theorem noex_not {r : Rs Bool} (h : NoEx r) : NoEx (r.bind fun b => .ok (!b)) := by
  cases r <;> first | trivial | exact h
theorem noex_lt (x y : D) : NoEx (ltD x y) := by unfold ltD; split <;> trivial
theorem noex_le (x y : D) : NoEx (leD x y) := by unfold leD; split <;> trivial
theorem noex_gt (x y : D) : NoEx (gtD x y) := by unfold gtD; split <;> trivial
theorem noex_ge (x y : D) : NoEx (geD x y) := by unfold geD; split <;> trivial
theorem noex_cmp : ∀ (c : Cm) (x y : D), NoEx (cmpB c x y)
  | .eq, x, y => noex_eq x y
  | .ne, x, y => noex_not (noex_eq x y)
  | .is, x, y => noex_is x y
  | .isn, x, y => noex_not (noex_is x y)
  | .inn, x, y => noex_in x y
  | .nin, x, y => noex_not (noex_in x y)
  | .lt, x, y => noex_lt x y
  | .le, x, y => noex_le x y
  | .gt, x, y => noex_gt x y
  | .ge, x, y => noex_ge x y
theorem cmpB_noex {c : Cm} {x y : D} {e : EX} (h : cmpB c x y = .ex e) : False := (noex_cmp c x y).elim h
theorem dp_list {H : Hp} {v : V} {d : D} (h : Dp K H v d) : Dp K H v d := h
theorem okk_b {r : Rs Bool} {P : D → Prop} (h : Okk (toB r) P) : ∃ b, r = .ok b ∧ P (.bool b) := by
  cases r with
  | ok b => exact ⟨b, rfl, h⟩
  | ex e => exact h.elim
  | bad => exact h.elim
theorem bind_ok {α β : Type} {r : Rs α} {f : α → Rs β} {b : β} (h : r.bind f = .ok b) : ∃ a, r = .ok a ∧ f a = .ok b := by
  cases r with
  | ok a => exact ⟨a, rfl, h⟩
  | ex e => cases h
  | bad => cases h
theorem in_cases {H : Hp} {x y : V} {dx dy : D} {b : Bool} (hx : Dn K H x dx) (hy : Dn K H y dy) (e : inD dx dy = .ok b) :
    (∃ i j, x = .str i ∧ y = .str j ∧ (!(Builtin.Str.occurrences j i 0 j.length 1).isEmpty) = b) ∨
    (∃ d ds, Dp K H x d ∧ Dp K H y (.list ds) ∧ SeqAt.shaped d = true ∧ SeqAt.shaped (.list ds) = true ∧ (ds.any fun z => PyData.eqv z d) = b) ∨
    (∃ p xs, y = .ref p ∧ (SqL K H p xs ∨ SqT K H p xs) ∧ flatV x = true ∧ xs.all flatV = true ∧ inV x xs = b) := by
  have lst : ∀ ys, dy = .list ys → inD dx (.list ys) = (if plain dx = true ∧ plain (.list ys) = true then .ok (ys.any fun z => PyData.eqv z dx) else .bad) := fun ys _ => by cases dx <;> rfl
  have tup : ∀ ys, dy = .tuple ys → inD dx (.tuple ys) = (if flatD dx = true ∧ ys.all flatD = true then .ok (ys.any fun z => PyData.eqv z dx) else .bad) := fun ys _ => by cases dx <;> rfl
  cases dy with
  | str y' =>
    cases dx <;> first | cases e; done | skip
    cases hx; cases hy
    cases e
    exact .inl ⟨_, _, rfl, rfl, rfl⟩
  | list ys =>
    rw [lst ys rfl] at e
    by_cases h : plain dx = true ∧ plain (.list ys) = true
    · rw [if_pos h] at e
      cases e
      obtain ⟨h1, h2⟩ := dn_shaped hx h.1
      obtain ⟨h3, h4⟩ := dn_shaped hy h.2
      exact .inr (.inl ⟨_, _, h1, h3, h2, h4, rfl⟩)
    · rw [if_neg h] at e; cases e
  | tuple ys =>
    rw [tup ys rfl] at e
    by_cases h : flatD dx = true ∧ ys.all flatD = true
    · rw [if_pos h] at e
      cases e
      cases hy with
      | tup g1 g2 g3 => exact .inr (.inr ⟨_, _, rfl, .inr g1, flatV_of hx h.1, flatAll_of g3 h.2, inV_of hx h.1 g3 h.2⟩)
    · rw [if_neg h] at e; cases e
  | none => cases dx <;> cases e
  | bool b => cases dx <;> cases e
  | int i => cases dx <;> cases e
  | dict d => cases dx <;> cases e
theorem eq_cases {H : Hp} {x y : V} {dx dy : D} {b : Bool} (hx : Dn K H x dx) (hy : Dn K H y dy) (e : eqD dx dy = .ok b) : (Dp K H x dx ∧ Dp K H y dy ∧ SeqAt.shaped dx = true ∧ SeqAt.shaped dy = true) ∧ PyData.eqv dx dy = b := by
  unfold eqD at e
  by_cases h : plain dx = true ∧ plain dy = true
  · rw [if_pos h] at e
    cases e
    exact ⟨⟨(dn_shaped hx h.1).1, (dn_shaped hy h.2).1, (dn_shaped hx h.1).2, (dn_shaped hy h.2).2⟩, rfl⟩
  · rw [if_neg h] at e; cases e
theorem is_cases {H : Hp} {x y : V} {dx dy : D} {b : Bool} (hx : Dn K H x dx) (hy : Dn K H y dy) (e : isD dx dy = .ok b) : (y = .non ∧ decide (x = .non) = b) ∨ ∃ p q : Bool, x = .bl p ∧ y = .bl q ∧ decide (p = q) = b := by
  cases hy with
  | non =>
    refine .inl ⟨rfl, ?_⟩
    rw [isnon hx]
    cases dx <;> cases e <;> rfl
  | bl q =>
    cases hx <;> cases e
    exact .inr ⟨_, _, rfl, rfl, rfl⟩
  | int _ => cases dx <;> cases e
  | str _ _ => cases dx <;> cases e
  | lst _ _ _ => cases dx <;> cases e
  | tup _ _ _ => cases dx <;> cases e
  | dct _ _ _ => cases dx <;> cases e
theorem cmp_im (c : Cm) : Im2L K (rCmp K c) (cmpD c) := by
  intro H x y dx dy Q hx hy h
  obtain ⟨b, e, h⟩ := okk_b h
  have h : Q (.bl b) H := h _ _ (Same.refl _) fun _ => .bl b
  cases c
  case eq =>
    obtain ⟨⟨h1, h2, h3, h4⟩, rfl⟩ := eq_cases hx hy e
    exact ⟨_, _, h1, h2, h3, h4, h⟩
  case ne =>
    obtain ⟨b', e', e2⟩ := bind_ok e
    cases e2
    obtain ⟨⟨h1, h2, h3, h4⟩, rfl⟩ := eq_cases hx hy e'
    exact ⟨_, _, h1, h2, h3, h4, h⟩
  case lt =>
    cases hx <;> cases hy <;> cases e
    · exact .inl ⟨_, _, rfl, rfl, h⟩
    · exact .inr ⟨_, _, rfl, rfl, h⟩
  case le =>
    cases hx <;> cases hy <;> cases e
    · exact .inl ⟨_, _, rfl, rfl, h⟩
    · exact .inr ⟨_, _, rfl, rfl, h⟩
  case gt =>
    cases hx <;> cases hy <;> cases e
    exact ⟨_, _, rfl, rfl, h⟩
  case ge =>
    cases hx <;> cases hy <;> cases e
    exact ⟨_, _, rfl, rfl, h⟩
  case is =>
    rcases is_cases hx hy e with ⟨h1, rfl⟩ | ⟨p, q, h1, h2, rfl⟩
    · exact .inl ⟨h1, h⟩
    · exact .inr ⟨_, _, h1, h2, h⟩
  case isn =>
    obtain ⟨b', e', e2⟩ := bind_ok e
    cases e2
    rcases is_cases hx hy e' with ⟨h1, rfl⟩ | ⟨p, q, h1, h2, rfl⟩
    · exact .inl ⟨h1, h⟩
    · exact .inr ⟨_, _, h1, h2, h⟩
  case inn =>
    rcases in_cases hx hy e with ⟨i, j, h1, h2, rfl⟩ | ⟨d, ds, h1, h2, h3, h4, rfl⟩ | ⟨p, xs, h1, h2, h3, h4, rfl⟩
    · exact .inl ⟨_, _, h1, h2, h⟩
    · exact .inr (.inl ⟨_, _, h1, h2, h3, h4, h⟩)
    · exact .inr (.inr ⟨_, _, h1, h2, h3, h4, h⟩)
  case nin =>
    obtain ⟨b', e', e2⟩ := bind_ok e
    cases e2
    rcases in_cases hx hy e' with ⟨i, j, h1, h2, rfl⟩ | ⟨d, ds, h1, h2, h3, h4, rfl⟩ | ⟨p, xs, h1, h2, h3, h4, rfl⟩
    · exact .inl ⟨_, _, h1, h2, h⟩
    · exact .inr (.inl ⟨_, _, h1, h2, h3, h4, h⟩)
    · exact .inr (.inr ⟨_, _, h1, h2, h3, h4, h⟩)
end
/-! ### chains a op b op' c -/
section
variable {X : Cx} {xp : XP} {W : WX} {a b c : Expr} {fa fb fc : Sto → Rs D} {pos : Pos}
def chainF (o1 o2 : Cm) (fa fb fc : Sto → Rs D) : Sto → Rs Bool := fun ρ => (fa ρ).bind fun x => (fb ρ).bind fun y => (cmpB o1 x y).bind fun k => if k = true then (fc ρ).bind fun z => cmpB o2 y z else .ok false
theorem rd_chain {K : PySem.W.Frag} {mg : Str → Option Value} {o1 o2 : Cm} {σ : St} {H : Hp} {Q : VK} (h : rdE K mg xp W (fun ρ => toB (chainF o1 o2 fa fb fc ρ)) σ H Q) :
    tChain (rCmp K o1) (rCmp K o2) (rdL K mg xp W fa) (rdL K mg xp W fb) (rdL K mg xp W fc) σ H Q := by
  obtain ⟨ρ, O, R, q⟩ := h
  have q : End K mg W O σ H (fun d H' => ∀ v, Dn K (msk H' O) v d → Q v H') (((fa ρ).bind fun x => (fb ρ).bind fun y => (cmpB o1 x y).bind fun k => if k = true then (fc ρ).bind fun z => cmpB o2 y z else .ok false).bind fun b => .ok (.bool b)) := q
  rw [Rs.bind_assoc] at q
  refine ⟨ρ, O, R, q.bind.imp fun dx H1 _ s1 q1 vx hx => ?_⟩
  rw [Rs.bind_assoc] at q1
  refine ⟨ρ, O, R.mono s1, q1.bind.imp fun dy H2 _ s2 q2 vy hy => ?_⟩
  have hx2 := dp_mono s2 hx
  rw [Rs.bind_assoc] at q2
  cases e : cmpB o1 dx dy with
  | ok k =>
    rw [e] at q2
    have q2 : End K mg W O σ H2 (fun d H' => ∀ v, Dn K (msk H' O) v d → Q v H') ((if k = true then (fc ρ).bind fun z => cmpB o2 dy z else .ok false).bind fun b => .ok (.bool b)) := q2
    refine cmp_im o1 H2 vx vy dx dy _ hx2 hy ?_
    unfold cmpD toB
    rw [e]
    intro v H3 s3 hv
    refine ⟨k, (hv H3).isB, ?_⟩
    cases k with
    | true =>
      rw [if_pos rfl] at q2 ⊢
      have q3 := q2.grow s3
      rw [Rs.bind_assoc] at q3
      refine ⟨ρ, O, ((R.mono s1).mono s2).mono s3, q3.bind.imp fun dz H4 _ s4 q4 vz hz => ?_⟩
      refine cmp_im o2 H4 vy vz dy dz Q (dp_mono s4 (dp_mono s3 hy)) hz ?_
      unfold cmpD toB
      cases e2 : cmpB o2 dy dz with
      | ok k2 => rw [e2] at q4; exact fun v H' s h => q4 H' s v (h _)
      | ex x => rw [e2] at q4; exact (cmpB_noex e2).elim
      | bad => rw [e2] at q4; exact q4.elim
    | false =>
      rw [if_neg Bool.false_ne_true] at q2 ⊢
      exact q2 H3 s3 _ (.bl false)
  | ex x => exact (cmpB_noex e).elim
  | bad => rw [e] at q2; exact q2.elim
theorem ce_chain {o1 o2 : Cm} (hu : X.A.units + 65 < cLine) (ha : CL X xp W a fa) (hb : CL X xp W b fb) (hc : CL X xp W c fc) (hm : lastMarks [o1.op, o2.op] [b, c] = false) : CE X xp W (.Compare a [o1.op, o2.op] [b, c] pos) (fun ρ => toB (chainF o1 o2 fa fb fc ρ)) :=
  pe_imp (pe_chain (cmp_op hu o1) (cmp_op hu o2) ha hb hc hm) fun _ _ _ h => rd_chain h
theorem ct_chain {o1 o2 : Cm} (hu : X.A.units + 65 < cLine) (ha : CL X xp W a fa) (hb : CL X xp W b fb) (hc : CL X xp W c fc) (hm : lastMarks [o1.op, o2.op] [b, c] = false) : CT X xp W (.Compare a [o1.op, o2.op] [b, c] pos) (chainF o1 o2 fa fb fc) :=
  pt_imp (pt_chain (cmp_op hu o1) (cmp_op hu o2) ha hb hc hm) fun σ H Q ⟨ρ, O, R, q⟩ => rd_chain ⟨ρ, O, R, by
    have q : End X.K X.mg W O σ H (fun b H' => Q b H') (chainF o1 o2 fa fb fc ρ) := q
    show End X.K X.mg W O σ H _ (toB (chainF o1 o2 fa fb fc ρ))
    unfold toB
    generalize chainF o1 o2 fa fb fc ρ = r at q
    cases r with
    | ok b => exact fun H' s v hv => ⟨b, hv.isB, q H' s⟩
    | ex x => exact q
    | bad => exact q⟩
end
end Pf

set_option Elab.async false
set_option linter.all false
set_option maxRecDepth 100000
/-! Defs that keep a promise where no repr is under way; calls of them. -/
namespace Pf
open PySem PySem.Spec PyProof.Rows L2

/-- no repr is under way -/
def NoRepr (A : Around) : Prop := A.guards = some []
structure FnG (P : Program) (w : World) (K : PySem.W.Frag) (mg : Str → Option Value) (base : Heap) (k : Nat) (f : Addr) (fd : FuncData) (ps : List Str) (sp : Sp) : Prop where
  len : ∀ vs H Q E, sp vs H Q E → vs.length = ps.length
  run : ∀ (A : Around) (outer : List Env) (s : Shared) (H : Hp) (args : Args) (us : List Value) (vs : List V) (Q : VK) (E : XK), Room k A → NoRepr A → Env0 P w K mg base A outer s H → BindsTo s fd args (ps.zip us) → Vals vs us → sp vs H Q E →
    codeAny (model P w) A (.call (.ref f) args) (CR (L2.CX P w) outer P w H s Q E) s
section
variable {P : Program} {w : World} {K : PySem.W.Frag} {mg : Str → Option Value} {base : Heap}
theorem FnG.mono {j k : Nat} {f : Addr} {fd : FuncData} {ps : List Str} {sp : Sp} (F : FnG P w K mg base j f fd ps sp) (h : j ≤ k) : FnG P w K mg base k f fd ps sp :=
  ⟨F.len, fun A outer s H args us vs Q E hr => F.run A outer s H args us vs Q E (hr.mono h)⟩
theorem FnG.imp {k : Nat} {f : Addr} {fd : FuncData} {ps : List Str} {sp sp' : Sp} (F : FnG P w K mg base k f fd ps sp) (h : ∀ vs H Q E, sp' vs H Q E → sp vs H Q E) : FnG P w K mg base k f fd ps sp' :=
  ⟨fun vs H Q E q => F.len vs H Q E (h _ _ _ _ q), fun A outer s H args us vs Q E hr hg he hb hv hs => F.run A outer s H args us vs Q E hr hg he hb hv (h _ _ _ _ hs)⟩
/-- a def of the text, by its body -/
theorem fnG_of {x qual : Str} {st : Stmt} {f : Addr} {fd : FuncData} {N ps : List Str} {k : Nat} {sp : Sp} (F : Fun K x qual st f fd) (S : FnScope N ps (defScope st)) (len : ∀ vs H Q E, sp vs H Q E → vs.length = ps.length)
    (body : ∀ (cdv : Value) (A : Around) (outer : List Env) (s : Shared) (H : Hp) (vs : List V) (Q : VK) (E : XK), Room k (A.deeper (envOfC qual (defScope st) s.heap.objs.size f cdv)) → NoRepr A → sp vs H Q E →
      ∃ t, PSs (cxOf (L2.CX P w) P w K mg base N qual (defScope st) f cdv A outer s H E) (defBody st) t ∧ t { nx := fun _ H' => Q .non H', rt := Q } (start N vs) H) : FnG P w K mg base (k + 1) f fd ps sp := by
  obtain ⟨oc, od, kV, doc, pm, an, cdv, ct, osl, rfl, look, code⟩ := F.ex
  constructor
  · exact len
  intro A outer s H args us vs Q E room nore ent binds rel wish
  have nargs := len vs H Q E wish
  have inK : K.In s.heap := ent.mod.kin.keeps fun b o z => (ent.bs b o z).1
  have free : s.heap.NoLimit := ent.mod.nolimit.keeps fun b o z => (ent.bs b o z).1
  have kinds : ∀ y ∈ ps.zip us, (defScope st).names.lookup y.1 = some .local ∨ ((defScope st).names.lookup y.1 = some .cell ∧ ((cellsFrom (s.heap.objs.size + 1) (defScope st).names []).lookup y.1).isSome = true) := by
    rintro ⟨nm, val⟩ hy
    rcases S.par nm (List.of_mem_zip hy).1 with isl | isc
    · exact Or.inl isl
    · exact Or.inr ⟨isc, PySem.W.cellsFrom_some _ _ _ (Or.inl isc)⟩
  apply codeAny_call_function room.depth (inK _ _ look) rfl S.co S.gen rfl (PySem.W.codeRec_of inK code)
  apply binds
  refine wpAny_newFunctionEnv_cells S.kind kinds ?_
  rintro env rfl s1 inside
  refine ⟨free.keeps inside.toInCall.keep, codeAny_func ?_⟩
  obtain ⟨t, der, goal⟩ := body cdv A outer s H vs Q E (room.deeper _) nore wish
  have inv0 := inv_start (CX := L2.CX P w) (P := P) (w := w) (K := K) (mg := mg) (base := base) (E := E) S room.hd ent nargs rel inside
  refine wpAny_mono (der.run [] s1 (start N vs) H _ inv0 goal) ?_ fun _ _ z => z
  have close : ∀ {σ' : L2.St} {H' : Hp} {v : V} {u : Value} {s' : Shared}, Inv (cxOf (L2.CX P w) P w K mg base N qual (defScope st) f cdv A outer s H E) [] σ' H' s' → RelV v u → Q v H' → L2.CE outer P w H s Q u s' :=
    fun {σ' H' v u s'} J r z => ⟨v, H', J.os, J.bare, J.base, J.hok, r, z⟩
  intro fl s' out
  match fl, out with
  | .ret u, ⟨v, σ', H', J, r, z⟩ => exact close J r z
  | .next, ⟨σ', H', J, z⟩ => exact close (v := V.non) (u := Value.none) J rfl z
  | .brk, ⟨_, _, _, z⟩ => exact z.elim
  | .cont, ⟨_, _, _, z⟩ => exact z.elim
end
section
variable {X : Cx} {k : Nat} {f : Addr} {fd : FuncData} {ps : List Str} {sp : Sp} {dvs : List V} {ds : List Value} {E : L2.St → XK} {x : Str} {p pos : Pos} {e : Expr} {es : List Expr} {t : TA}
theorem run_fnG {pins : List (Addr × Obj)} {σ : L2.St} {H : Hp} {s : Shared} {Q : VK} {us : List Value} {vs : List V} (F : FnG X.prog X.w X.K X.mg X.base k f fd ps sp) (room : Room k X.A) (nore : NoRepr X.A) (hb : Binds X.K fd ps ds) (hd : Vals dvs ds) (hx : PassesAt (L2.CX X.prog X.w) X σ (E σ))
    (I : Inv X pins σ H s) (r : Vals vs us) (wish : sp (vs ++ dvs) H Q (E σ)) : wpAny (model X.prog X.w) X.A (call (.ref f) us) (EP X pins σ Q) X.xe s := by
  have all : Vals (vs ++ dvs) (us ++ ds) := Vals.append r hd
  have nargs : (us ++ ds).length = ps.length := (all.length.symm).trans (F.len _ _ _ _ wish)
  have runs := F.run X.A X.stack s H ⟨us, []⟩ (us ++ ds) (vs ++ dvs) Q (E σ) room nore I.env0 (hb s us I.kIn nargs) all wish
  apply wpAny_call
  refine codeAny_mono runs fun res s' out => ?_
  match res, out with
  | .error e, z => exact hx pins H s e s' I z
  | .ok (.ret u), z => exact I.after z
  | .ok .next, z => exact z.elim
  | .ok .brk, z => exact z.elim
  | .ok .cont, z => exact z.elim
theorem pe_callG (F : FnG X.prog X.w X.K X.mg X.base k f fd ps sp) (room : Room k X.A) (nore : NoRepr X.A) (hg : Gl X x) (hm : X.mg x = some (.ref f)) (hk : PySem.W.keepIn X.K (.ref f) = true) (hb : Binds X.K fd ps ds) (hd : Vals dvs ds) (hx : ∀ σ, PassesAt (L2.CX X.prog X.w) X σ (E σ))
    (ha : L2.PA X (e :: es) t) (hdb : (x == ("__debug__" : Str)) = false) (he : starEach (e :: es) X.env = (false, eval e X.env) :: starEach es X.env) (hpl : (backTo pos (starEach es X.env)).any (·.1) = false) :
    PE X (.Call (.Name x p) (e :: es) [] pos) (tCallSD sp dvs E t) :=
  ⟨fun pins s σ H Q I wish => wpAny_Call_Name_kw (ld_glob I hg hm (PySem.W.callWith_K (h₀ := X.base) I.ok.mod.kin hk
    (thn (ha.run pos pins s σ H _ I wish) fun us s1 ⟨vs, H1, I1, r, z⟩ => ⟨I1.kIn, run_fnG F room nore hb hd (hx σ) I1 r z⟩) he hpl) hdb)⟩
theorem pe_call0G (F : FnG X.prog X.w X.K X.mg X.base k f fd ps sp) (room : Room k X.A) (nore : NoRepr X.A) (hg : Gl X x) (hm : X.mg x = some (.ref f)) (hk : PySem.W.keepIn X.K (.ref f) = true) (hb : Binds X.K fd ps ds) (hd : Vals dvs ds) (hx : ∀ σ, PassesAt (L2.CX X.prog X.w) X σ (E σ))
    (hdb : (x == ("__debug__" : Str)) = false) : PE X (.Call (.Name x p) [] [] pos) (tCallSD sp dvs E tNil) :=
  ⟨fun pins s σ H Q I wish => wpAny_Call_Name_kw (ld_glob I hg hm (PySem.W.callWith_K0 I.kIn hk (run_fnG (us := []) F room nore hb hd (hx σ) I .nil wish)) hdb)⟩
end
end Pf

set_option Elab.async false
set_option linter.all false
set_option maxRecDepth 100000
/-! Places, slices, built-in functions. -/
namespace Pf
open PySem PySem.Spec L2

/-! ### x[i] -/
def opt {α β : Type} (o : Option α) (f : α → β) : Rs β := match o with
  | some a => .ok (f a)
  | none => .bad
def ixD : D → D → Rs D
  | .list xs, .int i => opt (atI xs i) id
  | .tuple xs, .int i => opt (atI xs i) id
  | .str x, .int i => opt (atI (cl x) i) fun c => .str (mk [c])
  | _, _ => .bad
theorem okk_opt {α : Type} {o : Option α} {f : α → D} {P : D → Prop} (h : Okk (opt o f) P) : ∃ a, o = some a ∧ P (f a) := by
  cases o with
  | some a => exact ⟨a, rfl, h⟩
  | none => exact h.elim
section
variable {K : PySem.W.Frag}
theorem at_some {α : Type} {xs : List α} {i : Int} {v : α} (h : atI xs i = some v) : ∃ j, ixN xs.length i = some j ∧ xs[j]? = some v := by
  unfold atI at h
  cases e : ixN xs.length i with
  | none => rw [e] at h; cases h
  | some j => rw [e] at h; exact ⟨j, rfl, h⟩
theorem dn_at {H : Hp} {vs : List V} {ds : List D} {i : Int} {d : D} (h : DnAll K H vs ds) (e : atI ds i = some d) : ∃ v, atI vs i = some v ∧ Dn K H v d := by
  obtain ⟨j, h1, h2⟩ := at_some e
  obtain ⟨v, h3, h4⟩ := dpAll_get h h2
  refine ⟨v, ?_, h4⟩
  unfold atI
  rw [dpAll_len h, h1]
  exact h3
theorem mem_at {α : Type} {xs : List α} {i : Int} {v : α} (h : atI xs i = some v) : v ∈ xs := let ⟨_, _, h2⟩ := at_some h; List.mem_of_getElem? h2
theorem asc_one {x : Str} {c : Nat} (h : asc x = true) (m : c ∈ cl x) : asc (mk [c]) = true := asc_sub h fun d hd => by
  rw [List.mem_singleton] at hd
  rw [hd]; exact m
theorem len_one (c : Nat) : (mk [c]).length ≤ LIM := by rw [len_mk]; show 1 ≤ LIM; decide
theorem ix_im : Im2 K (rIx K) ixD := by
  intro H O x y dx dy Q t hx hy h
  cases hx <;> cases hy <;> first | exact h.elim | skip
  · rename_i z h1 h2 i
    obtain ⟨c, e, h⟩ := okk_opt h
    exact .inr (.inr ⟨_, _, c, rfl, rfl, Nat.le_trans h2 lim_line, e, h _ _ (Same.refl _) (.str (asc_one h1 (mem_at e)) (len_one c))⟩)
  · rename_i a vs ds h1 h2 h3 i
    obtain ⟨d, e, h⟩ := okk_opt h
    obtain ⟨v, g1, g2⟩ := dn_at h3 e
    exact .inl ⟨_, _, _, v, rfl, rfl, (rd_sub h1).sq, g1, h _ _ (Same.refl _) g2⟩
  · rename_i a vs ds h1 h2 h3 i
    obtain ⟨d, e, h⟩ := okk_opt h
    obtain ⟨v, g1, g2⟩ := dn_at h3 e
    exact .inr (.inl ⟨_, _, _, v, rfl, rfl, sqT_sub h1, g1, h _ _ (Same.refl _) g2⟩)
end
/-- what is not written a:b -/
def noSlice : Expr → Bool
  | .Slice .. => false
  | _ => true
theorem plainIx_of {b : Expr} (h : noSlice b = true) : PlainIx b := fun o i => by cases b <;> first | rfl | cases h
section
variable {X : Cx} {xp : XP} {W : WX} {a b : Expr} {fa fb : Sto → Rs D} {pos : Pos}
theorem ce_ix (ha : CE X xp W a fa) (hb : CE X xp W b fb) (hs : noSlice b = true) : CE X xp W (.Subscript a b pos) (fun ρ => (fa ρ).bind fun x => (fb ρ).bind fun y => pur (ixD x y)) :=
  pe_imp (pe_ix ix_seq ha hb (plainIx_of hs)) fun _ _ _ h => rd2 ix_im h
/-- an item of a list of ours -/
theorem ce_oix {i : Nat} {x : Str} {p : Pos} (hN : X.N[i]? = some x) (hv : Vis X.env.scope x) (hd : (x == ("__debug__" : Str)) = false) (hcd : (x == ("__classdict__" : Str)) = false) (hb : CE X xp W b fb) (hs : noSlice b = true) :
    CE X xp W (.Subscript (.Name x p) b pos) (fun ρ => (getO ρ i).bind fun x => (fb ρ).bind fun y => pur (ixD x y)) :=
  pe_imp (pe_ix ix_seq (pe_var hN hv hd hcd) hb (plainIx_of hs)) fun σ H Q ⟨ρ, O, R, q⟩ => by
    have q : End X.K X.mg W O σ H (fun d H' => ∀ v, Dn X.K (msk H' O) v d → Q v H') ((getO ρ i).bind fun x => (fb ρ).bind fun y => pur (ixD x y)) := q
    unfold getO at q
    split at q
    · rename_i xs e
      by_cases hl : xs.length ≤ LIM
      · rw [if_pos hl] at q
        obtain ⟨v, h1, a, vs, rfl, h3, h4, h5⟩ := R.at_ i _ e
        have q : End X.K X.mg W O σ H (fun d H' => ∀ v, Dn X.K (msk H' O) v d → Q v H') ((fb ρ).bind fun y => pur (ixD (.list xs) y)) := q
        refine ⟨_, h1, ρ, O, R, (End.bind q).imp fun dy H2 _ s2 q2 vy hy => ?_⟩
        have q3 := end_pur q2
        cases hy <;> first | exact q3.elim | skip
        rename_i k
        obtain ⟨d, e2, q4⟩ := okk_opt q3
        obtain ⟨v, g1, g2⟩ := dn_at h5 e2
        exact .inl ⟨_, _, _, v, rfl, rfl, .inl (.inl (s2 _ _ h4)), g1, q4 _ (Same.refl _) v (dp_mono (msk_same s2) g2)⟩
      · rw [if_neg hl] at q; exact q.elim
    · exact q.elim
/-! ### x[a:b] -/
def partD : Option D → Rs (Option Int)
  | none => .ok none
  | some (.int i) => .ok (some i)
  | _ => .bad
def slD (x : D) (lo hi : Option Int) : Rs D := match x with
  | .list xs => .ok (.list (cut xs lo hi))
  | .tuple xs => .ok (.tuple (cut xs lo hi))
  | .str x => .ok (.str (mk (cut (cl x) lo hi)))
  | _ => .bad
def rdO (K : PySem.W.Frag) (mg : Str → Option Value) (xp : XP) (W : WX) (f : Sto → Rs (Option Int)) : TO := fun σ H Q => ∃ ρ O, Rel K xp σ H ρ O ∧ End K mg W O σ H (fun o H' => Q o H') (f ρ)
abbrev CO (X : Cx) (xp : XP) (W : WX) (e : Option Expr) (f : Sto → Rs (Option Int)) : Prop := PO X e (rdO X.K X.mg xp W f)
theorem po_imp {e : Option Expr} {t t' : TO} (h : PO X e t) (k : ∀ σ H Q, t' σ H Q → t σ H Q) : PO X e t' := ⟨fun pins s σ H Q I q => h.run pins s σ H Q I (k σ H Q q)⟩
theorem co_none : CO X xp W none (fun _ => .ok none) := po_imp po_none fun σ H Q ⟨ρ, O, R, q⟩ => q.ok
def asI : D → Rs (Option Int)
  | .int i => .ok (some i)
  | _ => .bad
theorem co_some (h : CE X xp W a fa) : CO X xp W (some a) (fun ρ => (fa ρ).bind asI) := po_imp (po_some h) fun σ H Q ⟨ρ, O, R, q⟩ => ⟨ρ, O, R, (End.bind q).imp fun d H' _ s k v hv => by
  cases hv <;> first | exact k.elim | exact ⟨_, rfl, k.ok⟩⟩
def rSl (K : PySem.W.Frag) : V → Option Int → Option Int → Hp → VK → Prop := fun x lo hi H Q => rSlL K x lo hi H Q ∨ (rSlA K x lo hi H Q ∨ rSlS x lo hi H Q)
theorem sl_all : SlR X (rSl X.K) := sl_list.or (sl_tupA.or sl_str)
theorem cutS_eq (z : Str) (lo hi : Option Int) : cutS z lo hi = mk (cut (cl z) lo hi) := by
  unfold cutS cut
  rw [len_cl]
theorem dnAll_cut {K : PySem.W.Frag} {H : Hp} {vs : List V} {ds : List D} (h : DnAll K H vs ds) (lo hi : Option Int) : DnAll K H (cutV vs lo hi) (cut ds lo hi) := by
  unfold cutV cut
  rw [dpAll_len h]
  exact dpAll_take _ (dpAll_drop _ h)
theorem cutV_whole {xs : List V} {lo hi : Option Int} (h : HT.sIx xs.length 0 lo = 0 ∧ HT.sIx xs.length xs.length hi = xs.length) : cutV xs lo hi = xs := by
  unfold cutV
  rw [h.1, h.2, List.drop_zero, Nat.sub_zero, List.take_length]
theorem sl_im {K : PySem.W.Frag} (H : Hp) (O : List Addr) (l u : Option Int) (vx : V) (dx : D) (Q : VK) (t : Thr H O) (hx : Dn K (msk H O) vx dx) (h : Okk (slD dx l u) fun d => ∀ v H', Same H H' → Dn K (msk H' O) v d → Q v H') : rSl K vx l u H Q := by
  cases hx <;> first | exact h.elim | skip
  · rename_i z h1 h2
    refine .inr (.inr ⟨_, rfl, Nat.le_trans h2 lim_line, ?_⟩)
    rw [cutS_eq]
    exact h _ _ (Same.refl _) (.str (asc_sub h1 fun c hc => cut_mem hc) (by rw [len_mk]; exact Nat.le_trans (cut_le _ _ _) (by rw [← len_cl]; exact h2)))
  · rename_i b vs ds h1 h2 h3
    exact .inl ⟨_, _, rfl, (rd_sub h1).sq, fun p hp => h _ _ (same_new hp) (dn_newL t hp (Nat.le_trans (cutV_length _ _ _) h2) (dnAll_cut h3 l u))⟩
  · rename_i b vs ds h1 h2 h3
    refine .inr (.inl ⟨_, _, rfl, sqT_sub h1, fun e => ?_, fun _ p hp => h _ _ (same_new hp) (dn_newT t hp (Nat.le_trans (cutV_length _ _ _) h2) (dnAll_cut h3 l u))⟩)
    have := dnAll_cut h3 l u
    rw [cutV_whole e] at this
    exact h _ _ (Same.refl _) (.tup h1 h2 this)
variable {lo hi : Option Expr} {fl fh : Sto → Rs (Option Int)} {p2 : Pos}
def slF (fa : Sto → Rs D) (fl fh : Sto → Rs (Option Int)) : Sto → Rs D := fun ρ => (fa ρ).bind fun x => (fl ρ).bind fun l => (fh ρ).bind fun u => pur (slD x l u)
theorem ce_sl (ha : CE X xp W a fa) (hl : CO X xp W lo fl) (hh : CO X xp W hi fh) : CE X xp W (.Subscript a (.Slice lo hi none p2) pos) (slF fa fl fh) :=
  pe_imp (pe_slice sl_all ha hl hh) fun σ H Q ⟨ρ, O, R, q⟩ => ⟨ρ, O, R, (End.bind q).imp fun dx H1 _ s1 q1 vx hx => ⟨ρ, O, R.mono s1, (End.bind q1).imp fun l H2 _ s2 q2 => ⟨ρ, O, (R.mono s1).mono s2, (End.bind q2).imp fun u H3 _ s3 q3 => by
    exact sl_im H3 O l u vx dx Q (((R.mono s1).mono s2).mono s3).thr (dp_mono (msk_same s3) (dp_mono (msk_same s2) hx)) ((end_pur q3).imp fun d k v H' s h => k H' s v h)⟩⟩⟩
end

/-! ### built-in functions -/
/-- the reading r of a call serves g -/
def ImC (K : PySem.W.Frag) (r : List V → Hp → VK → Prop) (g : List D → Rs D) : Prop := ∀ (H : Hp) (O : List Addr) (xs : List V) (ds : List D) (Q : VK), Thr H O → DnAll K (msk H O) xs ds →
  Okk (g ds) (fun d => ∀ v H', Same H H' → Dn K (msk H' O) v d → Q v H') → r xs H Q
/-- .. whose arguments are only looked at, the answer flat -/
def ImCL (K : PySem.W.Frag) (r : List V → Hp → VK → Prop) (g : D → Rs D) : Prop := ∀ (H : Hp) (x : V) (d : D) (Q : VK), Dn K H x d → Okk (g d) (fun d => ∀ v H', Same H H' → (∀ F, Dn K F v d) → Q v H') → r [x] H Q
section
variable {X : Cx} {xp : XP} {W : WX} {e : Expr} {es : List Expr} {fs : Sto → Rs (List D)} {fa : Sto → Rs D} {r : List V → Hp → VK → Prop} {g : List D → Rs D} {g1 : D → Rs D} {x : Str} {id T : String} {p pos : Pos}
theorem rd_call {K : PySem.W.Frag} {mg : Str → Option Value} (im : ImC K r g) {σ : L2.St} {H : Hp} {Q : VK} (h : rdE K mg xp W (fun ρ => (fs ρ).bind fun ds => pur (g ds)) σ H Q) : tCB r (rdA K mg xp W fs) σ H Q := by
  obtain ⟨ρ, O, R, q⟩ := h
  exact ⟨ρ, O, R, (End.bind q).imp fun ds H1 _ s1 q1 vs hv => im H1 O vs ds Q (R.mono s1).thr hv ((end_pur q1).imp fun d k v H' s h => k H' s v h)⟩
theorem ce_callB (hc : CallR X (.builtin id) r) (im : ImC X.K r g) (hg : Gl X x) (hm : X.mg x = none) (hv : bootBuiltins x = some (.builtin id)) (ha : CA X xp W (e :: es) fs) (hn : x ≠ "__name__") (hdb : (x == ("__debug__" : Str)) = false)
    (he : starEach (e :: es) X.env = (false, eval e X.env) :: starEach es X.env) (hpl : (backTo pos (starEach es X.env)).any (·.1) = false) : CE X xp W (.Call (.Name x p) (e :: es) [] pos) (fun ρ => (fs ρ).bind fun ds => pur (g ds)) :=
  pe_imp (pe_callB hc hg hm hv ha hn hdb he hpl) fun _ _ _ h => rd_call im h
theorem ce_callTy (hc : CallR X (.type T) r) (im : ImC X.K r g) (hg : Gl X x) (hm : X.mg x = none) (hv : bootBuiltins x = some (.type T)) (ha : CA X xp W (e :: es) fs) (hn : x ≠ "__name__") (hdb : (x == ("__debug__" : Str)) = false)
    (he : starEach (e :: es) X.env = (false, eval e X.env) :: starEach es X.env) (hpl : (backTo pos (starEach es X.env)).any (·.1) = false) : CE X xp W (.Call (.Name x p) (e :: es) [] pos) (fun ρ => (fs ρ).bind fun ds => pur (g ds)) :=
  pe_imp (pe_callTy hc hg hm hv ha hn hdb he hpl) fun _ _ _ h => rd_call im h
/-- one argument, only looked at -/
theorem ce_callL (hc : CallR X (.builtin id) r) (im : ImCL X.K r g1) (hg : Gl X x) (hm : X.mg x = none) (hv : bootBuiltins x = some (.builtin id)) (ha : CL X xp W e fa) (hn : x ≠ "__name__") (hdb : (x == ("__debug__" : Str)) = false)
    (he : starEach [e] X.env = (false, eval e X.env) :: starEach [] X.env) (hpl : (backTo pos (starEach [] X.env)).any (·.1) = false) : CE X xp W (.Call (.Name x p) [e] [] pos) (fun ρ => (fa ρ).bind fun d => pur (g1 d)) :=
  pe_imp (pe_callB hc hg hm hv (pa_cons ha pa_nil he) hn hdb he hpl) fun σ H Q ⟨ρ, O, R, q⟩ =>
    ⟨ρ, O, R, (End.bind q).imp fun d H1 _ s1 q1 v hv => im H1 v d Q hv ((end_pur q1).imp fun d k v H' s h => k H' s v (h _))⟩
end
end Pf

set_option Elab.async false
set_option linter.all false
set_option maxRecDepth 100000
/-! The built-in functions, each with what it computes. -/
namespace Pf
open PySem PySem.Spec L2

def numS (i : Int) : Str := Str.ofString (toString i)
/-- all ints, all bools -/
def intsOf : List D → Option (List Int)
  | [] => some []
  | .int i :: r => (intsOf r).map (i :: ·)
  | _ => none
def boolsOf : List D → Option (List Bool)
  | [] => some []
  | .bool i :: r => (boolsOf r).map (i :: ·)
  | _ => none
def strsOf : List D → Option (List Str)
  | [] => some []
  | .str i :: r => (strsOf r).map (i :: ·)
  | _ => none
/-- Python's order of data of one shape -/
def leOrd (x y : D) : Bool := !PySem.W.dataLt y x
def sortL (xs : List D) : List D := xs.mergeSort leOrd
def allAlike (xs : List D) : Bool := xs.all fun x => xs.all fun y => PySem.W.alike x y
def sortable (xs : List D) : Bool := (xs.all fun x => match x with | .tuple (_ :: _) => true | _ => false) || xs.all fun x => match x with | .tuple _ => false | .none => false | _ => true
def noneFree (xs : List D) : Bool := xs.all fun x => match x with | .none => false | _ => true
def reprD (d : D) : Rs D := if d.hasDict = false ∧ d.depth ≤ 64 ∧ d.showable = true ∧ d.shown.length ≤ LIM ∧ asc d.shown = true then .ok (.str d.shown) else .bad
def lenD : D → Rs D
  | .str x => .ok (.int x.length)
  | .list xs => .ok (.int xs.length)
  | .tuple xs => .ok (.int xs.length)
  | .dict xs => .ok (.int xs.length)
  | _ => .bad
section
variable {K : PySem.W.Frag} {H : Hp}
theorem ints_of : ∀ {vs : List V} {ds : List D} {ns : List Int}, DnAll K H vs ds → intsOf ds = some ns → vs = ns.map V.int
  | _, _, _, .nil, e => by cases e; rfl
  | _, _, _, .cons h t, e => by
    cases h <;> first | cases e; done | skip
    rename_i i
    unfold intsOf at e
    cases q : intsOf _ with
    | none => rw [q] at e; cases e
    | some ms => rw [q] at e; cases e; rw [ints_of t q]; rfl
theorem bools_of : ∀ {vs : List V} {ds : List D} {ns : List Bool}, DnAll K H vs ds → boolsOf ds = some ns → vs = ns.map V.bl
  | _, _, _, .nil, e => by cases e; rfl
  | _, _, _, .cons h t, e => by
    cases h <;> first | cases e; done | skip
    rename_i i
    unfold boolsOf at e
    cases q : boolsOf _ with
    | none => rw [q] at e; cases e
    | some ms => rw [q] at e; cases e; rw [bools_of t q]; rfl
theorem strs_of : ∀ {vs : List V} {ds : List D} {ns : List Str}, DnAll K H vs ds → strsOf ds = some ns → vs = ns.map V.str ∧ (∀ x ∈ ns, asc x = true ∧ x.length ≤ LIM)
  | _, _, _, .nil, e => by cases e; exact ⟨rfl, fun x hx => by cases hx⟩
  | _, _, _, .cons h t, e => by
    cases h <;> first | cases e; done | skip
    rename_i i h1 h2
    unfold strsOf at e
    cases q : strsOf _ with
    | none => rw [q] at e; cases e
    | some ms =>
      rw [q] at e
      cases e
      obtain ⟨g1, g2⟩ := strs_of t q
      refine ⟨by rw [g1]; rfl, fun x hx => ?_⟩
      rcases List.mem_cons.mp hx with rfl | hx
      · exact ⟨h1, h2⟩
      · exact g2 x hx
end
inductive BI where
  | max2 | min2 | abs | sum | anyy | alll | min1 | max1 | sorted | repr | ord
  deriving DecidableEq
inductive TyI where
  | int | str | list | tuple
  deriving DecidableEq
def BI.id : BI → String
  | .max2 => "max" | .min2 => "min" | .abs => "abs" | .sum => "sum" | .anyy => "any" | .alll => "all" | .min1 => "min" | .max1 => "max" | .sorted => "sorted" | .repr => "repr" | .ord => "ord"
def TyI.id : TyI → String
  | .int => "int" | .str => "str" | .list => "list" | .tuple => "tuple"
def biD : BI → List D → Rs D
  | .max2, [.int i, .int j] => .ok (.int (if j > i then j else i))
  | .min2, [.int i, .int j] => .ok (.int (if j < i then j else i))
  | .abs, [.int i] => .ok (.int (if i < 0 then -i else i))
  | .sum, [.list xs] => opt (intsOf xs) fun ns => .int ns.sum
  | .anyy, [.list xs] => opt (boolsOf xs) fun bs => .bool (bs.any id)
  | .alll, [.list xs] => opt (boolsOf xs) fun bs => .bool (bs.all id)
  | .min1, [.list xs] => (opt (intsOf xs) id).bind fun ns => if 0 < ns.length then .ok (.int (ns.foldl min (ns.headD 0))) else .bad
  | .max1, [.list xs] => (opt (intsOf xs) id).bind fun ns => if 0 < ns.length then .ok (.int (ns.foldl max (ns.headD 0))) else .bad
  | .sorted, [.list xs] => if allAlike xs = true ∧ sortable xs = true ∧ (xs.all fun x => decide (x.depth ≤ 64)) = true ∧ PyData.hasDictAll xs = false then .ok (.list (sortL xs)) else .bad
  | .repr, [d] => reprD d
  | .ord, [.str x] => if x.length = 1 then .ok (.int ((cl x).headD 0 : Nat)) else .bad
  | _, _ => .bad
def tiD : TyI → List D → Rs D
  | .int, [.int i] => .ok (.int i)
  | .int, [.bool b] => .ok (.int (if b then 1 else 0))
  | .int, [.str x] => if x.length ≤ 640 then opt (PySem.intText? x) .int else .bad
  | .str, [.int i] => if i.natAbs.log2 < 1920 ∧ asc (numS i) = true ∧ (numS i).length ≤ LIM then .ok (.str (numS i)) else .bad
  | .str, [.str x] => .ok (.str x)
  | .list, [.list xs] => .ok (.list xs)
  | .list, [.tuple xs] => .ok (.list xs)
  | .tuple, [.list xs] => .ok (.tuple xs)
  | .tuple, [.tuple xs] => .ok (.tuple xs)
  | _, _ => .bad
section
variable {X : Cx}
/-- repr of data -/
def rRepr (K : PySem.W.Frag) : List V → Hp → VK → Prop := fun xs H Q => ∃ x d, xs = [x] ∧ Dp K H x d ∧ d.hasDict = false ∧ d.depth ≤ 64 ∧ d.showable = true ∧ d.shown.length ≤ LIM ∧ Q (.str d.shown) H
theorem call_reprD (nore : NoRepr X.A) (hu : X.A.units + 70 < cLine) : CallR X (.builtin "repr") (rRepr X.K) := by
  rintro pins s σ H xs us Q I r ⟨x, d, rfl, hd, nod, dep, sho, sz, q⟩
  obtain ⟨u, rfl, ru⟩ := Vals.one r
  have sz' : d.shown.length ≤ sizeLine := Nat.le_trans sz lim_line
  cases hd with
  | non =>
    cases ru
    exact PySem.P.repr_of_none ⟨V.str _, H, I.tok _, ⟨_, rfl⟩, q⟩
  | bl b =>
    cases ru
    refine PySem.P.repr_of_bool ⟨V.str _, H, I.tok _, ⟨_, rfl⟩, ?_⟩
    simp only [PyData.shown] at q
    exact q
  | int i =>
    obtain ⟨t, rfl⟩ := ru
    simp only [PyData.showable, decide_eq_true_eq] at sho
    refine PySem.P.repr_of_int sho ⟨V.str _, H, I.tok _, ⟨_, rfl⟩, ?_⟩
    simp only [PyData.shown] at q
    exact q
  | str z =>
    obtain ⟨t, rfl⟩ := ru
    simp only [PyData.shown] at q sz'
    exact PySem.P.repr_of_str ⟨V.str _, H, I.tok _, ⟨_, rfl⟩, q⟩ sz'
  | lst h1 h2 =>
    obtain ⟨as, rd⟩ := Dp.reads I _ _ _ (Dp.lst h1 h2) ru
    cases ru
    exact repr_of_reads' rd sho (PyData.noDict_hsm nod) nore (by omega) (fun _ _ g => g) (fun h' u tk keep => ⟨V.str _, H, I.kept (t' := tk) keep, ⟨_, rfl⟩, q⟩) sz'
  | tup h1 h2 =>
    obtain ⟨as, rd⟩ := Dp.reads I _ _ _ (Dp.tup h1 h2) ru
    cases ru
    exact repr_of_reads' rd sho (PyData.noDict_hsm nod) nore (by omega) (fun _ _ g => g) (fun h' u tk keep => ⟨V.str _, H, I.kept (t' := tk) keep, ⟨_, rfl⟩, q⟩) sz'
/-- sorted of data of one shape -/
def rSortD (K : PySem.W.Frag) : List V → Hp → VK → Prop := fun vs H Q => ∃ (a : Addr) (bs : List (V × D)), vs = [.ref a] ∧ SqL K H a (bs.map (·.1)) ∧ (∀ b ∈ bs, Dp K H b.1 b.2) ∧ PySem.W.AllAlike (bs.map (·.2)) ∧ PySem.W.Sortable (bs.map (·.2)) ∧ (∀ b ∈ bs, b.2.depth ≤ 64) ∧
  ∀ p, H p = none → Q (.ref p) (upd H p (.lst ((bs.mergeSort (PySem.W.dataLe false fun b => b.2)).map (·.1))))
theorem each_of {R : Value → V × D → Prop} : ∀ {us : List Value} {bs : List (V × D)}, Vals (bs.map (·.1)) us → (∀ u b, b ∈ bs → RelV b.1 u → R u b) → PySem.W.EachIs R us bs
  | _, [], .nil, _ => .nil
  | _, b :: bs, .cons r t, h => .cons (h _ b (by simp) r) (each_of t fun u c hc => h u c (List.mem_cons_of_mem _ hc))
theorem vals_each : ∀ {us : List Value} {bs : List (V × D)}, PySem.W.EachIs (fun u b => RelV b.1 u) us bs → Vals (bs.map (·.1)) us
  | _, _, .nil => .nil
  | _, _, .cons r t => .cons r (vals_each t)
theorem call_sortD (hu : X.A.units + 70 < cLine) : CallR X (.builtin "sorted") (rSortD X.K) := by
  rintro pins s σ H xs us Q I r ⟨a, bs, rfl, hs, hd, al, so, dep, q⟩
  obtain ⟨its, rv, pl, sz⟩ := I.list hs
  rw [Vals.ref1 r]
  have lenB : bs.length ≤ sizeLine := by rw [List.length_map] at sz; exact sz
  refine PySem.W.sorted_data (R := fun u b => RelV b.1 u) (enc := fun b : V × D => b.2) pl.isList (each_of rv fun _ _ _ r => r) (each_of rv fun u b hb r => Dp.reads I _ _ _ (hd b hb) r) al so lenB (fun b hb => by have := dep b hb; omega) fun out ol oe => ?_
  obtain ⟨ep, atp⟩ := PyProof.Rows.sortedAll_at s.heap its out.toArray
  have lenS : ((bs.mergeSort (PySem.W.dataLe false fun b => b.2)).map (·.1)).length ≤ sizeLine := by rw [List.length_map, List.length_mergeSort]; exact lenB
  exact ⟨V.ref _, upd H (s.heap.objs.size + 1) (.lst _), I.laid (t' := s.toks) (fun _ _ => PyProof.Rows.sortedAll_old) (Nat.le_succ _) ⟨lenS, out, ep, vals_each oe, atp⟩, rfl, q _ (I.hok.fresh (Nat.le_succ _))⟩
def rBI (K : PySem.W.Frag) : BI → List V → Hp → VK → Prop
  | .max2 => fun xs H Q => ∃ i j, xs = [.int i, .int j] ∧ Q (.int (if j > i then j else i)) H
  | .min2 => fun xs H Q => ∃ i j, xs = [.int i, .int j] ∧ Q (.int (if j < i then j else i)) H
  | .abs => fun xs H Q => ∃ i, xs = [.int i] ∧ Q (.int (if i < 0 then -i else i)) H
  | .sum => rSum K
  | .anyy => rAny K
  | .alll => rAll K
  | .min1 => rMin K
  | .max1 => rMax K
  | .sorted => rSortD K
  | .repr => rRepr K
  | .ord => fun xs H Q => ∃ x, xs = [.str x] ∧ x.length = 1 ∧ Q (.int (x.cps.getD 0 0 : Nat)) H
theorem bi_op (hc : X.calm = true) (nore : NoRepr X.A) (hu : X.A.units + 70 < cLine) : ∀ b : BI, CallR X (.builtin b.id) (rBI X.K b)
  | .max2 => call_max2 hc
  | .min2 => call_min2 hc
  | .abs => call_abs
  | .sum => cr_sum hc
  | .anyy => cr_any hc
  | .alll => cr_all hc
  | .min1 => cr_min hc
  | .max1 => cr_max hc
  | .sorted => call_sortD hu
  | .repr => call_reprD nore hu
  | .ord => call_ord
def rTI (K : PySem.W.Frag) : TyI → List V → Hp → VK → Prop
  | .int => fun xs H Q => ((∃ i, xs = [.int i] ∧ Q (.int i) H) ∨ ∃ k, xs = [.bl k] ∧ Q (.int (if k then 1 else 0)) H) ∨ (∃ a n, xs = [.str a] ∧ PySem.intText? a = some n ∧ a.length ≤ 640 ∧ Q (.int n) H)
  | .str => fun xs H Q => (∃ i, xs = [.int i] ∧ i.natAbs.log2 < 1920 ∧ Q (.str (numS i)) H) ∨ ∃ a, xs = [.str a] ∧ Q (.str a) H
  | .list => fun xs H Q => ∃ p ys, xs = [.ref p] ∧ (SqL K H p ys ∨ SqT K H p ys) ∧ ∀ l, H l = none → Q (.ref l) (upd H l (.lst ys))
  | .tuple => fun xs H Q => ∃ p ys, xs = [.ref p] ∧ ((SqL K H p ys ∧ ∀ l, H l = none → Q (.ref l) (upd H l (.tup ys))) ∨ (SqT K H p ys ∧ Q (.ref p) H))
theorem ti_op : ∀ b : TyI, CallR X (.type b.id) (rTI X.K b)
  | .int => call_int1.or call_int_str
  | .str => call_str_int.or SkE.call_str_str
  | .list => call_list_of
  | .tuple => call_tuple_of
end
section
variable {K : PySem.W.Frag}
theorem okk_ite {c : Prop} [Decidable c] {r : Rs D} {P : D → Prop} (h : Okk (if c then r else .bad) P) : c ∧ Okk r P := by
  by_cases e : c
  · rw [if_pos e] at h; exact ⟨e, h⟩
  · rw [if_neg e] at h; exact h.elim
theorem foldl_min {ns : List Int} : ∀ (m : Int), (∀ y ∈ ns, ns.foldl min m ≤ y) ∧ ns.foldl min m ≤ m ∧ (ns.foldl min m = m ∨ ns.foldl min m ∈ ns) := by
  induction ns with
  | nil => intro m; exact ⟨fun y h => (by cases h), Int.le_refl _, .inl rfl⟩
  | cons n ns ih =>
    intro m
    rw [List.foldl_cons]
    obtain ⟨h1, h2, h3⟩ := ih (min m n)
    refine ⟨fun y hy => ?_, by omega, ?_⟩
    · rcases List.mem_cons.mp hy with rfl | hy
      · omega
      · exact h1 y hy
    · rcases h3 with h3 | h3
      · rw [h3]
        by_cases e : m ≤ n
        · rw [Int.min_eq_left e]; exact .inl rfl
        · rw [Int.min_eq_right (by omega)]; exact .inr (by simp)
      · exact .inr (List.mem_cons_of_mem _ h3)
theorem foldl_max {ns : List Int} : ∀ (m : Int), (∀ y ∈ ns, y ≤ ns.foldl max m) ∧ m ≤ ns.foldl max m ∧ (ns.foldl max m = m ∨ ns.foldl max m ∈ ns) := by
  induction ns with
  | nil => intro m; exact ⟨fun y h => (by cases h), Int.le_refl _, .inl rfl⟩
  | cons n ns ih =>
    intro m
    rw [List.foldl_cons]
    obtain ⟨h1, h2, h3⟩ := ih (max m n)
    refine ⟨fun y hy => ?_, by omega, ?_⟩
    · rcases List.mem_cons.mp hy with rfl | hy
      · omega
      · exact h1 y hy
    · rcases h3 with h3 | h3
      · rw [h3]
        by_cases e : n ≤ m
        · rw [Int.max_eq_left e]; exact .inl rfl
        · rw [Int.max_eq_right (by omega)]; exact .inr (by simp)
      · exact .inr (List.mem_cons_of_mem _ h3)
theorem min_is {ns : List Int} (h : 0 < ns.length) {m : Int} (hm : m ∈ ns) (hl : ∀ y ∈ ns, m ≤ y) : m = ns.foldl min (ns.headD 0) := by
  obtain ⟨h1, h2, h3⟩ := foldl_min (ns := ns) (ns.headD 0)
  have hh : ns.headD 0 ∈ ns := by
    cases ns with
    | nil => cases h
    | cons a r => simp
  have := h1 m hm
  rcases h3 with h3 | h3
  · have := hl _ hh; omega
  · have := hl _ h3; omega
theorem max_is {ns : List Int} (h : 0 < ns.length) {m : Int} (hm : m ∈ ns) (hl : ∀ y ∈ ns, y ≤ m) : m = ns.foldl max (ns.headD 0) := by
  obtain ⟨h1, h2, h3⟩ := foldl_max (ns := ns) (ns.headD 0)
  have hh : ns.headD 0 ∈ ns := by
    cases ns with
    | nil => cases h
    | cons a r => simp
  have := h1 m hm
  rcases h3 with h3 | h3
  · have := hl _ hh; omega
  · have := hl _ h3; omega
theorem zip_fst {H : Hp} : ∀ {vs : List V} {ds : List D}, DnAll K H vs ds → (vs.zip ds).map (·.1) = vs ∧ (vs.zip ds).map (·.2) = ds ∧ ∀ b ∈ vs.zip ds, Dn K H b.1 b.2
  | _, _, .nil => ⟨rfl, rfl, fun b hb => by cases hb⟩
  | _, _, .cons h t => by
    obtain ⟨h1, h2, h3⟩ := zip_fst t
    refine ⟨by rw [List.zip_cons_cons, List.map_cons, h1], by rw [List.zip_cons_cons, List.map_cons, h2], fun b hb => ?_⟩
    rw [List.zip_cons_cons] at hb
    rcases List.mem_cons.mp hb with rfl | hb
    · exact h
    · exact h3 b hb
theorem dnAll_of {H : Hp} : ∀ {bs : List (V × D)}, (∀ b ∈ bs, Dn K H b.1 b.2) → DnAll K H (bs.map (·.1)) (bs.map (·.2))
  | [], _ => .nil
  | b :: bs, h => .cons (h b (by simp)) (dnAll_of fun c hc => h c (List.mem_cons_of_mem _ hc))
theorem nodict_mem : ∀ {xs : List D} {x : D}, PyData.hasDictAll xs = false → x ∈ xs → x.hasDict = false
  | [], _, _, h => by cases h
  | y :: ys, x, e, h => by
    simp only [PyData.hasDictAll, Bool.or_eq_false_iff] at e
    rcases List.mem_cons.mp h with rfl | h
    · exact e.1
    · exact nodict_mem e.2 h
theorem sortable_of {xs : List D} (h : sortable xs = true) : PySem.W.Sortable xs := by
  rcases Bool.or_eq_true _ _ ▸ h with h | h
  · refine .inl fun d hd => ?_
    have := List.all_eq_true.mp h d hd
    split at this
    · exact ⟨_, _, rfl⟩
    · cases this
  · refine .inr fun d hd => ?_
    have := List.all_eq_true.mp h d hd
    refine ⟨fun e => ?_, fun ys e => ?_⟩ <;> (subst e; cases this)
theorem sortL_zip (bs : List (V × D)) : (bs.mergeSort (PySem.W.dataLe false fun b => b.2)).map (·.2) = sortL (bs.map (·.2)) :=
  PySem.W.sort_maps (Prod.snd : V × D → D) fun _ _ _ _ => rfl
theorem bi_im (b : BI) : ImC K (rBI K b) (biD b) := by
  intro H O xs ds Q t ha h
  cases b
  case max2 =>
    match ds, ha, h with
    | [.int i, .int j], .cons (.int _) (.cons (.int _) .nil), h => exact ⟨_, _, rfl, h _ _ (Same.refl _) (.int _)⟩
  case min2 =>
    match ds, ha, h with
    | [.int i, .int j], .cons (.int _) (.cons (.int _) .nil), h => exact ⟨_, _, rfl, h _ _ (Same.refl _) (.int _)⟩
  case abs =>
    match ds, ha, h with
    | [.int i], .cons (.int _) .nil, h => exact ⟨_, rfl, h _ _ (Same.refl _) (.int _)⟩
  case sum =>
    match ds, ha, h with
    | [.list xs], .cons (.lst h1 h2 h3) .nil, h =>
      obtain ⟨ns, e, h⟩ := okk_opt h
      have := ints_of h3 e
      subst this
      exact ⟨_, ns, rfl, (rd_sub h1).sq, h _ _ (Same.refl _) (.int _)⟩
  case anyy =>
    match ds, ha, h with
    | [.list xs], .cons (.lst h1 h2 h3) .nil, h =>
      obtain ⟨ns, e, h⟩ := okk_opt h
      have := bools_of h3 e
      subst this
      exact ⟨_, ns, rfl, (rd_sub h1).sq, h _ _ (Same.refl _) (.bl _)⟩
  case alll =>
    match ds, ha, h with
    | [.list xs], .cons (.lst h1 h2 h3) .nil, h =>
      obtain ⟨ns, e, h⟩ := okk_opt h
      have := bools_of h3 e
      subst this
      exact ⟨_, ns, rfl, (rd_sub h1).sq, h _ _ (Same.refl _) (.bl _)⟩
  case min1 =>
    match ds, ha, h with
    | [.list xs], .cons (.lst h1 h2 h3) .nil, h =>
      have h : Okk ((opt (intsOf xs) id).bind fun ns => if 0 < ns.length then .ok (.int (ns.foldl min (ns.headD 0))) else .bad) _ := h
      cases e : intsOf xs with
      | none => rw [e] at h; exact h.elim
      | some ns =>
        rw [e] at h
        obtain ⟨h4, h⟩ := okk_ite h
        have := ints_of h3 e
        subst this
        refine ⟨_, ns, rfl, (rd_sub h1).sq, h4, fun m hm hl => ?_⟩
        rw [min_is h4 hm hl]
        exact h _ _ (Same.refl _) (.int _)
  case max1 =>
    match ds, ha, h with
    | [.list xs], .cons (.lst h1 h2 h3) .nil, h =>
      have h : Okk ((opt (intsOf xs) id).bind fun ns => if 0 < ns.length then .ok (.int (ns.foldl max (ns.headD 0))) else .bad) _ := h
      cases e : intsOf xs with
      | none => rw [e] at h; exact h.elim
      | some ns =>
        rw [e] at h
        obtain ⟨h4, h⟩ := okk_ite h
        have := ints_of h3 e
        subst this
        refine ⟨_, ns, rfl, (rd_sub h1).sq, h4, fun m hm hl => ?_⟩
        rw [max_is h4 hm hl]
        exact h _ _ (Same.refl _) (.int _)
  case sorted =>
    match ds, ha, h with
    | [.list xs], .cons (.lst (xs := vs) h1 h2 h3) .nil, h =>
      obtain ⟨⟨c1, c2, c3, c4⟩, h⟩ := okk_ite h
      obtain ⟨z1, z2, z3⟩ := zip_fst h3
      refine ⟨_, vs.zip xs, rfl, by rw [z1]; exact (rd_sub h1).sq, fun b hb => ?_, ?_, ?_, fun b hb => ?_, fun p hp => ?_⟩
      · refine dn_dp (dp_mono msk_sub (z3 b hb)) (nodict_mem c4 ?_)
        rw [← z2]
        exact List.mem_map_of_mem hb
      · rw [z2]
        exact fun d hd d' hd' => List.all_eq_true.mp (List.all_eq_true.mp c1 d hd) d' hd'
      · rw [z2]; exact sortable_of c2
      · refine of_decide_eq_true (List.all_eq_true.mp c3 b.2 ?_)
        rw [← z2]
        exact List.mem_map_of_mem hb
      · have dn := dnAll_of (K := K) (H := msk H O) (bs := (vs.zip xs).mergeSort (PySem.W.dataLe false fun b => b.2)) fun b hb => z3 b (List.mem_mergeSort.mp hb)
        rw [sortL_zip, z2] at dn
        refine h _ _ (same_new hp) (dn_newL t hp ?_ dn)
        rw [List.length_map, List.length_mergeSort, ← List.length_map (f := (·.1)), z1]
        exact h2
  case repr =>
    match ds, ha, h with
    | [d], .cons (v := v) hv .nil, h =>
      obtain ⟨⟨c1, c2, c3, c4, c5⟩, h⟩ := okk_ite h
      exact ⟨v, d, rfl, dn_dp (dp_mono msk_sub hv) c1, c1, c2, c3, c4, h _ _ (Same.refl _) (.str c5 c4)⟩
  case ord =>
    match ds, ha, h with
    | [.str x], .cons (.str h1 h2) .nil, h =>
      obtain ⟨c1, h⟩ := okk_ite h
      refine ⟨x, rfl, c1, ?_⟩
      have e : x.cps.getD 0 0 = (cl x).headD 0 := by
        have : x.cps.getD 0 0 = x.cps.toList.getD 0 0 := by simp [Array.getD_eq_getD_getElem?]
        rw [this]
        show x.cps.toList.getD 0 0 = x.cps.toList.headD 0
        cases x.cps.toList <;> rfl
      rw [e]
      exact h _ _ (Same.refl _) (.int _)
theorem ti_im (b : TyI) : ImC K (rTI K b) (tiD b) := by
  intro H O xs ds Q t ha h
  cases b
  case int =>
    match ds, ha, h with
    | [.int i], .cons (.int _) .nil, h => exact .inl (.inl ⟨_, rfl, h _ _ (Same.refl _) (.int _)⟩)
    | [.bool b], .cons (.bl _) .nil, h => exact .inl (.inr ⟨_, rfl, h _ _ (Same.refl _) (.int _)⟩)
    | [.str x], .cons (.str h1 h2) .nil, h =>
      obtain ⟨c1, h⟩ := okk_ite h
      obtain ⟨n, e, h⟩ := okk_opt h
      exact .inr ⟨_, n, rfl, e, c1, h _ _ (Same.refl _) (.int _)⟩
  case str =>
    match ds, ha, h with
    | [.int i], .cons (.int _) .nil, h =>
      obtain ⟨⟨c1, c2, c3⟩, h⟩ := okk_ite h
      exact .inl ⟨_, rfl, c1, h _ _ (Same.refl _) (.str c2 c3)⟩
    | [.str x], .cons (.str h1 h2) .nil, h => exact .inr ⟨_, rfl, h _ _ (Same.refl _) (.str h1 h2)⟩
  case list =>
    match ds, ha, h with
    | [.list xs], .cons (.lst h1 h2 h3) .nil, h => exact ⟨_, _, rfl, .inl (rd_sub h1).sq, fun l hl => h _ _ (same_new hl) (dn_newL t hl h2 h3)⟩
    | [.tuple xs], .cons (.tup h1 h2 h3) .nil, h => exact ⟨_, _, rfl, .inr (sqT_sub h1), fun l hl => h _ _ (same_new hl) (dn_newL t hl h2 h3)⟩
  case tuple =>
    match ds, ha, h with
    | [.list xs], .cons (.lst h1 h2 h3) .nil, h => exact ⟨_, _, rfl, .inl ⟨(rd_sub h1).sq, fun l hl => h _ _ (same_new hl) (dn_newT t hl h2 h3)⟩⟩
    | [.tuple xs], .cons (.tup h1 h2 h3) .nil, h => exact ⟨_, _, rfl, .inr ⟨sqT_sub h1, h _ _ (Same.refl _) (.tup h1 h2 h3)⟩⟩
def rLen (K : PySem.W.Frag) : List V → Hp → VK → Prop := fun xs H Q => (∃ x n, xs = [x] ∧ LenV K x H n ∧ Q (.int n) H) ∨ ∃ a kvs, xs = [V.ref a] ∧ H a = some (.dK kvs) ∧ Q (.int kvs.length) H
theorem call_lenA {X : Cx} : CallR X (.builtin "len") (rLen X.K) := call_len.or call_lenD
theorem dpKV_len {H : Hp} : ∀ {vs : List (Key × V)} {ds : List (D × D)}, DnKV K H vs ds → vs.length = ds.length
  | _, _, .nil => rfl
  | _, _, .cons _ t => congrArg Nat.succ (dpKV_len t)
theorem len_im : ImCL K (rLen K) lenD := by
  intro H x d Q hx h
  cases hx <;> first | exact h.elim | skip
  · rename_i z h1 h2
    exact .inl ⟨_, _, rfl, ⟨Nat.le_trans h2 lim_line, rfl⟩, h _ _ (Same.refl _) fun _ => .int _⟩
  · rename_i a vs ds h1 h2 h3
    have e := dpAll_len h3
    exact .inl ⟨_, _, rfl, .inl ⟨vs, h1.sq, rfl⟩, by rw [e]; exact h _ _ (Same.refl _) fun _ => .int _⟩
  · rename_i a vs ds h1 h2 h3
    have e := dpAll_len h3
    exact .inl ⟨_, _, rfl, .inr ⟨vs, h1, rfl⟩, by rw [e]; exact h _ _ (Same.refl _) fun _ => .int _⟩
  · rename_i a vs ds h1 h2 h3
    have e := dpKV_len h3
    exact .inr ⟨_, vs, rfl, h1, by rw [e]; exact h _ _ (Same.refl _) fun _ => .int _⟩
end
end Pf

set_option Elab.async false
set_option linter.all false
set_option maxRecDepth 100000
/-! Methods of texts. -/
namespace Pf
open PySem PySem.Spec L2

def splitS (a b : Str) : List Str := (TL.spl (cl b) 0 [] (cl a)).map mk
def partS (a b : Str) : Str × Str × Str := match TL.par (cl b) [] (cl a) with
  | some (p, q) => (mk p, b, mk q)
  | none => (a, Str.empty, Str.empty)
def joinS (a : Str) (ys : List Str) : Str := mk (TL.joinL (cl a) (ys.map cl))
theorem asc_kind {a b : Str} (h : asc b = true) : ¬ Builtin.Str.strKind a < Builtin.Str.strKind b := TL.kind_ok (by
  rw [← Array.all_toList]
  refine List.all_eq_true.mpr fun c hc => ?_
  have := asc_iff.mp h c hc
  exact decide_eq_true (by omega))
theorem cl_ne {b : Str} (h : (b.length == 0) = false) : cl b ≠ [] := fun e => by
  rw [len_cl, e] at h
  cases h
theorem map_mk_cl : ∀ l : List Str, (l.map cl).map mk = l
  | [] => rfl
  | x :: r => by rw [List.map_cons, List.map_cons, mk_cl, map_mk_cl r]
theorem split_is {a b : Str} (hb : (b.length == 0) = false) (h : asc b = true) : Txt.split a b = splitS a b := by
  unfold splitS
  rw [← TL.split_spl a b (cl_ne hb) (asc_kind h)]
  exact (map_mk_cl _).symm
theorem part_is {a b : Str} (hb : (b.length == 0) = false) : Txt.partition a b = partS a b := TL.partition_par a b (cl_ne hb)
theorem join_is (a : Str) (ys : List Str) : Txt.join a ys = joinS a ys := by
  unfold joinS
  rw [TL.join_eq, ← TL.tl_join]
theorem spl_mem {S : List Nat} : ∀ {k : Nat} {acc l p : List Nat}, p ∈ TL.spl S k acc l → ∀ c ∈ p, c ∈ acc ∨ c ∈ l
  | 0, acc, [], p, h, c, hc => by
    rw [TL.spl_nil, List.mem_singleton] at h
    subst h; exact .inl hc
  | k + 1, acc, [], p, h, c, hc => by
    rw [TL.spl_nil, List.mem_singleton] at h
    subst h; exact .inl hc
  | 0, acc, d :: r, p, h, c, hc => by
    cases e : TL.pre S (d :: r) with
    | true =>
      rw [TL.spl_hit e] at h
      rcases List.mem_cons.mp h with rfl | h
      · exact .inl hc
      · rcases spl_mem h c hc with z | z
        · cases z
        · exact .inr (List.mem_cons_of_mem _ z)
    | false =>
      rw [TL.spl_miss e] at h
      rcases spl_mem h c hc with z | z
      · rcases List.mem_append.mp z with z | z
        · exact .inl z
        · rw [List.mem_singleton] at z; subst z; exact .inr (by simp)
      · exact .inr (List.mem_cons_of_mem _ z)
  | k + 1, acc, d :: r, p, h, c, hc => by
    rcases spl_mem (k := k) (acc := acc) (l := r) h c hc with z | z
    · exact .inl z
    · exact .inr (List.mem_cons_of_mem _ z)
theorem spl_len {S : List Nat} : ∀ {k : Nat} {acc l p : List Nat}, p ∈ TL.spl S k acc l → p.length ≤ acc.length + l.length
  | 0, acc, [], p, h => by
    rw [TL.spl_nil, List.mem_singleton] at h
    subst h; simp
  | k + 1, acc, [], p, h => by
    rw [TL.spl_nil, List.mem_singleton] at h
    subst h; simp
  | 0, acc, d :: r, p, h => by
    cases e : TL.pre S (d :: r) with
    | true =>
      rw [TL.spl_hit e] at h
      rcases List.mem_cons.mp h with rfl | h
      · simp
      · have := spl_len h
        simp at this ⊢
        omega
    | false =>
      rw [TL.spl_miss e] at h
      have := spl_len h
      simp at this ⊢
      omega
  | k + 1, acc, d :: r, p, h => by
    have := spl_len (k := k) (acc := acc) (l := r) h
    simp at this ⊢
    omega
theorem spl_count {S : List Nat} : ∀ {k : Nat} {acc l : List Nat}, (TL.spl S k acc l).length ≤ l.length + 1
  | 0, acc, [] => by rw [TL.spl_nil]; simp
  | k + 1, acc, [] => by rw [TL.spl_nil]; simp
  | 0, acc, d :: r => by
    cases e : TL.pre S (d :: r) with
    | true =>
      rw [TL.spl_hit e]
      have := spl_count (S := S) (k := S.length - 1) (acc := []) (l := r)
      simp; omega
    | false =>
      rw [TL.spl_miss e]
      have := spl_count (S := S) (k := 0) (acc := acc ++ [d]) (l := r)
      simp; omega
  | k + 1, acc, d :: r => by
    have := spl_count (S := S) (k := k) (acc := acc) (l := r)
    show (TL.spl S k acc r).length ≤ _
    simp; omega
theorem par_some {S : List Nat} : ∀ {acc l p q : List Nat}, TL.par S acc l = some (p, q) → (∀ c ∈ p, c ∈ acc ∨ c ∈ l) ∧ (∀ c ∈ q, c ∈ l) ∧ p.length ≤ acc.length + l.length ∧ q.length ≤ l.length
  | acc, [], p, q, h => by cases h
  | acc, d :: r, p, q, h => by
    cases e : TL.pre S (d :: r) with
    | true =>
      rw [TL.par_hit e] at h
      cases h
      exact ⟨fun c hc => .inl hc, fun c hc => List.mem_of_mem_drop hc, by omega, by rw [List.length_drop]; omega⟩
    | false =>
      rw [TL.par_miss e] at h
      obtain ⟨h1, h2, h3, h4⟩ := par_some h
      refine ⟨fun c hc => ?_, fun c hc => List.mem_cons_of_mem _ (h2 c hc), by simp at h3 ⊢; omega, by simp; omega⟩
      rcases h1 c hc with z | z
      · rcases List.mem_append.mp z with z | z
        · exact .inl z
        · rw [List.mem_singleton] at z; subst z; exact .inr (by simp)
      · exact .inr (List.mem_cons_of_mem _ z)
theorem empty_ok : asc Str.empty = true ∧ Str.empty.length ≤ LIM := ⟨by decide, by decide⟩
theorem part_ok {a b : Str} (ha : asc a = true) (la : a.length ≤ LIM) (hb : asc b = true) (lb : b.length ≤ LIM) : (asc (partS a b).1 = true ∧ (partS a b).1.length ≤ LIM) ∧ (asc (partS a b).2.1 = true ∧ (partS a b).2.1.length ≤ LIM) ∧ (asc (partS a b).2.2 = true ∧ (partS a b).2.2.length ≤ LIM) := by
  unfold partS
  split
  · rename_i p q e
    obtain ⟨h1, h2, h3, h4⟩ := par_some e
    rw [len_cl] at la
    refine ⟨⟨asc_sub ha fun c hc => (h1 c hc).elim (fun z => by cases z) id, by rw [len_mk]; simp only [List.length_nil, Nat.zero_add] at h3; omega⟩, ⟨hb, lb⟩, asc_sub ha h2, by rw [len_mk]; omega⟩
  · exact ⟨⟨ha, la⟩, empty_ok, empty_ok⟩
theorem split_ok {a b : Str} (ha : asc a = true) (la : a.length ≤ LIM) : ∀ x ∈ splitS a b, asc x = true ∧ x.length ≤ LIM := fun x hx => by
  obtain ⟨p, hp, rfl⟩ := List.mem_map.mp hx
  rw [len_cl] at la
  refine ⟨asc_sub ha fun c hc => (spl_mem hp c hc).elim (fun z => by cases z) id, ?_⟩
  have := spl_len hp
  rw [len_mk]
  simp only [List.length_nil, Nat.zero_add] at this
  omega
theorem join_mem {S : List Nat} : ∀ {ps : List (List Nat)} {c : Nat}, c ∈ TL.joinL S ps → c ∈ S ∨ ∃ p ∈ ps, c ∈ p
  | [], c, h => by cases h
  | [p], c, h => .inr ⟨p, by simp, h⟩
  | p :: q :: r, c, h => by
    have h : c ∈ p ++ (S ++ TL.joinL S (q :: r)) := h
    rcases List.mem_append.mp h with h | h
    · exact .inr ⟨p, by simp, h⟩
    · rcases List.mem_append.mp h with h | h
      · exact .inl h
      · rcases join_mem h with h | ⟨z, hz, hc⟩
        · exact .inl h
        · exact .inr ⟨z, List.mem_cons_of_mem _ hz, hc⟩
theorem join_asc {a : Str} {ys : List Str} (ha : asc a = true) (hy : ∀ x ∈ ys, asc x = true) : asc (joinS a ys) = true := asc_iff.mpr fun c hc => by
  rcases join_mem hc with h | ⟨p, hp, h⟩
  · exact asc_iff.mp ha c h
  · obtain ⟨x, hx, rfl⟩ := List.mem_map.mp hp
    exact asc_iff.mp (hy x hx) c h

inductive MI where
  | split | partition | join | startswith | endswith
  deriving DecidableEq
def MI.nm : MI → String
  | .split => "split" | .partition => "partition" | .join => "join" | .startswith => "startswith" | .endswith => "endswith"
def MI.id : MI → String
  | .split => "str.split" | .partition => "str.partition" | .join => "str.join" | .startswith => "str.startswith" | .endswith => "str.endswith"
def miD : MI → D → List D → Rs D
  | .split, .str a, [.str b] => if (b.length == 0) = false ∧ a.length + 1 ≤ LIM then .ok (.list ((splitS a b).map .str)) else .bad
  | .partition, .str a, [.str b] => if (b.length == 0) = false then .ok (.tuple [.str (partS a b).1, .str (partS a b).2.1, .str (partS a b).2.2]) else .bad
  | .join, .str a, [.list xs] => (opt (strsOf xs) id).bind fun ys => if (joinS a ys).length ≤ LIM ∧ (ys.map (·.length)).sum + ys.length * a.length ≤ 16777216 then .ok (.str (joinS a ys)) else .bad
  | .join, .str a, [.tuple xs] => (opt (strsOf xs) id).bind fun ys => if (joinS a ys).length ≤ LIM ∧ (ys.map (·.length)).sum + ys.length * a.length ≤ 16777216 then .ok (.str (joinS a ys)) else .bad
  | .startswith, .str a, [.str b] => .ok (.bool (Txt.startswith a b))
  | .endswith, .str a, [.str b] => .ok (.bool (Txt.endswith a b))
  | _, _, _ => .bad
def rMI (K : PySem.W.Frag) : MI → V → List V → Hp → VK → Prop
  | .split => fun x xs H Q => ∃ a b, x = .str a ∧ xs = [.str b] ∧ (b.length == 0) = false ∧ a.length + 2 ≤ sizeLine ∧ rNewStrs (Txt.split a b) H Q
  | .partition => fun x xs H Q => ∃ a b, x = .str a ∧ xs = [.str b] ∧ (b.length == 0) = false ∧ a.length ≤ sizeLine ∧ ∀ p, H p = none → Q (.ref p) (upd H p (.tup [.str (Txt.partition a b).1, .str (Txt.partition a b).2.1, .str (Txt.partition a b).2.2]))
  | .join => fun x xs H Q => ∃ a p, ∃ ys : List Str, x = .str a ∧ xs = [.ref p] ∧ (SqL K H p (ys.map V.str) ∨ SqT K H p (ys.map V.str)) ∧ (ys.map (·.length)).sum + ys.length * a.length ≤ 16777216 ∧ Q (.str (Txt.join a ys)) H
  | .startswith => fun x xs H Q => ∃ a b, x = .str a ∧ xs = [.str b] ∧ Q (.bl (Txt.startswith a b)) H
  | .endswith => fun x xs H Q => ∃ a b, x = .str a ∧ xs = [.str b] ∧ Q (.bl (Txt.endswith a b)) H
section
variable {X : Cx}
theorem mi_op : ∀ m : MI, MtR X m.id (rMI X.K m)
  | .split => mt_split
  | .partition => mt_partition
  | .join => mt_join
  | .startswith => mt_startswith
  | .endswith => mt_endswith
theorem mi_slot : ∀ m : MI, Slot "str" m.nm m.id
  | .split => PySem.F.slot_str_split
  | .partition => PySem.F.slot_str_partition
  | .join => PySem.F.slot_str_join
  | .startswith => PySem.F.slot_str_startswith
  | .endswith => PySem.F.slot_str_endswith
theorem mi_ty : ∀ m : MI, typeOf (.builtin m.id) = pure (.type "method_descriptor")
  | .split => PySem.F.type_str_split
  | .partition => PySem.F.type_str_partition
  | .join => PySem.F.type_str_join
  | .startswith => PySem.F.type_str_startswith
  | .endswith => PySem.F.type_str_endswith
end
section
variable {K : PySem.W.Frag}
theorem mi_im (m : MI) (H : Hp) (O : List Addr) (x : V) (dx : D) (xs : List V) (ds : List D) (Q : VK) (t : Thr H O) (hx : Dn K (msk H O) x dx) (ha : DnAll K (msk H O) xs ds)
    (h : Okk (miD m dx ds) fun d => ∀ v H', Same H H' → Dn K (msk H' O) v d → Q v H') : (∃ z, x = .str z) ∧ rMI K m x xs H Q := by
  cases m
  case split =>
    match dx, ds, hx, ha, h with
    | .str a, [.str b], .str h1 h2, .cons (.str h3 h4) .nil, h =>
      obtain ⟨⟨c1, c2⟩, h⟩ := okk_ite h
      refine ⟨⟨_, rfl⟩, a, b, rfl, rfl, c1, Nat.le_trans (Nat.succ_le_succ c2) (by decide), fun p hp => ?_⟩
      rw [split_is c1 h3]
      refine h _ _ (same_new hp) (dn_newL t hp ?_ (dpAll_strs _ (split_ok h1 h2)))
      rw [List.length_map]
      unfold splitS
      rw [List.length_map]
      have := spl_count (S := cl b) (k := 0) (acc := []) (l := cl a)
      rw [len_cl] at c2
      omega
  case partition =>
    match dx, ds, hx, ha, h with
    | .str a, [.str b], .str h1 h2, .cons (.str h3 h4) .nil, h =>
      obtain ⟨c1, h⟩ := okk_ite h
      refine ⟨⟨_, rfl⟩, a, b, rfl, rfl, c1, Nat.le_trans h2 lim_line, fun p hp => ?_⟩
      rw [part_is c1]
      obtain ⟨g1, g2, g3⟩ := part_ok h1 h2 h3 h4
      exact h _ _ (same_new hp) (dn_newT t hp (by show 3 ≤ LIM; decide) (.cons (.str g1.1 g1.2) (.cons (.str g2.1 g2.2) (.cons (.str g3.1 g3.2) .nil))))
  case join =>
    match dx, ds, hx, ha, h with
    | .str a, [.list xs], .str h1 h2, .cons (.lst h3 h4 h5) .nil, h =>
      have h : Okk ((opt (strsOf xs) id).bind fun ys => if (joinS a ys).length ≤ LIM ∧ (ys.map (·.length)).sum + ys.length * a.length ≤ 16777216 then .ok (.str (joinS a ys)) else .bad) _ := h
      cases e : strsOf xs with
      | none => rw [e] at h; exact h.elim
      | some ys =>
        rw [e] at h
        obtain ⟨⟨c1, c2⟩, h⟩ := okk_ite h
        obtain ⟨g1, g2⟩ := strs_of h5 e
        subst g1
        refine ⟨⟨_, rfl⟩, a, _, ys, rfl, rfl, .inl (rd_sub h3).sq, c2, ?_⟩
        rw [join_is]
        exact h _ _ (Same.refl _) (.str (join_asc h1 fun x hx => (g2 x hx).1) c1)
    | .str a, [.tuple xs], .str h1 h2, .cons (.tup h3 h4 h5) .nil, h =>
      have h : Okk ((opt (strsOf xs) id).bind fun ys => if (joinS a ys).length ≤ LIM ∧ (ys.map (·.length)).sum + ys.length * a.length ≤ 16777216 then .ok (.str (joinS a ys)) else .bad) _ := h
      cases e : strsOf xs with
      | none => rw [e] at h; exact h.elim
      | some ys =>
        rw [e] at h
        obtain ⟨⟨c1, c2⟩, h⟩ := okk_ite h
        obtain ⟨g1, g2⟩ := strs_of h5 e
        subst g1
        refine ⟨⟨_, rfl⟩, a, _, ys, rfl, rfl, .inr (sqT_sub h3), c2, ?_⟩
        rw [join_is]
        exact h _ _ (Same.refl _) (.str (join_asc h1 fun x hx => (g2 x hx).1) c1)
  case startswith =>
    match dx, ds, hx, ha, h with
    | .str a, [.str b], .str h1 h2, .cons (.str h3 h4) .nil, h => exact ⟨⟨_, rfl⟩, a, b, rfl, rfl, h _ _ (Same.refl _) (.bl _)⟩
  case endswith =>
    match dx, ds, hx, ha, h with
    | .str a, [.str b], .str h1 h2, .cons (.str h3 h4) .nil, h => exact ⟨⟨_, rfl⟩, a, b, rfl, rfl, h _ _ (Same.refl _) (.bl _)⟩
end
/-- o is no call of super -/
def noSup : Expr → Bool
  | .Call (.Name id _) [] [] _ => !(id == ("super" : Str))
  | _ => true
theorem base_of {o : Expr} {name : Str} {env : Env} {w : Sem Value} (h : noSup o = true) : attributeBase o name env w = w := by
  unfold attributeBase
  split
  · rename_i id p1 p2
    have : (id == ("super" : Str)) = false := by simpa [noSup] using h
    have e : (id != ("super" : Str)) = true := by rw [bne, this]; rfl
    simp [e]
  · rfl
section
variable {X : Cx} {xp : XP} {W : WX} {e o : Expr} {es : List Expr} {fs : Sto → Rs (List D)} {fo : Sto → Rs D} {apos cpos : Pos}
def strR : D → Rs Str
  | .str z => .ok z
  | _ => .bad
def mtF (m : MI) (fo : Sto → Rs D) (fs : Sto → Rs (List D)) : Sto → Rs D := fun ρ => (fo ρ).bind fun x => (strR x).bind fun z => (fs ρ).bind fun ds => pur (miD m (.str z) ds)
theorem ce_mt (m : MI) (ho : CE X xp W o fo) (ha : CA X xp W (e :: es) fs) (hb : noSup o = true)
    (hfew : ((backTo cpos (starEach (e :: es) X.env)).all (fun x => !x.1) && (backToKw cpos (keywordEach [] X.env)).all (fun x => x.1.isSome) && decide ((e :: es).length + ([] : List Keyword).length + (if ([] : List Keyword).isEmpty then 0 else 1) < 30)) = true)
    (hl : (apos.endLine == cpos.line) = true) (he : starEach (e :: es) X.env = (false, eval e X.env) :: starEach es X.env) (hpl : (backTo cpos (starEach es X.env)).any (·.1) = false) :
    CE X xp W (.Call (.Attribute o m.nm apos) (e :: es) [] cpos) (mtF m fo fs) :=
  pe_imp (pe_bm PySem.F.plainAttrs_str (mi_slot m) (mi_ty m) (mi_op m) ho ha (base_of hb) hfew hl he hpl) fun σ H Q ⟨ρ, O, R, q⟩ => ⟨ρ, O, R, (End.bind q).imp fun dx H1 _ s1 q1 vx hx => by
    cases dx with
    | str z =>
      refine ⟨by cases hx; rfl, ρ, O, R.mono s1, (End.bind (show End _ _ _ _ _ _ _ ((fs ρ).bind fun ds => pur (miD m (.str z) ds)) from q1)).imp fun ds H2 _ s2 q2 vs hv => ?_⟩
      exact (mi_im m H2 O vx _ vs ds Q ((R.mono s1).mono s2).thr (dp_mono (msk_same s2) hx) hv ((end_pur q2).imp fun d k v H' s h => k H' s v h)).2
    | _ => exact q1.elim⟩
end
end Pf

set_option Elab.async false
set_option linter.all false
set_option maxRecDepth 100000
/-! What is walked; targets; comprehensions. -/
namespace Pf
open PySem PySem.Spec L2

/-! ### targets -/
inductive Tg where
  | nm (i : Nat)
  | tp (is : List Nat)
def Tg.slots : Tg → List Nat
  | .nm i => [i]
  | .tp is => is
def setAll : List Nat → List D → Sto → Sto
  | i :: is, d :: ds, ρ => setAll is ds (ρ.set i (some (.pd d)))
  | _, _, ρ => ρ
def seqOf : D → Rs (List D)
  | .tuple ds => .ok ds
  | .list ds => .ok ds
  | _ => .bad
def asgT : Tg → D → Sto → Rs Sto
  | .nm i, d, ρ => .ok (ρ.set i (some (.pd d)))
  | .tp is, d, ρ => (seqOf d).bind fun ds => if ds.length = is.length then .ok (setAll is ds ρ) else .bad
def setAllV : List Nat → List V → L2.St → L2.St
  | i :: is, d :: ds, σ => setAllV is ds (σ.set i (some d))
  | _, _, σ => σ
theorem rel_setAll {K : PySem.W.Frag} {xp : XP} {H : Hp} {O : List Addr} : ∀ {is : List Nat} {vs : List V} {ds : List D} {σ : L2.St} {ρ : Sto}, Rel K xp σ H ρ O → DnAll K (msk H O) vs ds → Rel K xp (setAllV is vs σ) H (setAll is ds ρ) O
  | [], _, _, _, _, r, _ => r
  | _ :: _, _, _, _, _, r, .nil => r
  | i :: is, _, _, _, _, r, .cons h t => rel_setAll (is := is) (r.set h) t
theorem wipe_set_in : ∀ {vs : List Nat} {σ : L2.St} {i : Nat} {x : Option V}, i ∈ vs → wipe (σ.set i x) vs = wipe σ vs
  | [], _, _, _, h => by cases h
  | v :: vs, σ, i, x, h => by
    show (wipe (σ.set i x) vs).set v none = (wipe σ vs).set v none
    by_cases hi : i ∈ vs
    · rw [wipe_set_in hi]
    · rcases List.mem_cons.mp h with rfl | h
      · have : ∀ (ws : List Nat) (τ : L2.St), (wipe (τ.set i x) ws).set i none = (wipe τ ws).set i none := by
          intro ws
          induction ws with
          | nil => intro τ; show (τ.set i x).set i none = τ.set i none; rw [List.set_set]
          | cons w ws ih =>
            intro τ
            show ((wipe (τ.set i x) ws).set w none).set i none = ((wipe τ ws).set w none).set i none
            by_cases hw : w = i
            · subst hw; rw [List.set_set, List.set_set]; exact ih τ
            · rw [List.set_comm _ _ hw, List.set_comm _ _ hw, ih τ]
        exact this vs σ
      · exact absurd h hi
theorem wipe_setAllV {vs : List Nat} : ∀ {is : List Nat} {xs : List V} {σ : L2.St}, (∀ i ∈ is, i ∈ vs) → wipe (setAllV is xs σ) vs = wipe σ vs
  | [], _, _, _ => rfl
  | _ :: _, [], _, _ => rfl
  | i :: is, x :: xs, σ, h => by
    show wipe (setAllV is xs (σ.set i (some x))) vs = wipe σ vs
    rw [wipe_setAllV fun j hj => h j (List.mem_cons_of_mem _ hj), wipe_set_in (h i (by simp))]
/-- the reading of a target: what comes is d; the slots of t take it -/
def rdG (K : PySem.W.Frag) (xp : XP) (t : Tg) : TG := fun v σ H Q => ∃ ρ O d ρ', Rel K xp σ H ρ O ∧ Dn K (msk H O) v d ∧ asgT t d ρ = .ok ρ' ∧
  ∀ σ', Rel K xp σ' H ρ' O → (∀ vs : List Nat, (∀ i ∈ t.slots, i ∈ vs) → wipe σ' vs = wipe σ vs) → Q σ' H
abbrev CG (X : Cx) (xp : XP) (tg : Expr) (t : Tg) : Prop := PG X tg (rdG X.K xp t)
theorem pg_imp {X : Cx} {tg : Expr} {g g' : TG} (h : PG X tg g) (k : ∀ v σ H Q, g' v σ H Q → g v σ H Q) : PG X tg g' := ⟨fun pins s σ H v u Q I r q => h.run pins s σ H v u Q I r (k v σ H Q q)⟩
theorem pg_or {X : Cx} {tg : Expr} {g g' : TG} (h : PG X tg g) (h' : PG X tg g') : PG X tg (fun v σ H Q => g v σ H Q ∨ g' v σ H Q) :=
  ⟨fun pins s σ H v u Q I r q => q.elim (h.run pins s σ H v u Q I r) (h'.run pins s σ H v u Q I r)⟩
section
variable {X : Cx} {xp : XP}
theorem cg_nm {i : Nat} {x : Str} {pos : Pos} (hN : X.N.Nodup) (hi : X.N[i]? = some x) (hx : Loc X.env.scope x) (hf : X.fn x = true ∨ X.env.scope.names.lookup x = some .local) : CG X xp (.Name x pos) (.nm i) :=
  pg_imp (pg_name hN hi hx hf) fun v σ H Q ⟨ρ, O, d, ρ', R, hd, e, k⟩ => by
    cases e
    exact k _ (R.set hd) fun vs h => wipe_set_in (h i (by simp [Tg.slots]))
/-- several names, one after another -/
def gNames : List Nat → TGs
  | [] => gNil
  | i :: is => gCons (gName i) (gNames is)
theorem gNames_ok : ∀ {is : List Nat} {vs : List V} {σ : L2.St} {H : Hp} {Q : L2.St → Hp → Prop}, vs.length = is.length → Q (setAllV is vs σ) H → gNames is vs σ H Q
  | [], [], _, _, _, _, h => ⟨rfl, h⟩
  | i :: is, v :: vs, σ, H, Q, hl, h => ⟨v, vs, rfl, gNames_ok (by simpa using hl) h⟩
abbrev CGs (X : Cx) (es : List Expr) (is : List Nat) : Prop := PGs X es (gNames is)
theorem cg_tp {es : List Expr} {is : List Nat} {k : Nat} {pos : Pos} (hc : X.calm = true) (h : CGs X es is) (hn : (assignEach es X.env).length = is.length) (hst : (assignEach es X.env).findIdx? (·.1) = none) : CG X xp (.Tuple es k pos) (.tp is) :=
  pg_imp (pg_or (pg_tup hc h hn hst) (pg_lst hc h hn hst)) fun v σ H Q ⟨ρ, O, d, ρ', R, hd, e, q⟩ => by
    match d, hd, e with
    | .list ds, .lst (a := a) (xs := vs) h1 h2 h3, e =>
      have e : (if ds.length = is.length then Rs.ok (setAll is ds ρ) else .bad) = .ok ρ' := e
      by_cases hl : ds.length = is.length
      · rw [if_pos hl] at e
        cases e
        have hl' : vs.length = is.length := (dpAll_len h3).trans hl
        exact .inr ⟨a, vs, rfl, (rd_sub h1).sq, hl', gNames_ok hl' (q _ (rel_setAll R h3) fun ws hw => wipe_setAllV hw)⟩
      · rw [if_neg hl] at e; cases e
    | .tuple ds, .tup (a := a) (xs := vs) h1 h2 h3, e =>
      have e : (if ds.length = is.length then Rs.ok (setAll is ds ρ) else .bad) = .ok ρ' := e
      by_cases hl : ds.length = is.length
      · rw [if_pos hl] at e
        cases e
        have hl' : vs.length = is.length := (dpAll_len h3).trans hl
        exact .inl ⟨a, vs, rfl, sqT_sub h1, hl', gNames_ok hl' (q _ (rel_setAll R h3) fun ws hw => wipe_setAllV hw)⟩
      · rw [if_neg hl] at e; cases e
end

/-! ### what is walked -/
structure WalkD (K : PySem.W.Frag) (J : It) (ds : List D) (G : Hp → Prop) : Prop where
  mono : ∀ F F', G F → Same F F' → G F'
  goes : ∀ i H O, i < ds.length → G (msk H O) → J.go i H
  stops : ∀ H O, G (msk H O) → J.stop ds.length H
  yields : ∀ i H O x H', i < ds.length → G (msk H O) → Thr H O → J.yld i H x H' → Same H H' ∧ ∃ d, ds[i]? = some d ∧ Dn K (msk H' O) x d
def rdI (K : PySem.W.Frag) (mg : Str → Option Value) (xp : XP) (W : WX) (f : Sto → Rs (List D)) : TI := fun σ H R => ∃ ρ O, Rel K xp σ H ρ O ∧
  End K mg W O σ H (fun ds H' => ∀ J G, G (msk H' O) → WalkD K J ds G → R J H') (f ρ)
abbrev CI (X : Cx) (xp : XP) (W : WX) (tg iter : Expr) (f : Sto → Rs (List D)) : Prop := PI X tg iter (rdI X.K X.mg xp W f)
theorem pi_imp {X : Cx} {tg e : Expr} {t t' : TI} (h : PI X tg e t) (k : ∀ σ H Q, t' σ H Q → t σ H Q) : PI X tg e t' := ⟨fun pins s σ H R I q => h.run pins s σ H R I (k σ H R q)⟩
theorem pi_or {X : Cx} {tg e : Expr} {t t' : TI} (h : PI X tg e t) (h' : PI X tg e t') : PI X tg e (fun σ H R => t σ H R ∨ t' σ H R) :=
  ⟨fun pins s σ H R I q => q.elim (h.run pins s σ H R I) (h'.run pins s σ H R I)⟩
/-- the items of a datum -/
def itemsD : D → Rs (List D)
  | .list xs => .ok xs
  | .tuple xs => .ok xs
  | .str z => .ok ((cl z).map fun c => .str (mk [c]))
  | _ => .bad
section
variable {K : PySem.W.Frag}
theorem walkD_list {a : Addr} {vs : List V} {ds : List D} : WalkD K (Itl K a) ds (fun F => RL K F a vs ∧ DnAll K F vs ds) where
  mono := fun F F' h s => ⟨Same.rl s h.1, dpAll_mono s h.2⟩
  goes := fun i H O hi h => by
    have hi' : i < vs.length := by rw [dpAll_len h.2]; exact hi
    exact ⟨vs, vs[i], (rd_sub h.1).sq, by simp [hi']⟩
  stops := fun H O h => ⟨vs, (rd_sub h.1).sq, by rw [dpAll_len h.2]; exact Nat.le_refl _⟩
  yields := fun i H O x H' hi h t y => by
    obtain ⟨rfl, y⟩ := y
    obtain ⟨d, h1, h2⟩ := dpAll_get' h.2 (y vs (rd_sub h.1).sq)
    exact ⟨Same.refl _, d, h1, h2⟩
theorem walkD_tup {a : Addr} {vs : List V} {ds : List D} : WalkD K (Itt K a) ds (fun F => SqT K F a vs ∧ DnAll K F vs ds) where
  mono := fun F F' h s => ⟨Same.seqT s h.1, dpAll_mono s h.2⟩
  goes := fun i H O hi h => by
    have hi' : i < vs.length := by rw [dpAll_len h.2]; exact hi
    exact ⟨vs, vs[i], sqT_sub h.1, by simp [hi']⟩
  stops := fun H O h => ⟨vs, sqT_sub h.1, by rw [dpAll_len h.2]; exact Nat.le_refl _⟩
  yields := fun i H O x H' hi h t y => by
    obtain ⟨rfl, y⟩ := y
    obtain ⟨d, h1, h2⟩ := dpAll_get' h.2 (y vs (sqT_sub h.1))
    exact ⟨Same.refl _, d, h1, h2⟩
theorem walkD_str {z : Str} (ha : asc z = true) : WalkD K (Its z) ((cl z).map fun c => .str (mk [c])) (fun _ => True) where
  mono := fun _ _ _ _ => trivial
  goes := fun i H O hi _ => by
    rw [List.length_map, Array.length_toList] at hi
    exact hi
  stops := fun H O _ => by
    show z.cps.size ≤ _
    rw [List.length_map, Array.length_toList]
    exact Nat.le_refl _
  yields := fun i H O x H' hi _ t y => by
    obtain ⟨rfl, c, h1, rfl⟩ := y
    have h2 : (cl z)[i]? = some c := by rw [Array.getElem?_toList]; exact h1
    exact ⟨Same.refl _, _, by rw [List.getElem?_map, h2]; rfl, .str (asc_one ha (List.mem_of_getElem? h2)) (len_one c)⟩
theorem walkD_rng {lo : Int} {n : Nat} : WalkD K (Itr lo n) ((List.range n).map fun (i : Nat) => .int (lo + i)) (fun _ => True) where
  mono := fun _ _ _ _ => trivial
  goes := fun i H O hi _ => by
    show i < n
    simpa using hi
  stops := fun H O _ => by
    show n ≤ _
    simp
  yields := fun i H O x H' hi _ t y => by
    obtain ⟨rfl, rfl⟩ := y
    have hi : i < n := by simpa using hi
    exact ⟨Same.refl _, _, by rw [List.getElem?_map, List.getElem?_range hi]; rfl, .int _⟩
def enumD (k : Nat) : List D → List D
  | [] => []
  | d :: ds => .tuple [.int k, d] :: enumD (k + 1) ds
theorem enumD_len : ∀ (k : Nat) (ds : List D), (enumD k ds).length = ds.length
  | _, [] => rfl
  | k, _ :: ds => congrArg Nat.succ (enumD_len (k + 1) ds)
theorem enumD_get : ∀ {k : Nat} {ds : List D} {i : Nat} {d : D}, ds[i]? = some d → (enumD k ds)[i]? = some (.tuple [.int (k + i : Nat), d])
  | _, [], _, _, h => by simp at h
  | k, _ :: _, 0, _, h => by simp at h; subst h; rfl
  | k, _ :: ds, i + 1, d, h => by
    have := enumD_get (k := k + 1) (i := i) (d := d) (by simpa using h)
    rw [show k + 1 + i = k + (i + 1) by omega] at this
    simpa [enumD] using this
theorem walkD_enum {a : Addr} {vs : List V} {ds : List D} : WalkD K (Ite K a) (enumD 0 ds) (fun F => RL K F a vs ∧ DnAll K F vs ds) where
  mono := fun F F' h s => ⟨Same.rl s h.1, dpAll_mono s h.2⟩
  goes := fun i H O hi h => by
    rw [enumD_len, ← dpAll_len h.2] at hi
    exact ⟨vs, vs[i], (rd_sub h.1).sq, by simp [hi]⟩
  stops := fun H O h => ⟨vs, (rd_sub h.1).sq, by rw [enumD_len, dpAll_len h.2]; exact Nat.le_refl _⟩
  yields := fun i H O x H' hi h t y => by
    obtain ⟨T, x', rfl, h2, rfl, h4⟩ := y
    obtain ⟨d, g1, g2⟩ := dpAll_get' h.2 (h4 vs (rd_sub h.1).sq)
    refine ⟨same_new h2, _, enumD_get g1, ?_⟩
    rw [Nat.zero_add]
    exact dn_newT t h2 (by show 2 ≤ LIM; decide) (.cons (.int _) (.cons g2 .nil))
end
section
variable {X : Cx} {xp : XP} {W : WX} {tg e a b : Expr} {f fa fb : Sto → Rs D} {es : List Expr} {p pos : Pos}
theorem ci_val (h : CE X xp W e f) : CI X xp W tg e (fun ρ => (f ρ).bind itemsD) :=
  pi_imp (pi_or (pi_list h) (pi_or (pi_tup h) (pi_str h))) fun σ H R ⟨ρ, O, rl, q⟩ => by
    have q : End X.K X.mg W O σ H (fun ds H' => ∀ J G, G (msk H' O) → WalkD X.K J ds G → R J H') ((f ρ).bind itemsD) := q
    cases e1 : f ρ with
    | ok d =>
      have g : ∀ {P : D → Hp → Prop}, (∀ H', Same H H' → P d H') → End X.K X.mg W O σ H P (f ρ) := fun k => by rw [e1]; exact k
      rw [e1] at q
      cases d with
      | list ds => exact .inl ⟨ρ, O, rl, g fun H' s v hv => by
          cases hv with
          | lst h1 h2 h3 => exact ⟨_, rfl, ⟨_, (rd_sub h1).sq⟩, q H' s _ _ ⟨h1, h3⟩ walkD_list⟩⟩
      | tuple ds => exact .inr (.inl ⟨ρ, O, rl, g fun H' s v hv => by
          cases hv with
          | tup h1 h2 h3 => exact ⟨_, rfl, ⟨_, sqT_sub h1⟩, q H' s _ _ ⟨h1, h3⟩ walkD_tup⟩⟩)
      | str z => exact .inr (.inr ⟨ρ, O, rl, g fun H' s v hv => by
          cases hv with
          | str h1 h2 => exact ⟨_, rfl, q H' s _ (fun _ => True) trivial (walkD_str h1)⟩⟩)
      | none => exact q.elim
      | bool b => exact q.elim
      | int b => exact q.elim
      | dict b => exact q.elim
    | ex x =>
      rw [e1] at q
      exact .inl ⟨ρ, O, rl, by rw [e1]; exact q⟩
    | bad => rw [e1] at q; exact q.elim
def rngOk (n : Int) : Bool := decide (-1000000 ≤ n) && decide (n ≤ 1000000)
theorem rngOk_iff {n : Int} : rngOk n = true ↔ -1000000 ≤ n ∧ n ≤ 1000000 := by simp [rngOk]
def rng (lo : Int) (n : Nat) : List D := (List.range n).map fun (i : Nat) => .int (lo + i)
def rng1 : D → Rs (List D)
  | .int n => if rngOk n = true then .ok (rng 0 n.toNat) else .bad
  | _ => .bad
def rng2 : D → D → Rs (List D)
  | .int m, .int n => if rngOk m = true ∧ rngOk n = true then .ok (rng m (n - m).toNat) else .bad
  | _, _ => .bad
theorem end_ite {K : PySem.W.Frag} {mg : Str → Option Value} {O : List Addr} {σ : L2.St} {H : Hp} {α : Type} {P : α → Hp → Prop} {c : Prop} [Decidable c] {r : Rs α} (h : End K mg W O σ H P (if c then r else .bad)) : c ∧ End K mg W O σ H P r := by
  by_cases e : c
  · rw [if_pos e] at h; exact ⟨e, h⟩
  · rw [if_neg e] at h; exact h.elim
theorem ci_range1 (hg : Gl X "range") (hm : X.mg "range" = none) (ha : CE X xp W a fa) (hs : starEach [a] X.env = (false, eval a X.env) :: starEach [] X.env) : CI X xp W tg (.Call (.Name "range" p) [a] [] pos) (fun ρ => (fa ρ).bind rng1) :=
  pi_imp (pi_range1 hg hm (pa_cons ha pa_nil hs) hs) fun σ H R ⟨ρ, O, rl, q⟩ => ⟨ρ, O, rl, (End.bind q).imp fun d H' _ s k v hv => by
    match d, hv, k with
    | .int n, .int _, k =>
      obtain ⟨hl, k⟩ := end_ite k
      have hl := rngOk_iff.mp hl
      exact ⟨n, rfl, by omega, by omega, k H' (Same.refl _) _ (fun _ => True) trivial walkD_rng⟩⟩
theorem ci_range2 (hg : Gl X "range") (hm : X.mg "range" = none) (ha : CE X xp W a fa) (hb : CE X xp W b fb) (hs1 : starEach [b] X.env = (false, eval b X.env) :: starEach [] X.env) (hs : starEach [a, b] X.env = (false, eval a X.env) :: starEach [b] X.env) :
    CI X xp W tg (.Call (.Name "range" p) [a, b] [] pos) (fun ρ => (fa ρ).bind fun x => (fb ρ).bind fun y => rng2 x y) :=
  pi_imp (pi_range2 hg hm (pa_cons ha (pa_cons hb pa_nil hs1) hs) (by rw [hs, hs1]; rfl) hs1) fun σ H R ⟨ρ, O, rl, q⟩ => ⟨ρ, O, rl, (End.bind q).imp fun d H1 _ s k v hv => ⟨ρ, O, rl.mono s, (End.bind k).imp fun d2 H2 _ s2 k2 v2 hv2 => by
    match d, hv, d2, hv2, k2 with
    | .int m, .int _, .int n, .int _, k2 =>
      obtain ⟨⟨hl1, hl2⟩, k2⟩ := end_ite k2
      have hl1 := rngOk_iff.mp hl1
      have hl2 := rngOk_iff.mp hl2
      exact ⟨m, n, rfl, ⟨by omega, by omega, by omega, by omega⟩, k2 H2 (Same.refl _) _ (fun _ => True) trivial walkD_rng⟩⟩⟩
def enumL : D → Rs (List D)
  | .list xs => .ok (enumD 0 xs)
  | _ => .bad
theorem ci_enum {elts : List Expr} {kk : Nat} {tpos : Pos} (hg : Gl X "enumerate") (hm : X.mg "enumerate" = none) (ha : CE X xp W a fa) (hs : starEach [a] X.env = [(false, eval a X.env)]) :
    CI X xp W (.Tuple elts kk tpos) (.Call (.Name "enumerate" p) [a] [] pos) (fun ρ => (fa ρ).bind enumL) :=
  pi_imp (pi_enum hg hm (pa_cons ha pa_nil hs) hs) fun σ H R ⟨ρ, O, rl, q⟩ => ⟨ρ, O, rl, (End.bind q).imp fun d H' _ s k v hv => by
    match d, hv, k with
    | .list xs, .lst h1 h2 h3, k => exact ⟨_, _, rfl, (rd_sub h1).sq, k H' (Same.refl _) _ _ ⟨h1, h3⟩ walkD_enum⟩⟩
end
end Pf

set_option Elab.async false
set_option linter.all false
set_option maxRecDepth 100000
/-! Comprehensions over one source. -/
namespace Pf
open PySem PySem.Spec L2

def wipeR (ρ : Sto) : List Nat → Sto
  | [] => ρ
  | v :: vs => (wipeR ρ vs).set v none
/-- an exception has no place here -/
def noEx {α : Type} : Rs α → Rs α
  | .ok a => .ok a
  | _ => .bad
def compL (t : Tg) (cond : Sto → Rs Bool) (elt : Sto → Rs D) (ρ0 : Sto) : List D → Rs (List D)
  | [] => .ok []
  | d :: ds => (asgT t d ρ0).bind fun ρ1 => (noEx (cond ρ1)).bind fun b =>
    if b = true then (noEx (elt ρ1)).bind fun y => (compL t cond elt ρ0 ds).bind fun ys => .ok (y :: ys) else compL t cond elt ρ0 ds
def lcF (t : Tg) (vs : List Nat) (items : Sto → Rs (List D)) (cond : Sto → Rs Bool) (elt : Sto → Rs D) : Sto → Rs (List D) := fun ρ => (items ρ).bind fun ds => if ds.length ≤ LIM then noEx (compL t cond elt (wipeR ρ vs) ds) else .bad
abbrev W0 : WX := fun _ _ _ _ => False
section
variable {K : PySem.W.Frag} {xp : XP}
theorem rel_wipe {σ : L2.St} {H : Hp} {ρ : Sto} {O : List Addr} (r : Rel K xp σ H ρ O) : ∀ vs : List Nat, Rel K xp (wipe σ vs) H (wipeR ρ vs) O
  | [] => r
  | v :: vs => (rel_wipe r vs).unset v none
/-- a new list of ours besides -/
theorem Rel.grow {σ : L2.St} {H H' : Hp} {ρ : Sto} {O : List Addr} {p : Addr} (r : Rel K xp σ H ρ O) (hp : H p = none) (s : Same H H') (hp' : H' p ≠ none) : Rel K xp σ H' ρ (p :: O) := by
  have sm : Same (msk H O) (msk H' (p :: O)) := msk_cons_new hp s
  refine ⟨r.len, fun i sv h => ?_, r.inj, fun a ha => ?_⟩
  · obtain ⟨v, h1, h2⟩ := r.at_ i sv h
    refine ⟨v, h1, ?_⟩
    cases sv with
    | pd d => exact dp_mono sm h2
    | own xs =>
      obtain ⟨a, vs, h3, h4, h5, h6⟩ := h2
      exact ⟨a, vs, h3, List.mem_cons_of_mem _ h4, s _ _ h5, dpAll_mono sm h6⟩
    | exc e =>
      obtain ⟨a, dd, w, h3, h4, h5, h6⟩ := h2
      exact ⟨a, dd, w, h3, h4, sm _ _ h5, dp_mono sm h6⟩
  · rcases List.mem_cons.mp ha with rfl | ha
    · exact hp'
    · exact r.thr.same s a ha
theorem wipe_idem {us : List Nat} : ∀ {vs : List Nat} {σ : L2.St}, (∀ i ∈ vs, i ∈ us) → wipe (wipe σ vs) us = wipe σ us
  | [], _, _ => rfl
  | v :: vs, σ, h => by
    show wipe ((wipe σ vs).set v none) us = _
    rw [wipe_set_in (h v (by simp)), wipe_idem fun i hi => h i (List.mem_cons_of_mem _ hi)]
theorem compL_len {t : Tg} {cond : Sto → Rs Bool} {elt : Sto → Rs D} {ρ0 : Sto} : ∀ {ds ys : List D}, compL t cond elt ρ0 ds = .ok ys → ys.length ≤ ds.length
  | [], ys, h => by cases h; exact Nat.le_refl _
  | d :: ds, ys, h => by
    unfold compL at h
    obtain ⟨ρ1, _, h⟩ := bind_ok h
    obtain ⟨b, _, h⟩ := bind_ok h
    cases b with
    | true =>
      rw [if_pos rfl] at h
      obtain ⟨y, _, h⟩ := bind_ok h
      obtain ⟨zs, h1, h⟩ := bind_ok h
      cases h
      exact Nat.succ_le_succ (compL_len h1)
    | false =>
      rw [if_neg Bool.false_ne_true] at h
      exact Nat.le_succ_of_le (compL_len h)
theorem noEx_ok {α : Type} {r : Rs α} {a : α} (h : noEx r = .ok a) : r = .ok a := by
  cases r <;> first | exact h | cases h
end
section
variable {X : Cx} {xp : XP} {W : WX}
abbrev CTs (X : Cx) (xp : XP) (W : WX) (ifs : List Expr) (f : Sto → Rs Bool) : Prop := PTs X ifs (rdT X.K X.mg xp W f)
theorem cts_nil : CTs X xp W [] (fun _ => .ok true) := ⟨fun pins s σ H Q I ⟨ρ, O, R, q⟩ => pts_nil.run pins s σ H Q I q.ok⟩
theorem cts_one {c : Expr} {f : Sto → Rs Bool} (h : CT X xp W c f) : CTs X xp W [c] f := pts_one h
/-- the turns of a comprehension -/
theorem rd_lc {K : PySem.W.Frag} {mg : Str → Option Value} {t : Tg} {vs : List Nat} {items : Sto → Rs (List D)} {cond : Sto → Rs Bool} {elt : Sto → Rs D} (ht : ∀ i ∈ t.slots, i ∈ vs) {σ : L2.St} {H : Hp} {Q : VK}
    (h : rdF K mg xp W (lcF t vs items cond elt) σ H Q) : tLc (rdI K mg xp W items) (rdG K xp t) (rdT K mg xp W0 cond) (rdE K mg xp W0 elt) vs σ H Q := by
  obtain ⟨ρ, O, R, q⟩ := h
  refine ⟨ρ, O, R, (End.bind q).imp fun ds H1 _ s1 q1 J G hG wk D hD => ?_⟩
  obtain ⟨lim, q1⟩ := end_ite q1
  cases ec : compL t cond elt (wipeR ρ vs) ds with
  | ex x => rw [ec] at q1; exact q1.elim
  | bad => rw [ec] at q1; exact q1.elim
  | ok ys =>
    rw [ec] at q1
    have R1 := R.mono s1
    have fin := fun (H' : Hp) (s : Same H1 H') => q1 H' s
    -- what holds ahead of turn i
    let Pv : Nat → Hp → Prop := fun i H' => Same H1 H' ∧ G (msk H' (D :: O)) ∧ ∃ acc va rest, H' D = some (.lst va) ∧ DnAll K (msk H' (D :: O)) va acc ∧ acc.length ≤ i ∧ compL t cond elt (wipeR ρ vs) (ds.drop i) = .ok rest ∧ acc ++ rest = ys
    have sD : ∀ {H' : Hp} {o : HO}, Same H1 H' → Same H1 (upd H' D o) := fun s b u e => by
      rw [upd_ne (ne_of_none e hD)]; exact s b u e
    have mD : ∀ {H' : Hp} {o : HO}, msk (upd H' D o) (D :: O) = msk H' (D :: O) := fun {H' o} => by
      funext b
      by_cases hb : b ∈ D :: O
      · rw [msk_in hb, msk_in hb]
      · rw [msk_out hb, msk_out hb, upd_ne fun e => hb (by rw [e]; simp)]
    refine ⟨fun i m H' => m = ds.length - i ∧ i ≤ ds.length ∧ Pv i H', ⟨ds.length, by simp, Nat.zero_le _, sD (Same.refl _), ?_, [], [], ys, upd_same, .nil, Nat.le_refl _, ec, rfl⟩, ?_⟩
    · rw [mD]
      exact wk.mono _ _ hG (msk_cons_new hD (Same.refl _))
    · rintro i m H' ⟨rfl, hi, s', g', acc, va, rest, hl, hda, hla, hc, hy⟩
      by_cases hlt : i < ds.length
      · refine .inr ⟨wk.goes i H' _ hlt g', Pv (i + 1), fun H2 p2 => ⟨ds.length - (i + 1), by omega, rfl, hlt, p2⟩, fun x H2 y => ?_⟩
        have hD' : H' D ≠ none := by rw [hl]; exact Option.some_ne_none _
        have R' : Rel K xp (wipe σ vs) H' (wipeR ρ vs) (D :: O) := (rel_wipe R1 vs).grow hD s' hD'
        obtain ⟨s2, d, e1, hd⟩ := wk.yields i H' _ x H2 hlt g' R'.thr y
        rw [List.drop_eq_getElem_cons hlt] at hc
        have e2 : ds[i] = d := by
          rw [List.getElem?_eq_getElem hlt] at e1
          exact Option.some.inj e1
        rw [e2] at hc
        unfold compL at hc
        obtain ⟨ρ1, a1, hc⟩ := bind_ok hc
        obtain ⟨b, a2, hc⟩ := bind_ok hc
        have a2 := noEx_ok a2
        have hl2 : H2 D = some (.lst va) := s2 _ _ hl
        refine ⟨wipeR ρ vs, D :: O, d, ρ1, R'.mono s2, hd, a1, fun σ2 R2 wp => ⟨(wp vs ht).trans (wipe_idem fun _ h => h), ρ1, D :: O, R2, ?_⟩⟩
        rw [a2]
        intro H3 s3
        have hl3 : H3 D = some (.lst va) := s3 _ _ hl2
        have g3 : G (msk H3 (D :: O)) := wk.mono _ _ g' (msk_same (s2.trans s3))
        have s13 : Same H1 H3 := s'.trans (s2.trans s3)
        have hda3 := dpAll_mono (msk_same (O := D :: O) (s2.trans s3)) hda
        cases b with
        | true =>
          rw [if_pos rfl] at hc
          refine iteT ?_
          obtain ⟨yy, a3, hc⟩ := bind_ok hc
          obtain ⟨zs, a4, hc⟩ := bind_ok hc
          cases hc
          have a3 := noEx_ok a3
          refine ⟨ρ1, D :: O, R2.mono s3, ?_⟩
          rw [a3]
          intro H4 s4 v hv
          have hl4 : H4 D = some (.lst va) := s4 _ _ hl3
          have lenv : va.length ≤ ds.length := by rw [dpAll_len hda]; omega
          refine ⟨va, hl4, Nat.lt_of_le_of_lt (Nat.le_trans lenv lim) (by decide), sD (s13.trans s4), ?_, acc ++ [yy], va ++ [v], zs, upd_same, ?_, by rw [List.length_append]; simp; omega, a4, by rw [List.append_assoc]; exact hy⟩
          · rw [mD]
            exact wk.mono _ _ g3 (msk_same s4)
          · rw [mD]
            exact dpAll_app (dpAll_mono (msk_same s4) hda3) (.cons hv .nil)
        | false =>
          rw [if_neg Bool.false_ne_true] at hc
          refine iteF ?_
          exact ⟨s13, g3, acc, va, rest, hl3, hda3, by omega, hc, hy⟩
      · have e : i = ds.length := by omega
        subst e
        refine .inl ⟨wk.stops H' _ g', ?_⟩
        rw [List.drop_length] at hc
        cases hc
        rw [List.append_nil] at hy
        subst hy
        exact fin H' s' D va (s1.free hD) hl (by rw [dpAll_len hda]; exact Nat.le_trans hla lim) hda
end
section
variable {X : Cx} {xp : XP} {W : WX} {elt tg iter : Expr} {ifs : List Expr} {scope : Scope} {own : List (Str × Nat)} {pos : Pos} {t : Tg} {items : Sto → Rs (List D)} {cond : Sto → Rs Bool} {fe : Sto → Rs D}
theorem cf_lc (hc : X.calm = true) (hN : X.N.Nodup) (hi : CI X xp W tg iter items) (ok : BlkOk X.N X.env.scope scope own)
    (hg : ∀ (s : Shared) (H : Hp) (C : Addr) (cl : List (Str × Addr)) (fp : List Addr), CG (X.blk s H scope (compEnvC scope cl C X.env) fp) xp tg t)
    (ht : ∀ (s : Shared) (H : Hp) (C : Addr) (cl : List (Str × Addr)) (fp : List Addr), CTs (X.blk s H scope (compEnvC scope cl C X.env) fp) xp W0 ifs cond)
    (he : ∀ (s : Shared) (H : Hp) (C : Addr) (cl : List (Str × Addr)) (fp : List Addr), CE (X.blk s H scope (compEnvC scope cl C X.env) fp) xp W0 elt fe)
    (hs : ∀ x, foldedSetIterable iter X.env x = pure x) (hts : ∀ i ∈ t.slots, i ∈ own.map (·.2)) : CF X xp W (.ListComp elt [⟨tg, iter, ifs, 0⟩] scope pos) (lcF t (own.map (·.2)) items cond fe) :=
  pe_imp (pe_lc hc hN hi ok hg ht he hs) fun _ _ _ h => rd_lc hts h
end
end Pf

set_option Elab.async false
set_option linter.all false
set_option maxRecDepth 100000
/-! Set comprehensions whose members are ints and texts. -/
namespace Pf
open PySem PySem.Spec PyProof.Rows L2

section
variable {X : Cx}
/-- a set being filled: D its place -/
def tKs (P : Program) (w : World) (wi : TI) (g : TG) (tt : TT) (te : TE) (vs : List Nat) : TE := fun σ H Q => wi σ H fun J H1 => ∀ D, H1 D = none →
  ∃ W : Nat → Nat → Hp → Prop, (∃ m, W 0 m (upd H1 D (SetK P w D (fun _ => false) 0))) ∧
    ∀ i m H, W i m H → (J.stop i H ∧ Q (.ref D) H) ∨
      (J.go i H ∧ ∃ Nx : Hp → Prop, (∀ H', Nx H' → ∃ m', m' < m ∧ W (i + 1) m' H') ∧
        ∀ x H', J.yld i H x H' → g x (wipe σ vs) H' fun σ2 H2 => wipe σ2 vs = wipe σ vs ∧
          tt σ2 H2 fun b H3 => if b = true then te σ2 H3 fun y H4 => rSAddK P w (.ref D) [y] H4 fun _ H5 => Nx H5 else Nx H3)
theorem ks_fresh {P : Program} {w : World} {h : Heap} : (h.push { cls := .type "set", dict := none, data := .set #[] 0 (.fresh 0 0 (!w.params.followText "set-order")) }).SetOf (mixKind P w) h.objs.size (fun _ => false) 0 :=
  ⟨_, #[], 0, _, Heap.get?_push_size _ rfl, ⟨rfl, rfl, rfl⟩, rfl,
    (fun e he => by simp at he), (fun k => by simp), (by decide), (by rfl), rfl⟩
theorem pe_ks {elt tg iter : Expr} {ifs : List Expr} {scope : Scope} {own : List (PySem.Str × Nat)} {pos : Pos} {wi : TI} {g : TG} {tt : TT} {te : TE}
    (calm : X.calm = true) (nodup : X.N.Nodup) (src : PI X tg iter wi) (blk : BlkOk X.N X.env.scope scope own)
    (tgt : ∀ (s : Shared) (H : Hp) (C : Addr) (cl : List (PySem.Str × Addr)) (fp : List Addr), PG (X.blk s H scope (compEnvC scope cl C X.env) fp) tg g)
    (tst : ∀ (s : Shared) (H : Hp) (C : Addr) (cl : List (PySem.Str × Addr)) (fp : List Addr), PTs (X.blk s H scope (compEnvC scope cl C X.env) fp) ifs tt)
    (mem : ∀ (s : Shared) (H : Hp) (C : Addr) (cl : List (PySem.Str × Addr)) (fp : List Addr), PE (X.blk s H scope (compEnvC scope cl C X.env) fp) elt te)
    (plain : ∀ x, foldedSetIterable iter X.env x = pure x) :
    PE X (.SetComp elt [⟨tg, iter, ifs, 0⟩] scope pos) (tKs X.prog X.w wi g tt te (own.map (·.2))) := by
  constructor
  intro pins s σ H Q inv wish
  rw [PpSet.eval_SetComp]
  have closes : ∀ y ∈ scope.names, y.2 = .free → ∃ c, X.env.cells.lookup y.1 = some c := by
    intro y hy e
    exact (blk.free y hy e).elim (fun k => inv.ok.has _ (.inl k)) fun k => inv.ok.has _ (.inr k)
  refine wpAny_comprehension_free (use := none) rfl plain (closure_ok closes) blk.kind (fun y hy e => by rw [blk.uniq y hy, e]) (thn (src.run pins s σ H _ inv wish) ?_)
  intro xv s1 hx
  refine thn hx ?_
  rintro itv s2 ⟨it, fp, tn, J, H2, rfl, inv2, Wk, at2, fr2, q⟩
  refine PpSet.newSet_ok (newEnv_comp ?_)
  generalize hD : s2.heap.objs.size = D
  obtain ⟨W, ⟨m0, w0⟩, turn⟩ := q D (inv2.hok.fresh (Nat.le_of_eq hD))
  generalize hs3 : ({ s2 with heap := s2.heap.push { cls := .type "set", dict := none, data := .set #[] 0 (.fresh 0 0 (!X.w.params.followText "set-order")) } } : Shared) = s3
  have h3 : s3.heap = s2.heap.push { cls := .type "set", dict := none, data := .set #[] 0 (.fresh 0 0 (!X.w.params.followText "set-order")) } := by
    rw [← hs3]
  have inv3 : Inv X pins σ (upd H2 D (SetK X.prog X.w D (fun _ => false) 0)) s3 := by
    subst hs3
    refine inv2.laid (t' := s2.toks) (fun b o e => Heap.get?_push_of_some _ e) (Nat.le_of_eq hD) ?_
    subst hD
    exact setK_new ks_fresh
  have below : ∀ b ∈ fp, b < s2.heap.objs.size := fun b hb =>
    let ⟨_, e, _⟩ := Wk.obj _ _ at2 b hb
    Heap.lt_size e
  have fr3 : ∀ b ∈ fp, FpOk X pins (upd H2 D (SetK X.prog X.w D (fun _ => false) 0)) b ∧ b < s3.heap.objs.size := by
    intro b hb
    have lt := below b hb
    have ne : b ≠ D := by rw [← hD]; exact Nat.ne_of_lt lt
    have old := fr2 b hb
    refine ⟨⟨by rw [upd_ne ne]; exact old.1, old.2⟩, ?_⟩
    rw [h3, Heap.size_push]
    exact Nat.lt_succ_of_lt lt
  have at3 : tn 0 s3.heap := Wk.keep _ _ _ at2 fun b _ o e => by
    rw [h3]
    exact Heap.get?_push_of_some _ e
  have inv4 := block_start inv3 blk nodup fr3
  generalize hcells : cellsFrom (s3.heap.objs.size + 1) scope.names (cloFrom X.env.cells scope.names []) = cells at inv4 ⊢
  have pg := tgt s3 (upd H2 D (SetK X.prog X.w D (fun _ => false) 0)) s3.heap.objs.size cells fp
  have pt := tst s3 (upd H2 D (SetK X.prog X.w D (fun _ => false) 0)) s3.heap.objs.size cells fp
  have pm := mem s3 (upd H2 D (SetK X.prog X.w D (fun _ => false) 0)) s3.heap.objs.size cells fp
  have gone : ∀ b ∈ fp, (upd H2 D (SetK X.prog X.w D (fun _ => false) 0)) b = none := fun b hb => (fr3 b hb).1.1
  generalize hce : compEnvC scope cells s3.heap.objs.size X.env = ce at inv4 pg pt pm
  have loc : ce.locals = s3.heap.objs.size := by rw [← hce]; rfl
  let post := compPost (model X.prog X.w) X.A X.xe none (EP X pins σ Q) (.ref D) s3.heap.objs.size
  show codeAny _ _ (.compStart (.SetComp elt [⟨tg, iter, ifs, 0⟩] scope pos) 0 (.ref it) (.ref D) (compEnvC scope cells s3.heap.objs.size X.env)) post { s3 with heap := pushCells (s3.heap.push { cls := .type "dict", data := .dict #[] }) scope.names }
  rw [hce]
  generalize hH3 : upd H2 D (SetK X.prog X.w D (fun _ => false) 0) = H3 at inv3 inv4 pg pt pm w0 gone fr3
  generalize hs4 : ({ s3 with heap := pushCells (s3.heap.push { cls := .type "dict", data := .dict #[] }) scope.names } : Shared) = s4 at inv4 ⊢
  have at4 : tn 0 s4.heap := Wk.keep _ _ _ at3 fun b _ o e => by
    rw [← hs4]
    exact pushCells_keeps _ _ _ _ (Heap.get?_push_of_some _ e)
  let Y : Cx := X.blk s3 H3 scope ce fp
  have still : ∀ {σ' : L2.St} {H' : Hp} {s' : Shared}, Inv Y [] σ' H' s' → (∀ b ∈ fp, H' b = none) → ∀ b ∈ fp, FpOk Y [] H' b := by
    intro σ' H' s' iv nn b hb
    exact ⟨nn b hb, (iv.ok.exf b hb).1, iv.ok.exfs b hb, Or.inl hb, fun x c e => (iv.ok.exf b hb).2 x c e, fun p hp => (List.not_mem_nil (show p ∈ [] from hp)).elim⟩
  have loop : codeAny (model X.prog X.w) X.A (.compLoop (.SetComp elt [⟨tg, iter, ifs, 0⟩] scope pos) 0 (.ref it) (.ref D) ce) post s4 := by
    let Iv : Nat → Shared → Prop := fun n s' => ∃ i H', Inv Y [] (wipe σ (own.map (·.2))) H' s' ∧ tn i s'.heap ∧ (∀ b ∈ fp, H' b = none) ∧ W i n H'
    refine PpSet.compLoopS_any Iv ?_ m0 ⟨0, H3, inv4, at4, gone, w0⟩
    rintro n s5 ⟨i, H5, inv5, at5, gone5, w5⟩
    rcases turn i n H5 w5 with ⟨stop, final⟩ | ⟨go, Nx, less, step⟩
    · refine thnF (Wk.done Y rfl rfl rfl calm i [] s5 _ H5 (fun _ _ => False) inv5 (still inv5 gone5) at5 stop) fun r s6 ⟨hr, inv6⟩ => ?_
      subst hr
      have inv7 : Inv X pins σ H5 s6 := inv3.call' (ch := fp) inv6.os inv6.base inv6.hok inv6.bare fun b hb =>
        let f := (fr3 b hb).1.2
        ⟨f.2.2.1, f.1, f.2.2.2.1, f.2.2.2.2⟩
      have noC : H5 s3.heap.objs.size = none := by
        rw [← loc]
        exact inv6.free
      obtain ⟨m, ns, _⟩ := inv6.loc
      have ns : s6.heap.Ns s3.heap.objs.size m := by
        rw [← loc]
        exact ns
      obtain ⟨f0, f1, f2, f3, f4, f5⟩ := inv3.fpOk (Nat.le_refl _) noC
      exact ⟨m, ns, fun h'' sb => ⟨.ref D, H5, inv7.turned (t' := s6.toks) (fun b o hb e => (sb.2 b hb).trans e) f0 f1 f3 f4 f5, rfl, final⟩⟩
    · refine thnF (Wk.item Y rfl rfl rfl calm i [] s5 _ H5 (fun _ _ => False) inv5 (still inv5 gone5) at5 go) fun r s6 ⟨u, hr, h6⟩ => ?_
      subst hr
      refine thnF h6 fun _ s7 ⟨x, H7, inv7, r7, y7, at7, gone7⟩ => ?_
      refine thnF (pg.run _ s7 _ H7 x u _ (inv7.pinned (still inv7 gone7) (Wk.obj _ _ at7)) r7 (step x H7 y7)) fun _ s8 ⟨σ8, H8, inv8, same8, q8⟩ => ?_
      refine thnF (pt.run _ s8 σ8 H8 _ inv8 q8) fun b s9 ⟨H9, inv9, q9⟩ => ?_
      have back : ∀ {s' : Shared} {H' : Hp}, Inv Y ([] ++ pinsAt fp s7.heap) σ8 H' s' → Nx H' → ∃ m, m < n ∧ Iv m s' := by
        intro s' H' iv nx
        obtain ⟨m', lt, w'⟩ := less H' nx
        have kept : ∀ b ∈ fp, ∀ o, s7.heap.get? b = some o → s'.heap.get? b = some o ∧ H' b = none := by
          intro b hb o e
          have z := iv.pin (b, o) (List.mem_append_right _ (List.mem_append_right _ (mem_pinsAt hb e)))
          exact ⟨z.1, z.2.1⟩
        have len : (wipe σ (own.map (·.2))).length = σ8.length := by
          rw [← same8, wipe_length]
        refine ⟨m', lt, i + 1, H', (iv.unpinned (pins := [])).weak len ?_, Wk.keep _ _ _ at7 fun b hb o e => (kept b hb o e).1, ?_, w'⟩
        · intro j v e
          rw [← same8] at e
          exact (wipe_some e).1
        · intro b hb
          obtain ⟨o, e, _⟩ := Wk.obj _ _ at7 b hb
          exact (kept b hb o e).2
      cases b with
      | false =>
        rw [if_neg Bool.false_ne_true] at q9
        rw [if_neg Bool.false_ne_true]
        exact back inv9 q9
      | true =>
        rw [if_pos rfl] at q9
        rw [if_pos rfl]
        refine thnF (pm.run _ s9 σ8 H9 _ inv9 q9) fun z s10 ⟨yv, H10, inv10, r10, q10⟩ => ?_
        have add := mt_saddK (X := Y) _ s10 σ8 H10 (.ref D) [yv] (.ref D) [z] _ inv10 rfl (.cons r10 .nil) q10
        exact thnF add fun _ s11 ⟨_, H11, inv11, _, nx⟩ => back inv11 nx
  exact PpSet.codeAny_compStart_set loop (Wk.self X.A 0 _ _ _ at4 loop)
end
end Pf

set_option Elab.async false
set_option linter.all false
set_option maxRecDepth 100000
/-! Sets of ints and texts, by content. -/
namespace Pf
open PySem PySem.Spec PyProof.Rows L2

instance keyLaw : LawfulBEq Key where
  eq_of_beq := fun {a b} h => by
    cases a with
    | inl i => cases b with
      | inl j => exact congrArg Sum.inl (eq_of_beq (show (i == j) = true from h))
      | inr y => cases (show false = true from h)
    | inr x => cases b with
      | inl j => cases (show false = true from h)
      | inr y => exact congrArg Sum.inr (eq_of_beq (show (x == y) = true from h))
  rfl := fun {a} => by
    cases a with
    | inl i => exact beq_self_eq_true i
    | inr x => exact beq_self_eq_true x
def keyOf : D → Rs Key
  | .int i => .ok (.inl i)
  | .str x => .ok (.inr x)
  | _ => .bad
def addK (acc : List Key) (k : Key) : List Key := if k ∈ acc then acc else acc ++ [k]
def ksL (t : Tg) (cond : Sto → Rs Bool) (elt : Sto → Rs D) (ρ0 : Sto) : List D → List Key → Rs (List Key)
  | [], acc => .ok acc
  | d :: ds, acc => (asgT t d ρ0).bind fun ρ1 => (noEx (cond ρ1)).bind fun b =>
    if b = true then (noEx (elt ρ1)).bind fun y => (keyOf y).bind fun k => ksL t cond elt ρ0 ds (addK acc k) else ksL t cond elt ρ0 ds acc
def ksF (t : Tg) (vs : List Nat) (items : Sto → Rs (List D)) (cond : Sto → Rs Bool) (elt : Sto → Rs D) : Sto → Rs (List Key) := fun ρ => (items ρ).bind fun ds => if ds.length ≤ 4000 then noEx (ksL t cond elt (wipeR ρ vs) ds []) else .bad
theorem addK_len (acc : List Key) (k : Key) : (addK acc k).length = if decide (k ∈ acc) = true then acc.length else acc.length + 1 := by
  unfold addK
  by_cases h : k ∈ acc
  · rw [if_pos h, if_pos (decide_eq_true h)]
  · rw [if_neg h, if_neg (by simpa using h), List.length_append]
    rfl
theorem addK_le (acc : List Key) (k : Key) : (addK acc k).length ≤ acc.length + 1 := by
  rw [addK_len]
  split <;> omega
theorem addK_mem (acc : List Key) (k : Key) : (fun j => decide (j ∈ acc) || decide (j = k)) = fun j => decide (j ∈ addK acc k) := by
  funext j
  unfold addK
  by_cases h : k ∈ acc
  · rw [if_pos h]
    by_cases e : j = k
    · subst e; simp [h]
    · simp [e]
  · rw [if_neg h]
    simp [List.mem_append]
theorem kV_of {K : PySem.W.Frag} {F : Hp} {v : V} {d : D} {k : Key} (h : Dn K F v d) (e : keyOf d = .ok k) : v = kV k := by
  cases h <;> cases e <;> rfl
/-- a set that was made for this -/
def rdS (P : Program) (w : World) (K : PySem.W.Frag) (mg : Str → Option Value) (xp : XP) (W : WX) (f : Sto → Rs (List Key)) : TE := fun σ H Q => ∃ ρ O, Rel K xp σ H ρ O ∧
  End K mg W O σ H (fun ks H' => ∀ p, H p = none → H' p = some (SetK P w p (fun j => decide (j ∈ ks)) ks.length) → ks.length < 4096 → Q (.ref p) H') (f ρ)
abbrev CS (X : Cx) (xp : XP) (W : WX) (e : Expr) (f : Sto → Rs (List Key)) : Prop := PE X e (rdS X.prog X.w X.K X.mg xp W f)
section
variable {xp : XP} {W : WX}
theorem rd_ks {P : Program} {w : World} {K : PySem.W.Frag} {mg : Str → Option Value} {t : Tg} {vs : List Nat} {items : Sto → Rs (List D)} {cond : Sto → Rs Bool} {elt : Sto → Rs D} (ht : ∀ i ∈ t.slots, i ∈ vs) {σ : L2.St} {H : Hp} {Q : VK}
    (h : rdS P w K mg xp W (ksF t vs items cond elt) σ H Q) : tKs P w (rdI K mg xp W items) (rdG K xp t) (rdT K mg xp W0 cond) (rdE K mg xp W0 elt) vs σ H Q := by
  obtain ⟨ρ, O, R, q⟩ := h
  refine ⟨ρ, O, R, (End.bind q).imp fun ds H1 _ s1 q1 J G hG wk D hD => ?_⟩
  obtain ⟨lim, q1⟩ := end_ite q1
  cases ec : ksL t cond elt (wipeR ρ vs) ds [] with
  | ex x => rw [ec] at q1; exact q1.elim
  | bad => rw [ec] at q1; exact q1.elim
  | ok ys =>
    rw [ec] at q1
    have R1 := R.mono s1
    let Pv : Nat → Hp → Prop := fun i H' => Same H1 H' ∧ G (msk H' (D :: O)) ∧ ∃ acc, H' D = some (SetK P w D (fun j => decide (j ∈ acc)) acc.length) ∧ acc.length ≤ i ∧ ksL t cond elt (wipeR ρ vs) (ds.drop i) acc = .ok ys
    have sD : ∀ {H' : Hp} {o : HO}, Same H1 H' → Same H1 (upd H' D o) := fun s b u e => by
      rw [upd_ne (ne_of_none e hD)]; exact s b u e
    have mD : ∀ {H' : Hp} {o : HO}, msk (upd H' D o) (D :: O) = msk H' (D :: O) := fun {H' o} => by
      funext b
      by_cases hb : b ∈ D :: O
      · rw [msk_in hb, msk_in hb]
      · rw [msk_out hb, msk_out hb, upd_ne fun e => hb (by rw [e]; simp)]
    refine ⟨fun i m H' => m = ds.length - i ∧ i ≤ ds.length ∧ Pv i H', ⟨ds.length, by simp, Nat.zero_le _, sD (Same.refl _), ?_, [], ?_, Nat.le_refl _, ec⟩, ?_⟩
    · rw [mD]
      exact wk.mono _ _ hG (msk_cons_new hD (Same.refl _))
    · have e : (fun j => decide (j ∈ ([] : List Key))) = fun _ => false := by funext j; simp
      rw [e, upd_same]
      rfl
    · rintro i m H' ⟨rfl, hi, s', g', acc, hl, hla, hc⟩
      by_cases hlt : i < ds.length
      · refine .inr ⟨wk.goes i H' _ hlt g', Pv (i + 1), fun H2 p2 => ⟨ds.length - (i + 1), by omega, rfl, hlt, p2⟩, fun x H2 y => ?_⟩
        have hD' : H' D ≠ none := by rw [hl]; exact Option.some_ne_none _
        have R' : Rel K xp (wipe σ vs) H' (wipeR ρ vs) (D :: O) := (rel_wipe R1 vs).grow hD s' hD'
        obtain ⟨s2, d, e1, hd⟩ := wk.yields i H' _ x H2 hlt g' R'.thr y
        rw [List.drop_eq_getElem_cons hlt] at hc
        have e2 : ds[i] = d := by
          rw [List.getElem?_eq_getElem hlt] at e1
          exact Option.some.inj e1
        rw [e2] at hc
        unfold ksL at hc
        obtain ⟨ρ1, a1, hc⟩ := bind_ok hc
        obtain ⟨b, a2, hc⟩ := bind_ok hc
        have a2 := noEx_ok a2
        have hl2 := s2 _ _ hl
        refine ⟨wipeR ρ vs, D :: O, d, ρ1, R'.mono s2, hd, a1, fun σ2 R2 wp => ⟨(wp vs ht).trans (wipe_idem fun _ h => h), ρ1, D :: O, R2, ?_⟩⟩
        rw [a2]
        intro H3 s3
        have hl3 := s3 _ _ hl2
        have g3 : G (msk H3 (D :: O)) := wk.mono _ _ g' (msk_same (s2.trans s3))
        have s13 : Same H1 H3 := s'.trans (s2.trans s3)
        cases b with
        | true =>
          rw [if_pos rfl] at hc
          refine iteT ?_
          obtain ⟨yy, a3, hc⟩ := bind_ok hc
          obtain ⟨k, a4, hc⟩ := bind_ok hc
          have a3 := noEx_ok a3
          refine ⟨ρ1, D :: O, R2.mono s3, ?_⟩
          rw [a3]
          intro H4 s4 v hv
          have hl4 := s4 _ _ hl3
          refine ⟨D, k, _, _, rfl, by rw [kV_of hv a4], hl4, by have : scanBound = 4096 := rfl; omega, sD (s13.trans s4), ?_, addK acc k, ?_, Nat.le_trans (addK_le _ _) (by omega), hc⟩
          · rw [mD]
            exact wk.mono _ _ g3 (msk_same s4)
          · rw [addK_mem, upd_same, addK_len]
        | false =>
          rw [if_neg Bool.false_ne_true] at hc
          refine iteF ?_
          exact ⟨s13, g3, acc, hl3, by omega, hc⟩
      · have e : i = ds.length := by omega
        subst e
        refine .inl ⟨wk.stops H' _ g', ?_⟩
        rw [List.drop_length] at hc
        cases hc
        exact q1 H' s' D (s1.free hD) hl (by omega)
end
section
variable {X : Cx} {xp : XP} {W : WX} {elt tg iter : Expr} {ifs : List Expr} {scope : Scope} {own : List (Str × Nat)} {pos : Pos} {t : Tg} {items : Sto → Rs (List D)} {cond : Sto → Rs Bool} {fe : Sto → Rs D}
theorem cs_ks (hc : X.calm = true) (hN : X.N.Nodup) (hi : CI X xp W tg iter items) (ok : BlkOk X.N X.env.scope scope own)
    (hg : ∀ (s : Shared) (H : Hp) (C : Addr) (cl : List (Str × Addr)) (fp : List Addr), CG (X.blk s H scope (compEnvC scope cl C X.env) fp) xp tg t)
    (ht : ∀ (s : Shared) (H : Hp) (C : Addr) (cl : List (Str × Addr)) (fp : List Addr), CTs (X.blk s H scope (compEnvC scope cl C X.env) fp) xp W0 ifs cond)
    (he : ∀ (s : Shared) (H : Hp) (C : Addr) (cl : List (Str × Addr)) (fp : List Addr), CE (X.blk s H scope (compEnvC scope cl C X.env) fp) xp W0 elt fe)
    (hs : ∀ x, foldedSetIterable iter X.env x = pure x) (hts : ∀ i ∈ t.slots, i ∈ own.map (·.2)) : CS X xp W (.SetComp elt [⟨tg, iter, ifs, 0⟩] scope pos) (ksF t (own.map (·.2)) items cond fe) :=
  pe_imp (pe_ks hc hN hi ok hg ht he hs) fun _ _ _ h => rd_ks hts h
/-- len of a set -/
def rLenK (P : Program) (w : World) : List V → Hp → VK → Prop := fun xs H Q => ∃ a S n, xs = [V.ref a] ∧ H a = some (SetK P w a S n) ∧ n < 4096 ∧ Q (.int n) H
theorem call_lenK : CallR X (.builtin "len") (rLenK X.prog X.w) := by
  intro pins s σ H xs us Q I r h
  obtain ⟨a, S, n, rfl, e, hn, q⟩ := h
  obtain ⟨u, rfl, rx⟩ := vals1 r
  obtain rfl : u = Value.ref a := rx
  obtain ⟨o, es, ep, t, ho, hex, hd, _, _, _, hf, hz⟩ := setK_get I e
  exact call_len_set ho hex hd hf (by omega) ⟨.int n, H, I.tok _, ⟨_, by rw [hz]⟩, q⟩
variable {e : Expr} {f : Sto → Rs (List Key)} {p : Pos}
theorem ce_lenS (hg : Gl X "len") (hm : X.mg "len" = none) (ha : CS X xp W e f) (he : starEach [e] X.env = (false, eval e X.env) :: starEach [] X.env) (hpl : (backTo pos (starEach [] X.env)).any (·.1) = false) :
    CE X xp W (.Call (.Name "len" p) [e] [] pos) (fun ρ => (f ρ).bind fun ks => .ok (.int ks.length)) :=
  pe_imp (pe_callB call_lenK hg hm rfl (pa_cons ha pa_nil he) (by decide) (by decide) he hpl) fun σ H Q ⟨ρ, O, R, q⟩ =>
    ⟨ρ, O, R, (End.bind q).imp fun ks H1 _ s1 q1 p hp h1 hl => ⟨p, _, _, rfl, h1, hl, q1.ok _ (.int _)⟩⟩
end
end Pf

set_option Elab.async false
set_option linter.all false
set_option maxRecDepth 100000
/-! isinstance, by content. -/
namespace Pf
open PySem PySem.Spec PyProof.Rows L2

inductive TyN where
  | str | int | bool | list | tuple | dict
  deriving DecidableEq
def TyN.nm : TyN → String
  | .str => "str" | .int => "int" | .bool => "bool" | .list => "list" | .tuple => "tuple" | .dict => "dict"
/-- the kinds of data -/
inductive Kd where
  | non | bl | int | str | lst | tup | dct
def kd : D → Kd
  | .none => .non | .bool _ => .bl | .int _ => .int | .str _ => .str | .list _ => .lst | .tuple _ => .tup | .dict _ => .dct
def Kd.nm : Kd → String
  | .non => "NoneType" | .bl => "bool" | .int => "int" | .str => "str" | .lst => "list" | .tup => "tuple" | .dct => "dict"
def isaK : TyN → Kd → Bool
  | .str, .str => true
  | .int, .int => true
  | .int, .bl => true
  | .bool, .bl => true
  | .list, .lst => true
  | .tuple, .tup => true
  | .dict, .dct => true
  | _, _ => false
theorem isa_kit : ∀ (T : TyN) (k : Kd), kitB k.nm T.nm = some (isaK T k) := by
  intro T k
  cases k <;> cases T <;> decide +kernel
theorem dn_ty {K : PySem.W.Frag} {H : Hp} {v : V} {d : D} (h : Dn K H v d) : TyX K H v (.type (kd d).nm) := by
  cases h with
  | non => exact .base .non
  | bl b => exact .base (.bl b)
  | int i => exact .base (.int i)
  | str h1 h2 => exact .base (.str _)
  | lst h1 h2 h3 =>
    rcases h1 with (h1 | ⟨o, h1⟩) | ⟨its, n, h1, _⟩
    · exact .base (.lst h1)
    · exact .base (.frz h1)
    · exact .kList h1 rfl
  | tup h1 h2 h3 =>
    rcases h1 with (h1 | ⟨o, h1⟩) | h1
    · exact .base (.tup h1)
    · exact .fTuple h1
    · obtain ⟨o, _, _, h1, h2, _⟩ := h1
      exact .kTuple h1 h2
  | dct h1 h2 h3 => exact .base (.dK h1)
theorem boot_ty : ∀ T : TyN, bootBuiltins (T.nm : Str) = some (.type T.nm) := by
  intro T
  cases T <;> rfl
section
variable {X : Cx} {xp : XP} {W : WX} {e : Expr} {fa : Sto → Rs D} {p p1 p2 pos : Pos}
theorem pe_tyn (T : TyN) (hg : Gl X T.nm) (hm : X.mg T.nm = none) : PE X (.Name T.nm p) (tC (.ty T.nm)) :=
  pe_bltn hg hm (boot_ty T) rfl (by cases T <;> decide) (by cases T <;> decide)
theorem ce_isa (T : TyN) (hg : Gl X "isinstance") (hm : X.mg "isinstance" = none) (hg2 : Gl X T.nm) (hm2 : X.mg T.nm = none) (ha : CL X xp W e fa) (hs : starEach [e, .Name T.nm p2] X.env = (false, eval e X.env) :: starEach [.Name T.nm p2] X.env) :
    CE X xp W (.Call (.Name "isinstance" p) [e, .Name T.nm p2] [] pos) (fun ρ => (fa ρ).bind fun d => .ok (.bool (isaK T (kd d)))) :=
  pe_imp (pe_callB call_isi hg hm rfl (pa_cons ha (pa_cons (pe_tyn T hg2 hm2) pa_nil rfl) hs) (by decide) (by decide) hs rfl) fun σ H Q ⟨ρ, O, R, q⟩ =>
    ⟨ρ, O, R, (End.bind q).imp fun d H1 _ s1 q1 v hv => ⟨_, _, _, _, _, rfl, .ty _, dn_ty hv, kit_ty (isa_kit T (kd d)), q1.ok _ (.bl _)⟩⟩
theorem ce_isa2 (T U : TyN) {k : Nat} {p3 : Pos} (hg : Gl X "isinstance") (hm : X.mg "isinstance" = none) (hg2 : Gl X T.nm) (hm2 : X.mg T.nm = none) (hg3 : Gl X U.nm) (hm3 : X.mg U.nm = none) (ha : CL X xp W e fa)
    (hs : starEach [e, .Tuple [.Name T.nm p2, .Name U.nm p3] k p1] X.env = (false, eval e X.env) :: starEach [.Tuple [.Name T.nm p2, .Name U.nm p3] k p1] X.env) :
    CE X xp W (.Call (.Name "isinstance" p) [e, .Tuple [.Name T.nm p2, .Name U.nm p3] k p1] [] pos) (fun ρ => (fa ρ).bind fun d => .ok (.bool (isaK T (kd d) || isaK U (kd d)))) :=
  pe_imp (pe_callB call_isiT hg hm rfl (pa_cons ha (pa_cons (pe_tup (pa_cons (pe_tyn T hg2 hm2) (pa_cons (pe_tyn U hg3 hm3) pa_nil rfl) rfl)) pa_nil rfl) hs) (by decide) (by decide) hs rfl) fun σ H Q ⟨ρ, O, R, q⟩ =>
    ⟨ρ, O, R, (End.bind q).imp fun d H1 _ s1 q1 v hv => ⟨by show 2 ≤ sizeLine; decide, fun tp hp => ⟨_, tp, _, _, _, isaK T (kd d) || isaK U (kd d), rfl, upd_same, .cons (.ty _) (.cons (.ty _) .nil), dn_ty (dp_mono (same_new hp) hv), kitAny_cons (kit_ty (isa_kit T (kd d))) (fun e => kitAny_cons (kit_ty (isa_kit U (kd d))) (fun e' => by rw [e, e']; rfl) (fun e' => by rw [e, e']; rfl)) (fun e => by rw [e]; rfl), q1 _ (same_new hp) _ (.bl _)⟩⟩⟩
end

/-! ### the defs of the program, by content -/
/-- the promise of a def of n parameters that computes m -/
def spF (K : PySem.W.Frag) (mg : Str → Option Value) (n : Nat) (m : List D → Rs D) : Sp := fun vs H Q E => ∃ (O : List Addr) (ds : List D), Thr H O ∧ DnAll K (msk H O) vs ds ∧ ds.length = n ∧ match m ds with
  | .ok d => ∀ H' v, Same H H' → Dn K (msk H' O) v d → Q v H'
  | .ex e => ∀ H' cls dd, Same H H' → ExAt K mg (msk H' O) e cls dd → E cls dd H'
  | .bad => False
/-- the def named x, of n parameters, computes m -/
def Does (X : Cx) (x : Str) (n : Nat) (m : List D → Rs D) : Prop :=
  ∃ (k : Nat) (f : Addr) (fd : FuncData) (ps : List Str), FnG X.prog X.w X.K X.mg X.base k f fd ps (spF X.K X.mg n m) ∧ Room k X.A ∧ X.mg x = some (.ref f) ∧ PySem.W.keepIn X.K (.ref f) = true ∧ Binds X.K fd ps []
section
variable {X : Cx} {xp : XP} {W : WX} {x : Str} {e : Expr} {es : List Expr} {fs : Sto → Rs (List D)} {n : Nat} {m : List D → Rs D} {p pos : Pos}
theorem rd_user {K : PySem.W.Frag} {mg : Str → Option Value} {σ : L2.St} {H : Hp} {Q : VK} (h : rdE K mg xp W (fun ρ => (fs ρ).bind fun ds => if ds.length = n then m ds else .bad) σ H Q) : tCallSD (spF K mg n m) [] (fun σ cls d H' => W cls d σ H') (rdA K mg xp W fs) σ H Q := by
  obtain ⟨ρ, O, R, q⟩ := h
  refine ⟨ρ, O, R, (End.bind q).imp fun ds H1 _ s1 q1 vs hv => ?_⟩
  obtain ⟨hl, q1⟩ := end_ite q1
  refine ⟨O, ds, (R.mono s1).thr, by rw [List.append_nil]; exact hv, hl, ?_⟩
  cases e : m ds with
  | ok d => rw [e] at q1; exact fun H' v s hd => q1 H' s v hd
  | ex x => rw [e] at q1; exact fun H' cls dd s hx => q1 H' cls dd s hx
  | bad => rw [e] at q1; exact q1.elim
theorem ce_user (tk : Takes X W) (nore : NoRepr X.A) (hg : Gl X x) (hd : Does X x n m) (ha : CA X xp W (e :: es) fs) (hdb : (x == ("__debug__" : Str)) = false) (he : starEach (e :: es) X.env = (false, eval e X.env) :: starEach es X.env) (hpl : (backTo pos (starEach es X.env)).any (·.1) = false) :
    CE X xp W (.Call (.Name x p) (e :: es) [] pos) (fun ρ => (fs ρ).bind fun ds => if ds.length = n then m ds else .bad) := by
  obtain ⟨k, f, fd, ps, F, room, hm, hk, hb⟩ := hd
  exact pe_imp (pe_callG F room nore hg hm hk hb (ds := []) (dvs := []) .nil (fun σ => passAt tk σ) ha hdb he hpl) fun _ _ _ h => rd_user h
theorem ce_user0 (tk : Takes X W) (nore : NoRepr X.A) (hg : Gl X x) (hd : Does X x n m) (hdb : (x == ("__debug__" : Str)) = false) :
    CE X xp W (.Call (.Name x p) [] [] pos) (fun _ => if 0 = n then m [] else .bad) := by
  obtain ⟨k, f, fd, ps, F, room, hm, hk, hb⟩ := hd
  refine pe_imp (pe_call0G F room nore hg hm hk hb (ds := []) (dvs := []) .nil (fun σ => passAt tk σ) hdb) fun σ H Q ⟨ρ, O, R, q⟩ => ?_
  obtain ⟨hl, q⟩ := end_ite q
  refine ⟨O, [], R.thr, .nil, hl, ?_⟩
  cases e : m [] with
  | ok d => rw [e] at q; exact fun H' v s hd => q H' s v hd
  | ex x => rw [e] at q; exact fun H' cls dd s hx => q H' cls dd s hx
  | bad => rw [e] at q; exact q.elim
end
end Pf

set_option Elab.async false
set_option linter.all false
set_option maxRecDepth 100000
/-! Statements, by content. -/
namespace Pf
open PySem PySem.Spec PyProof.Rows L2

/-- how a suite ends -/
inductive Out where
  | nx (ρ : Sto)
  | rt (d : D)
  | bk (ρ : Sto)
  | ct (ρ : Sto)
  | ex (e : EX) (ρ : Sto)
  | bad
def Out.seq : Out → (Sto → Out) → Out
  | .nx ρ, k => k ρ
  | o, _ => o
def Out.ofR {α : Type} (r : Rs α) (ρ : Sto) (k : α → Out) : Out := match r with
  | .ok a => k a
  | .ex e => .ex e ρ
  | .bad => .bad
/-- the frame: the lists that are ours here (O), those of the callers (B) -/
structure Fr (K : PySem.W.Frag) (xp : XP) (B : List Addr) (σ : L2.St) (H : Hp) (ρ : Sto) (O : List Addr) : Prop where
  rel : Rel K xp σ H ρ (O ++ B)
  own : ∀ (i : Nat) (xs : List D) (a : Addr), ρ[i]? = some (some (.own xs)) → σ[i]? = some (some (.ref a)) → a ∈ O ∧ a ∉ B
/-- what stands outside of ours stands -/
def Stp (H : Hp) (O : List Addr) (H' : Hp) (O' : List Addr) : Prop := Same (msk H O) (msk H' O')
theorem Stp.refl {H : Hp} {O : List Addr} : Stp H O H O := Same.refl _
theorem Stp.trans {H H' H'' : Hp} {O O' O'' : List Addr} (s : Stp H O H' O') (t : Stp H' O' H'' O'') : Stp H O H'' O'' := fun b o e => t b o (s b o e)
theorem Stp.same {H H' : Hp} {O : List Addr} (s : Same H H') : Stp H O H' O := msk_same s
theorem Fr.mono {K : PySem.W.Frag} {xp : XP} {B O : List Addr} {σ : L2.St} {H H' : Hp} {ρ : Sto} (f : Fr K xp B σ H ρ O) (s : Same H H') : Fr K xp B σ H' ρ O := ⟨f.rel.mono s, f.own⟩
def EndS (K : PySem.W.Frag) (mg : Str → Option Value) (xp : XP) (W : WX) (B : List Addr) (T : Ends) (H : Hp) (O : List Addr) : Out → Prop
  | .nx ρ => ∀ σ' H' O', Stp H O H' O' → Fr K xp B σ' H' ρ O' → T.nx σ' H'
  | .rt d => ∀ v H' O', Stp H O H' O' → Thr H' (O' ++ B) → Dn K (msk H' (O' ++ B)) v d → T.rt v H'
  | .bk ρ => ∀ σ' H' O', Stp H O H' O' → Fr K xp B σ' H' ρ O' → T.bk σ' H'
  | .ct ρ => ∀ σ' H' O', Stp H O H' O' → Fr K xp B σ' H' ρ O' → T.ct σ' H'
  | .ex e ρ => ∀ σ' H' O' cls d, Stp H O H' O' → Fr K xp B σ' H' ρ O' → ExAt K mg (msk H' (O' ++ B)) e cls d → W cls d σ' H'
  | .bad => False
section
variable {K : PySem.W.Frag} {mg : Str → Option Value} {xp : XP} {W : WX} {B O O1 : List Addr} {T T' : Ends} {H H1 : Hp} {o : Out}
theorem EndS.grow (h : EndS K mg xp W B T H O o) (s : Stp H O H1 O1) : EndS K mg xp W B T H1 O1 o := by
  cases o with
  | nx ρ => exact fun σ' H' O' t f => h σ' H' O' (s.trans t) f
  | rt d => exact fun v H' O' t f => h v H' O' (s.trans t) f
  | bk ρ => exact fun σ' H' O' t f => h σ' H' O' (s.trans t) f
  | ct ρ => exact fun σ' H' O' t f => h σ' H' O' (s.trans t) f
  | ex e ρ => exact fun σ' H' O' cls d t f => h σ' H' O' cls d (s.trans t) f
  | bad => exact h
/-- the expression first -/
theorem EndS.ofR {α : Type} {r : Rs α} {ρ : Sto} {k : α → Out} {σ : L2.St} (h : EndS K mg xp W B T H O (.ofR r ρ k)) (f : Fr K xp B σ H ρ O) : End K mg W (O ++ B) σ H (fun a H' => EndS K mg xp W B T H' O (k a)) r := by
  cases r with
  | ok a => exact fun H' s => EndS.grow h (Stp.same s)
  | ex e => exact fun H' cls d s x => h σ H' O cls d (Stp.same s) (f.mono s) x
  | bad => exact h
theorem EndS.ofR0 {α : Type} {r : Rs α} {ρ : Sto} {k : α → Out} {σ : L2.St} (h : EndS K mg xp W B T H O (.ofR r ρ k)) (f : Fr K xp B σ H ρ O) : End K mg W (O ++ B) σ H (fun a _ => EndS K mg xp W B T H O (k a)) r := by
  cases r with
  | ok a => exact fun H' s => h
  | ex e => exact fun H' cls d s x => h σ H' O cls d (Stp.same s) (f.mono s) x
  | bad => exact h
theorem EndS.seq {k : Sto → Out} (h : EndS K mg xp W B T H O (o.seq k)) : EndS K mg xp W B { T with nx := fun σ' H' => ∃ ρ O', Fr K xp B σ' H' ρ O' ∧ EndS K mg xp W B T H' O' (k ρ) } H O o := by
  cases o with
  | nx ρ => exact fun σ' H' O' t f => ⟨ρ, O', f, EndS.grow h t⟩
  | rt d => exact h
  | bk ρ => exact h
  | ct ρ => exact h
  | ex e ρ => exact h
  | bad => exact h
end
def rdSt (K : PySem.W.Frag) (mg : Str → Option Value) (xp : XP) (W : WX) (B : List Addr) (f : Sto → Out) : TS := fun T σ H => ∃ ρ O, Fr K xp B σ H ρ O ∧ EndS K mg xp W B T H O (f ρ)
abbrev CSt (X : Cx) (xp : XP) (W : WX) (B : List Addr) (st : Stmt) (f : Sto → Out) : Prop := PS X st (rdSt X.K X.mg xp W B f)
abbrev CSs (X : Cx) (xp : XP) (W : WX) (B : List Addr) (sts : List Stmt) (f : Sto → Out) : Prop := PSs X sts (rdSt X.K X.mg xp W B f)
theorem ps_imp {X : Cx} {st : Stmt} {t t' : TS} (h : PS X st t) (k : ∀ T σ H, t' T σ H → t T σ H) : PS X st t' := ⟨fun pins s σ H T I q => h.run pins s σ H T I (k T σ H q)⟩
theorem pss_imp {X : Cx} {st : List Stmt} {t t' : TS} (h : PSs X st t) (k : ∀ T σ H, t' T σ H → t T σ H) : PSs X st t' := ⟨fun pins s σ H T I q => h.run pins s σ H T I (k T σ H q)⟩
section
variable {X : Cx} {xp : XP} {W : WX} {B : List Addr} {st : Stmt} {sts : List Stmt} {f g : Sto → Out} {e : Expr} {fe : Sto → Rs D} {ft : Sto → Rs Bool} {pos : Pos}
theorem cst_nil : CSs X xp W B [] (fun ρ => .nx ρ) := pss_imp pss_nil fun T σ H ⟨ρ, O, fr, q⟩ => q σ H O .refl fr
theorem cst_cons (h : CSt X xp W B st f) (h2 : CSs X xp W B sts g) : CSs X xp W B (st :: sts) (fun ρ => (f ρ).seq g) := pss_imp (pss_cons h h2) fun T σ H ⟨ρ, O, fr, q⟩ => ⟨ρ, O, fr, q.seq⟩
theorem cst_one (h : CSt X xp W B st f) : CSs X xp W B [st] f := pss_one h
theorem cst_pass : CSt X xp W B (.Pass pos) (fun ρ => .nx ρ) := ps_imp ps_pass fun T σ H ⟨ρ, O, fr, q⟩ => q σ H O .refl fr
theorem cst_break : CSt X xp W B (.Break pos) (fun ρ => .bk ρ) := ps_imp ps_break fun T σ H ⟨ρ, O, fr, q⟩ => q σ H O .refl fr
theorem cst_cont : CSt X xp W B (.Continue pos) (fun ρ => .ct ρ) := ps_imp ps_continue fun T σ H ⟨ρ, O, fr, q⟩ => q σ H O .refl fr
theorem cst_ret (h : CE X xp W e fe) : CSt X xp W B (.Return (some e) pos) (fun ρ => .ofR (fe ρ) ρ fun d => .rt d) :=
  ps_imp (ps_ret h) fun T σ H ⟨ρ, O, fr, q⟩ => ⟨ρ, O ++ B, fr.rel, (EndS.ofR q fr).imp fun d H' _ s k v hv => k v H' O .refl (fr.rel.thr.same s) hv⟩
theorem cst_retN : CSt X xp W B (.Return none pos) (fun _ => .rt .none) := ps_imp ps_retN fun T σ H ⟨ρ, O, fr, q⟩ => q .non H O .refl fr.rel.thr .non
theorem cst_expr (h : CE X xp W e fe) (hs : swapsWith e none pos.line X.env = pure false) : CSt X xp W B (.Expr e pos) (fun ρ => .ofR (fe ρ) ρ fun _ => .nx ρ) :=
  ps_imp (ps_expr h hs) fun T σ H ⟨ρ, O, fr, q⟩ => ⟨ρ, O ++ B, fr.rel, (EndS.ofR q fr).imp fun d H' _ s k v hv => k σ H' O .refl (fr.mono s)⟩
theorem cst_if {c : Expr} {a b : List Stmt} (hc : CT X xp W c ft) (ha : CSs X xp W B a f) (hb : CSs X xp W B b g) : CSt X xp W B (.If c a b pos) (fun ρ => .ofR (ft ρ) ρ fun k => if k = true then f ρ else g ρ) :=
  ps_imp (ps_if hc ha hb) fun T σ H ⟨ρ, O, fr, q⟩ => ⟨ρ, O ++ B, fr.rel, (EndS.ofR q fr).imp fun k H' _ s z => by
    cases k with
    | true => exact ⟨ρ, O, fr.mono s, z⟩
    | false => exact ⟨ρ, O, fr.mono s, z⟩⟩
/-! ### x = .. -/
theorem setAll_own {xs : List D} : ∀ {is : List Nat} {ds : List D} {ρ : Sto} {i : Nat}, ds.length = is.length → (setAll is ds ρ)[i]? = some (some (.own xs)) → i ∉ is ∧ ρ[i]? = some (some (.own xs))
  | [], _, _, _, _, h => ⟨by simp, h⟩
  | j :: is, [], _, _, hl, _ => by cases hl
  | j :: is, d :: ds, ρ, i, hl, h => by
    obtain ⟨h1, h2⟩ := setAll_own (is := is) (ds := ds) (by simpa using hl) h
    rcases get_set h2 with ⟨_, e⟩ | ⟨ne, e⟩
    · cases e
    · exact ⟨by simp only [List.mem_cons, not_or]; exact ⟨fun z => ne z.symm, h1⟩, e⟩
theorem asgT_own {t : Tg} {d : D} {ρ ρ' : Sto} {i : Nat} {xs : List D} (e : asgT t d ρ = .ok ρ') (h : ρ'[i]? = some (some (.own xs))) : i ∉ t.slots ∧ ρ[i]? = some (some (.own xs)) := by
  cases t with
  | nm j =>
    cases e
    rcases get_set h with ⟨_, e⟩ | ⟨ne, e⟩
    · cases e
    · exact ⟨by simp only [Tg.slots, List.mem_singleton]; exact fun z => ne z.symm, e⟩
  | tp is =>
    have e : ((seqOf d).bind fun ds => if ds.length = is.length then Rs.ok (setAll is ds ρ) else .bad) = .ok ρ' := e
    obtain ⟨ds, _, e⟩ := bind_ok e
    by_cases hl : ds.length = is.length
    · rw [if_pos hl] at e
      cases e
      exact setAll_own hl h
    · rw [if_neg hl] at e; cases e
theorem wipe_get {σ : L2.St} {i : Nat} : ∀ {vs : List Nat}, i ∉ vs → (wipe σ vs)[i]? = σ[i]?
  | [], _ => rfl
  | v :: vs, h => by
    simp only [List.mem_cons, not_or] at h
    show ((wipe σ vs).set v none)[i]? = _
    rw [List.getElem?_set_ne fun z => h.1 z.symm]
    exact wipe_get h.2
theorem Fr.asg {K : PySem.W.Frag} {O : List Addr} {σ σ' : L2.St} {H : Hp} {ρ ρ' : Sto} {t : Tg} {d : D} (fr : Fr K xp B σ H ρ O) (e : asgT t d ρ = .ok ρ') (r : Rel K xp σ' H ρ' (O ++ B)) (w : wipe σ' t.slots = wipe σ t.slots) : Fr K xp B σ' H ρ' O :=
  ⟨r, fun i xs a h1 h2 => by
    obtain ⟨h3, h4⟩ := asgT_own e h1
    refine fr.own i xs a h4 ?_
    rw [← wipe_get (σ := σ) h3, ← w, wipe_get h3, h2]⟩
/-- a target takes a value -/
theorem rd_asg {K : PySem.W.Frag} {mg : Str → Option Value} {O : List Addr} {t : Tg} {T : Ends} {σ : L2.St} {H : Hp} {ρ : Sto} {d : D} {v : V} {k : Sto → Out} (fr : Fr K xp B σ H ρ O) (hv : Dn K (msk H (O ++ B)) v d) (q : EndS K mg xp W B T H O (.ofR (asgT t d ρ) ρ k))
    (nx : ∀ ρ' σ', asgT t d ρ = .ok ρ' → Fr K xp B σ' H ρ' O → EndS K mg xp W B T H O (k ρ') → T.nx σ' H) : asgT t d ρ ≠ .bad → (∀ x, asgT t d ρ ≠ .ex x) → rdG K xp t v σ H T.nx := by
  intro h1 h2
  cases e : asgT t d ρ with
  | bad => exact absurd e h1
  | ex x => exact absurd e (h2 x)
  | ok ρ' =>
    rw [e] at q
    exact ⟨ρ, O ++ B, d, ρ', fr.rel, hv, e, fun σ' r w => nx ρ' σ' e (fr.asg e r (w _ fun _ h => h)) q⟩
theorem asgT_noex {t : Tg} {d : D} {ρ : Sto} (x : EX) : asgT t d ρ ≠ .ex x := by
  cases t with
  | nm i => intro h; cases h
  | tp is =>
    intro h
    have h : ((seqOf d).bind fun ds => if ds.length = is.length then Rs.ok (setAll is ds ρ) else .bad) = .ex x := h
    cases d with
    | list ds =>
      have h : (if ds.length = is.length then Rs.ok (setAll is ds ρ) else .bad) = .ex x := h
      split at h <;> cases h
    | tuple ds =>
      have h : (if ds.length = is.length then Rs.ok (setAll is ds ρ) else .bad) = .ex x := h
      split at h <;> cases h
    | _ => cases h
def asgO (t : Tg) (d : D) (ρ : Sto) : Out := .ofR (asgT t d ρ) ρ fun ρ' => .nx ρ'
theorem rd_asgO {K : PySem.W.Frag} {mg : Str → Option Value} {O : List Addr} {t : Tg} {T : Ends} {σ : L2.St} {H : Hp} {ρ : Sto} {d : D} {v : V} (fr : Fr K xp B σ H ρ O) (hv : Dn K (msk H (O ++ B)) v d) (q : EndS K mg xp W B T H O (asgO t d ρ)) : rdG K xp t v σ H T.nx :=
  rd_asg (k := fun ρ' => .nx ρ') fr hv q (fun ρ' σ' _ f z => z σ' H O .refl f) (fun e => by
    have q : EndS K mg xp W B T H O (.ofR (asgT t d ρ) ρ fun ρ' => .nx ρ') := q
    rw [e] at q; exact q) asgT_noex
theorem cst_asg {tg : Expr} {t : Tg} (h : CE X xp W e fe) (hg : CG X xp tg t) (hs : swapsWithSole [tg] e pos.line X.env = pure false) (hw : swappedStores [tg] e X.env = pure none) (h1 : (assignEach [tg] X.env).map (·.2) = [assign tg X.env]) :
    CSt X xp W B (.Assign [tg] e pos) (fun ρ => .ofR (fe ρ) ρ fun d => asgO t d ρ) :=
  ps_imp (ps_asg h hg hs hw h1) fun T σ H ⟨ρ, O, fr, q⟩ => ⟨ρ, O ++ B, fr.rel, (EndS.ofR q fr).imp fun d H' _ s k v hv => rd_asgO (fr.mono s) hv k⟩
/-! ### lists of ours -/
/-- a new list of ours in slot i -/
theorem Fr.new {K : PySem.W.Frag} {O : List Addr} {σ : L2.St} {H H' : Hp} {ρ : Sto} {p i : Nat} {vs : List V} {ds : List D} (fr : Fr K xp B σ H ρ O) (hp : H p = none) (s : Same H H') (h : H' p = some (.lst vs)) (a : DnAll K (msk H' (p :: (O ++ B))) vs ds) :
    Fr K xp B (σ.set i (some (.ref p))) H' (ρ.set i (some (.own ds))) (p :: O) := by
  have r : Rel K xp σ H' ρ (p :: (O ++ B)) := fr.rel.grow hp s (by rw [h]; exact Option.some_ne_none _)
  have nB : p ∉ O ++ B := fr.rel.thr.out hp
  have fresh : ∀ (j : Nat) (xs : List D), ρ[j]? = some (some (.own xs)) → σ[j]? ≠ some (some (.ref p)) := fun j xs e1 e2 => by
    obtain ⟨v, h1, b, us, h2, h3, _⟩ := fr.rel.at_ j _ e1
    rw [e2] at h1
    cases h1
    cases h2
    exact nB h3
  refine ⟨⟨by simp [r.len], fun j sv q => ?_, fun j k xs ys v q1 q2 p1 p2 => ?_, r.thr⟩, fun j xs b q1 q2 => ?_⟩
  · rcases get_set q with ⟨rfl, e⟩ | ⟨ne, e⟩
    · obtain rfl := Option.some.inj e
      have hl : i < σ.length := by rw [r.len]; have := (List.getElem?_eq_some_iff.mp q).1; simpa using this
      exact ⟨_, List.getElem?_set_self hl, p, vs, rfl, by simp, h, a⟩
    · rw [List.getElem?_set_ne ne]; exact r.at_ j sv e
  · rcases get_set q1 with ⟨rfl, e⟩ | ⟨ne, e⟩ <;> rcases get_set q2 with ⟨rfl, e'⟩ | ⟨ne', e'⟩
    · rfl
    · rw [List.getElem?_set_ne ne'] at p2
      rcases get_set p1 with ⟨_, z⟩ | ⟨z, _⟩
      · have z : v = .ref p := Option.some.inj z
        rw [z] at p2
        exact absurd p2 (fresh k ys e')
      · exact absurd rfl z
    · rw [List.getElem?_set_ne ne] at p1
      rcases get_set p2 with ⟨_, z⟩ | ⟨z, _⟩
      · have z : v = .ref p := Option.some.inj z
        rw [z] at p1
        exact absurd p1 (fresh j xs e)
      · exact absurd rfl z
    · rw [List.getElem?_set_ne ne] at p1; rw [List.getElem?_set_ne ne'] at p2
      exact r.inj j k xs ys v e e' p1 p2
  · rcases get_set q1 with ⟨rfl, e⟩ | ⟨ne, e⟩
    · rcases get_set q2 with ⟨_, z⟩ | ⟨z, _⟩
      · cases z
        exact ⟨by simp, fun z => nB (List.mem_append_right _ z)⟩
      · exact absurd rfl z
    · rw [List.getElem?_set_ne ne] at q2
      have := fr.own j xs b e q2
      exact ⟨List.mem_cons_of_mem _ this.1, this.2⟩
theorem stp_new {H H' : Hp} {O : List Addr} {p : Addr} (hp : H p = none) (s : Same H H') : Stp H O H' (p :: O) := msk_cons_new hp s
theorem cst_own {ff : Sto → Rs (List D)} {i : Nat} {x : Str} {pos' : Pos} (h : CF X xp W e ff) (hN : X.N.Nodup) (hi : X.N[i]? = some x) (hx : Loc X.env.scope x) (hf : X.fn x = true ∨ X.env.scope.names.lookup x = some .local) (hs : swapsWith e (some (.Name x pos')) pos.line X.env = pure false) :
    CSt X xp W B (.Assign [.Name x pos'] e pos) (fun ρ => .ofR (ff ρ) ρ fun ds => .nx (ρ.set i (some (.own ds)))) :=
  ps_imp (ps_set hN hi hx h hs hf) fun T σ H ⟨ρ, O, fr, q⟩ => ⟨ρ, O ++ B, fr.rel, (EndS.ofR0 q fr).imp fun ds H' _ s k p vs hp h1 hl h2 => k _ H' (p :: O) (stp_new hp s) (fr.new hp s h1 h2)⟩
/-- a list of ours is written in place -/
theorem Fr.put {K : PySem.W.Frag} {O : List Addr} {σ : L2.St} {H : Hp} {ρ : Sto} {a : Addr} {i : Nat} {xs ys : List D} {vs : List V} (fr : Fr K xp B σ H ρ O) (e1 : ρ[i]? = some (some (.own xs))) (e2 : σ[i]? = some (some (.ref a))) (h : DnAll K (msk H (O ++ B)) vs ys) :
    Fr K xp B σ (upd H a (.lst vs)) (ρ.set i (some (.own ys))) O ∧ Stp H O (upd H a (.lst vs)) O := by
  obtain ⟨aO, aB⟩ := fr.own i xs a e1 e2
  have mk : msk (upd H a (.lst vs)) (O ++ B) = msk H (O ++ B) := by
    funext b
    by_cases hb : b ∈ O ++ B
    · rw [msk_in hb, msk_in hb]
    · rw [msk_out hb, msk_out hb, upd_ne fun e => hb (by rw [e]; exact List.mem_append_left _ aO)]
  have mkO : msk (upd H a (.lst vs)) O = msk H O := by
    funext b
    by_cases hb : b ∈ O
    · rw [msk_in hb, msk_in hb]
    · rw [msk_out hb, msk_out hb, upd_ne fun e => hb (by rw [e]; exact aO)]
  have r := fr.rel
  have old : ∀ {j : Nat} {zs : List D}, (ρ.set i (some (.own ys)))[j]? = some (some (.own zs)) → ∃ ws, ρ[j]? = some (some (.own ws)) := fun {j zs} q => by
    rcases get_set q with ⟨rfl, _⟩ | ⟨_, e⟩
    · exact ⟨xs, e1⟩
    · exact ⟨zs, e⟩
  refine ⟨⟨⟨by simp [r.len], fun j sv q => ?_, fun j k zs ws v q1 q2 p1 p2 => ?_, fun b hb e => ?_⟩, fun j zs b q1 q2 => ?_⟩, by show Same (msk H O) (msk (upd H a (.lst vs)) O); rw [mkO]; exact Same.refl _⟩
  · rcases get_set q with ⟨rfl, e⟩ | ⟨ne, e⟩
    · cases e
      exact ⟨_, e2, a, vs, rfl, List.mem_append_left _ aO, upd_same, by rw [mk]; exact h⟩
    · obtain ⟨v, h1, h2⟩ := r.at_ j sv e
      refine ⟨v, h1, ?_⟩
      cases sv with
      | pd d => show Dn K _ v d; rw [mk]; exact h2
      | own zs =>
        obtain ⟨b, us', h3, h4, h5, h6⟩ := h2
        refine ⟨b, us', h3, h4, ?_, by rw [mk]; exact h6⟩
        rw [upd_ne fun z => ?_]
        · exact h5
        · subst z; subst h3
          exact ne (r.inj i j xs zs _ e1 e e2 h1)
      | exc x =>
        obtain ⟨b, dd, w, h3, h4, h5, h6⟩ := h2
        exact ⟨b, dd, w, h3, h4, by rw [mk]; exact h5, by rw [mk]; exact h6⟩
  · obtain ⟨_, o1⟩ := old q1
    obtain ⟨_, o2⟩ := old q2
    exact r.inj j k _ _ v o1 o2 p1 p2
  · by_cases z : b = a
    · subst z; rw [upd_same] at e; cases e
    · rw [upd_ne z] at e; exact r.thr b hb e
  · obtain ⟨_, o⟩ := old q1
    exact fr.own j _ b o q2
theorem Fr.get {K : PySem.W.Frag} {O : List Addr} {σ : L2.St} {H : Hp} {ρ : Sto} {i : Nat} {xs : List D} (fr : Fr K xp B σ H ρ O) (e1 : ρ[i]? = some (some (.own xs))) : ∃ a vs, σ[i]? = some (some (.ref a)) ∧ H a = some (.lst vs) ∧ DnAll K (msk H (O ++ B)) vs xs := by
  obtain ⟨v, h1, a, vs, rfl, _, h2, h3⟩ := fr.rel.at_ i _ e1
  exact ⟨a, vs, h1, h2, h3⟩
def ownAt (ρ : Sto) (i : Nat) : Rs (List D) := match ρ[i]? with
  | some (some (.own xs)) => .ok xs
  | _ => .bad
theorem EndS.ownAt {K : PySem.W.Frag} {mg : Str → Option Value} {T : Ends} {H : Hp} {O : List Addr} {ρ : Sto} {i : Nat} {k : List D → Out} (h : EndS K mg xp W B T H O (.ofR (ownAt ρ i) ρ k)) : ∃ xs, ρ[i]? = some (some (.own xs)) ∧ EndS K mg xp W B T H O (k xs) := by
  unfold Pf.ownAt at h
  split at h
  · rename_i xs e
    exact ⟨xs, e, h⟩
  · exact h.elim
/-- x.append(e), x a list of ours -/
def apF (i : Nat) (fe : Sto → Rs D) : Sto → Out := fun ρ => .ofR (ownAt ρ i) ρ fun xs => .ofR (fe ρ) ρ fun d => if xs.length < LIM then .nx (ρ.set i (some (.own (xs ++ [d])))) else .bad
theorem endS_ite {K : PySem.W.Frag} {mg : Str → Option Value} {T : Ends} {H : Hp} {O : List Addr} {c : Prop} [Decidable c] {o : Out} (h : EndS K mg xp W B T H O (if c then o else .bad)) : c ∧ EndS K mg xp W B T H O o := by
  by_cases e : c
  · rw [if_pos e] at h; exact ⟨e, h⟩
  · rw [if_neg e] at h; exact h.elim
theorem cst_append {i : Nat} {x : Str} {apos cpos p : Pos} (hi : X.N[i]? = some x) (hv : Vis X.env.scope x) (hd : (x == ("__debug__" : Str)) = false) (hcd : (x == ("__classdict__" : Str)) = false) (h : CE X xp W e fe)
    (hfew : ((backTo cpos (starEach [e] X.env)).all (fun x => !x.1) && (backToKw cpos (keywordEach [] X.env)).all (fun x => x.1.isSome) && decide ([e].length + ([] : List Keyword).length + (if ([] : List Keyword).isEmpty then 0 else 1) < 30)) = true)
    (hl : (apos.endLine == cpos.line) = true) (he : starEach [e] X.env = (false, eval e X.env) :: starEach [] X.env) (hpl : (backTo cpos (starEach [] X.env)).any (·.1) = false) (hs : swapsWith (.Call (.Attribute (.Name x p) "append" apos) [e] [] cpos) none pos.line X.env = pure false) :
    CSt X xp W B (.Expr (.Call (.Attribute (.Name x p) "append" apos) [e] [] cpos) pos) (apF i fe) :=
  ps_imp (ps_expr (pe_bm PySem.F.plainAttrs_list PySem.F.slot_list_append PySem.F.type_list_append mt_append (pe_var hi hv hd hcd) (pa_cons h pa_nil he) rfl hfew hl he hpl) hs) fun T σ H ⟨ρ, O, fr, q⟩ => by
    obtain ⟨xs, e1, q⟩ := EndS.ownAt q
    obtain ⟨a, vs, e2, e3, e4⟩ := fr.get e1
    refine ⟨_, e2, .inl ⟨rfl, _, .inl (.inl e3)⟩, ρ, O ++ B, fr.rel, (EndS.ofR q fr).imp fun d H' _ s k v hv => ?_⟩
    obtain ⟨lt, k⟩ := endS_ite k
    have f' := fr.mono s
    have len : vs.length = xs.length := dpAll_len e4
    obtain ⟨g1, g2⟩ := f'.put (vs := vs ++ [v]) (ys := xs ++ [d]) e1 e2 (dpAll_app (dpAll_mono (msk_same s) e4) (.cons hv .nil))
    exact ⟨a, vs, v, rfl, rfl, s _ _ e3, Nat.lt_of_lt_of_le (by omega) lim_line, k _ _ O g2 g1⟩
/-- a list of ours is given away: from here on it is data -/
def frz (i : Nat) (ρ : Sto) : Sto := match ρ[i]? with
  | some (some (.own xs)) => if xs.length ≤ LIM then ρ.set i (some (.pd (.list xs))) else ρ
  | _ => ρ
theorem msk_less {H : Hp} {O O' : List Addr} (h : ∀ b ∈ O', b ∈ O) : Same (msk H O) (msk H O') := fun b o e => by
  obtain ⟨h1, h2⟩ := msk_some e
  rw [msk_out fun z => h1 (h b z)]; exact h2
theorem Fr.frz {K : PySem.W.Frag} {O : List Addr} {σ : L2.St} {H : Hp} {ρ : Sto} (fr : Fr K xp B σ H ρ O) (i : Nat) : ∃ O', Fr K xp B σ H (frz i ρ) O' ∧ Stp H O H O' := by
  unfold Pf.frz
  split
  · rename_i xs e1
    by_cases hl : xs.length ≤ LIM
    · rw [if_pos hl]
      obtain ⟨a, vs, e2, e3, e4⟩ := fr.get e1
      obtain ⟨aO, aB⟩ := fr.own i xs a e1 e2
      let O' := O.filter fun b => decide (b ≠ a)
      have sub : ∀ b ∈ O', b ∈ O := fun b hb => (List.mem_filter.mp hb).1
      have subB : ∀ b ∈ O' ++ B, b ∈ O ++ B := fun b hb => (List.mem_append.mp hb).elim (fun z => List.mem_append_left _ (sub b z)) fun z => List.mem_append_right _ z
      have less : Same (msk H (O ++ B)) (msk H (O' ++ B)) := msk_less subB
      have out : a ∉ O' ++ B := fun z => (List.mem_append.mp z).elim (fun z => by simpa using (List.mem_filter.mp z).2) aB
      have r := fr.rel
      have old : ∀ {j : Nat} {zs : List D}, (ρ.set i (some (SV.pd (.list xs))))[j]? = some (some (.own zs)) → i ≠ j ∧ ρ[j]? = some (some (.own zs)) := fun {j zs} q => by
        rcases get_set q with ⟨rfl, e⟩ | ⟨ne, e⟩
        · cases e
        · exact ⟨ne, e⟩
      have keep : ∀ {j : Nat} {zs : List D} {b : Addr}, i ≠ j → ρ[j]? = some (some (.own zs)) → σ[j]? = some (some (.ref b)) → b ∈ O' := fun {j zs b} ne q1 q2 =>
        List.mem_filter.mpr ⟨(fr.own j zs b q1 q2).1, by simpa using fun z => ne (r.inj i j xs zs (.ref a) e1 q1 e2 (by rw [q2, z]))⟩
      refine ⟨O', ⟨⟨by simp [r.len], fun j sv q => ?_, fun j k zs ws v q1 q2 p1 p2 => r.inj j k _ _ v (old q1).2 (old q2).2 p1 p2, fun b hb => r.thr b (subB b hb)⟩, fun j zs b q1 q2 => ⟨keep (old q1).1 (old q1).2 q2, (fr.own j zs b (old q1).2 q2).2⟩⟩, msk_less sub⟩
      rcases get_set q with ⟨rfl, e⟩ | ⟨ne, e⟩
      · cases e
        exact ⟨_, e2, .lst (.inl (.inl (by rw [msk_out out]; exact e3))) (by rw [dpAll_len e4]; exact hl) (dpAll_mono less e4)⟩
      · obtain ⟨v, h1, h2⟩ := r.at_ j sv e
        refine ⟨v, h1, ?_⟩
        cases sv with
        | pd d => exact dp_mono less h2
        | own zs =>
          obtain ⟨b, us', h3, h4, h5, h6⟩ := h2
          subst h3
          exact ⟨b, us', rfl, List.mem_append_left _ (keep ne e h1), h5, dpAll_mono less h6⟩
        | exc x =>
          obtain ⟨b, dd, w, h3, h4, h5, h6⟩ := h2
          exact ⟨b, dd, w, h3, h4, less _ _ h5, dp_mono less h6⟩
    · rw [if_neg hl]
      exact ⟨O, fr, .refl⟩
  · exact ⟨O, fr, .refl⟩
theorem cst_frz {i : Nat} (h : CSs X xp W B sts f) : CSs X xp W B sts (fun ρ => f (frz i ρ)) := pss_imp h fun T σ H ⟨ρ, O, fr, q⟩ => by
  obtain ⟨O', fr', st⟩ := fr.frz i
  exact ⟨Pf.frz i ρ, O', fr', EndS.grow q st⟩
theorem stp_app {H H' : Hp} {O O' B : List Addr} (s : Stp H O H' O') : Same (msk H (O ++ B)) (msk H' (O' ++ B)) := fun b o e => by
  obtain ⟨h1, h2⟩ := msk_some e
  simp only [List.mem_append, not_or] at h1
  obtain ⟨h3, h4⟩ := msk_some (s b o (by rw [msk_out h1.1]; exact h2))
  rw [msk_out fun z => (List.mem_append.mp z).elim h3 h1.2]
  exact h4
/-! ### for, while -/
def forL (step : D → Sto → Out) : List D → Sto → Out
  | [], ρ => .nx ρ
  | d :: ds, ρ => match step d ρ with
    | .nx ρ' => forL step ds ρ'
    | .ct ρ' => forL step ds ρ'
    | .bk ρ' => .nx ρ'
    | o => o
def forF (t : Tg) (items : Sto → Rs (List D)) (body : Sto → Out) : Sto → Out := fun ρ => .ofR (items ρ) ρ fun ds => forL (fun d ρ' => (asgO t d ρ').seq body) ds ρ
theorem rd_for {K : PySem.W.Frag} {mg : Str → Option Value} {t : Tg} {items : Sto → Rs (List D)} {body : Sto → Out} {T : Ends} {σ : L2.St} {H : Hp} (h : rdSt K mg xp W B (forF t items body) T σ H) : tFor (rdI K mg xp W items) (rdG K xp t) (rdSt K mg xp W B body) T σ H := by
  obtain ⟨ρ, O, fr, q⟩ := h
  refine ⟨ρ, O ++ B, fr.rel, (EndS.ofR q fr).imp fun ds H1 _ s1 q1 J G hG wk => ?_⟩
  let step : D → Sto → Out := fun d ρ' => (asgO t d ρ').seq body
  let Pv : Nat → L2.St → Hp → Prop := fun i σ' H' => ∃ ρ' O', Fr K xp B σ' H' ρ' O' ∧ G (msk H' (O' ++ B)) ∧ EndS K mg xp W B T H' O' (forL step (ds.drop i) ρ')
  refine ⟨fun i m σ' H' => m = ds.length - i ∧ i ≤ ds.length ∧ Pv i σ' H', ⟨ds.length, by simp, Nat.zero_le _, ρ, O, fr.mono s1, hG, q1⟩, ?_⟩
  rintro i m σ' H' ⟨rfl, hi, ρ', O', fr', g', q'⟩
  by_cases lt : i < ds.length
  · refine .inr ⟨wk.goes i H' _ lt g', Pv (i + 1), fun σ2 H2 p2 => ⟨ds.length - (i + 1), by omega, rfl, lt, p2⟩, fun x H2 y => ?_⟩
    obtain ⟨s2, d, e1, hd⟩ := wk.yields i H' _ x H2 lt g' fr'.rel.thr y
    rw [List.drop_eq_getElem_cons lt] at q'
    have e2 : ds[i] = d := by
      rw [List.getElem?_eq_getElem lt] at e1
      exact Option.some.inj e1
    rw [e2] at q'
    have fr2 := fr'.mono s2
    have q2 : EndS K mg xp W B T H2 O' (forL step (d :: ds.drop (i + 1)) ρ') := q'.grow (Stp.same s2)
    -- the walk goes on wherever data stands
    have gk : ∀ {H3 : Hp} {O3 : List Addr}, Same (msk H2 (O' ++ B)) (msk H3 (O3 ++ B)) → G (msk H3 (O3 ++ B)) := fun s => wk.mono _ _ (wk.mono _ _ g' (msk_same s2)) s
    cases ea : asgT t d ρ' with
    | ex z => exact absurd ea (asgT_noex z)
    | bad =>
      have : step d ρ' = .bad := by show (Out.ofR (asgT t d ρ') ρ' fun ρ' => .nx ρ').seq body = _; rw [ea]; rfl
      unfold forL at q2
      rw [this] at q2
      exact q2.elim
    | ok ρ3 =>
      have st : step d ρ' = body ρ3 := by show (Out.ofR (asgT t d ρ') ρ' fun ρ' => .nx ρ').seq body = _; rw [ea]; rfl
      unfold forL at q2
      rw [st] at q2
      refine ⟨ρ', O' ++ B, d, ρ3, fr2.rel, hd, ea, fun σ3 r3 w3 => ⟨ρ3, O', fr2.asg ea r3 (w3 _ fun _ h => h), ?_⟩⟩
      generalize hb : body ρ3 = o at q2
      cases o with
      | nx ρ4 => exact fun σ4 H4 O4 s4 f4 => ⟨ρ4, O4, f4, gk (stp_app s4), q2.grow s4⟩
      | ct ρ4 => exact fun σ4 H4 O4 s4 f4 => ⟨ρ4, O4, f4, gk (stp_app s4), q2.grow s4⟩
      | bk ρ4 => exact q2
      | rt d => exact q2
      | ex x ρ4 => exact q2
      | bad => exact q2
  · have e : i = ds.length := by omega
    subst e
    refine .inl ⟨wk.stops H' _ g', ?_⟩
    rw [List.drop_length] at q'
    exact q' σ' H' O' .refl fr'
theorem cst_for {tg iter : Expr} {body : List Stmt} {t : Tg} {items : Sto → Rs (List D)} (hp : PassesOwn (model X.prog X.w) X.A X.env X.xe) (hc : X.calm = true) (hi : CI X xp W tg iter items) (hg : CG X xp tg t) (hb : CSs X xp W B body f) (hs : ∀ x, foldedSetIterable iter X.env x = pure x) :
    CSt X xp W B (.For tg iter body [] pos) (forF t items f) := ps_imp (ps_for hp hc hi hg hb hs) fun _ _ _ h => rd_for h
def whL (c : Sto → Rs Bool) (body : Sto → Out) : Nat → Sto → Out
  | 0, _ => .bad
  | n + 1, ρ => .ofR (c ρ) ρ fun k => if k = true then (match body ρ with
    | .nx ρ' => whL c body n ρ'
    | .ct ρ' => whL c body n ρ'
    | .bk ρ' => .nx ρ'
    | o => o) else .nx ρ
theorem cst_while {c : Expr} {body : List Stmt} {n : Nat} (hp : PassesOwn (model X.prog X.w) X.A X.env X.xe) (hc : CT X xp W c ft) (hb : CSs X xp W B body f) : CSt X xp W B (.While c body [] pos) (whL ft f n) :=
  ps_imp (ps_while hp hc hb) fun T σ H ⟨ρ, O, fr, q⟩ => by
    refine ⟨fun m σ' H' => ∃ ρ' O', Fr X.K xp B σ' H' ρ' O' ∧ EndS X.K X.mg xp W B T H' O' (whL ft f m ρ'), ⟨n, ρ, O, fr, q⟩, ?_⟩
    rintro m σ' H' ⟨ρ', O', fr', q'⟩
    cases m with
    | zero => exact q'.elim
    | succ m =>
      refine ⟨ρ', O' ++ B, fr'.rel, (EndS.ofR q' fr').imp fun k H2 _ s2 q2 => ?_⟩
      cases k with
      | false => exact q2 σ' H2 O' .refl (fr'.mono s2)
      | true =>
        refine ⟨fun σ3 H3 => ∃ ρ3 O3, Fr X.K xp B σ3 H3 ρ3 O3 ∧ EndS X.K X.mg xp W B T H3 O3 (whL ft f m ρ3), fun σ3 H3 p => ⟨m, Nat.lt_succ_self _, p⟩, ρ', O', fr'.mono s2, ?_⟩
        have q2 : EndS X.K X.mg xp W B T H2 O' (match f ρ' with
          | .nx ρ' => whL ft f m ρ'
          | .ct ρ' => whL ft f m ρ'
          | .bk ρ' => .nx ρ'
          | o => o) := q2
        generalize f ρ' = o at q2
        cases o with
        | nx ρ4 => exact fun σ4 H4 O4 s4 f4 => ⟨ρ4, O4, f4, q2.grow s4⟩
        | ct ρ4 => exact fun σ4 H4 O4 s4 f4 => ⟨ρ4, O4, f4, q2.grow s4⟩
        | bk ρ4 => exact q2
        | rt d => exact q2
        | ex x ρ4 => exact q2
        | bad => exact q2
end
end Pf

set_option Elab.async false
set_option linter.all false
set_option maxRecDepth 100000
/-! The program's own exceptions: one attribute each, set in __init__ behind the base's __init__. -/
namespace Pf
open PySem PySem.Spec PyProof.Rows L2

/-- the built-in class that stands behind an own exception class -/
inductive Bs where
  | exc | val | look | arith | rt | over
def Bs.nm : Bs → String
  | .exc => "Exception" | .val => "ValueError" | .look => "LookupError" | .arith => "ArithmeticError" | .rt => "RuntimeError" | .over => "OverflowError"
def Bs.new : Bs → String
  | .exc => "Exception.__new__" | .val => "ValueError.__new__" | .look => "LookupError.__new__" | .arith => "ArithmeticError.__new__" | .rt => "RuntimeError.__new__" | .over => "OverflowError.__new__"
def Bs.ini : Bs → String
  | .exc => "Exception.__init__" | .val => "ValueError.__init__" | .look => "LookupError.__init__" | .arith => "ArithmeticError.__init__" | .rt => "RuntimeError.__init__" | .over => "OverflowError.__init__"
def Bs.tail : Bs → List Value
  | .exc => [.type "Exception", .type "BaseException", .type "object"]
  | .val => [.type "ValueError", .type "Exception", .type "BaseException", .type "object"]
  | .look => [.type "LookupError", .type "Exception", .type "BaseException", .type "object"]
  | .arith => [.type "ArithmeticError", .type "Exception", .type "BaseException", .type "object"]
  | .rt => [.type "RuntimeError", .type "Exception", .type "BaseException", .type "object"]
  | .over => [.type "OverflowError", .type "ArithmeticError", .type "Exception", .type "BaseException", .type "object"]
theorem Bs.facts : ∀ b : Bs, ExcBaseFacts b.nm b.new b.ini b.tail
  | .exc => F.excBase_Exception
  | .val => F.excBase_ValueError
  | .look => F.excBase_LookupError
  | .arith => F.excBase_ArithmeticError
  | .rt => F.excBase_RuntimeError
  | .over => F.excBase_OverflowError
theorem Bs.store : ∀ b : Bs, StoreFacts b.nm b.tail "object.__setattr__" "object"
  | .exc => F.store_Exception
  | .val => F.store_ValueError
  | .look => F.store_LookupError
  | .arith => F.store_ArithmeticError
  | .rt => F.store_RuntimeError
  | .over => F.store_OverflowError
/-- what the written part says of an own exception class C, f its attribute -/
structure Oc (K : PySem.W.Frag) (b : Bs) (C : Addr) (f : Str) : Prop where
  ini : PySem.W.excInitIn K C b.tail b.new = true
  over : PySem.W.excOver K C b.tail = true
  hd : PySem.W.hasDictIn K C = true
  tk : PySem.W.takerIn K C f = some none
  sa : PySem.W.findIn K (.ref C) "__setattr__" = some (some (.builtin "object.__setattr__"))
  exC : PySem.W.subIn K (.ref C) (.type "BaseException") = some true
  tyC : PySem.W.typeIn K (.ref C) = some (.type "type")
  kC : PySem.W.keepIn K (.ref C) = true
def ocB (K : PySem.W.Frag) (b : Bs) (C : Addr) (f : Str) : Bool :=
  PySem.W.excInitIn K C b.tail b.new && PySem.W.excOver K C b.tail && PySem.W.hasDictIn K C && decide (PySem.W.takerIn K C f = some none) && decide (PySem.W.findIn K (.ref C) "__setattr__" = some (some (.builtin "object.__setattr__"))) &&
    decide (PySem.W.subIn K (.ref C) (.type "BaseException") = some true) && decide (PySem.W.typeIn K (.ref C) = some (.type "type")) && PySem.W.keepIn K (.ref C)
theorem oc_of {K : PySem.W.Frag} {b : Bs} {C : Addr} {f : Str} (h : ocB K b C f = true) : Oc K b C f := by
  unfold ocB at h
  simp only [Bool.and_eq_true, decide_eq_true_eq] at h
  obtain ⟨⟨⟨⟨⟨⟨⟨h1, h2⟩, h3⟩, h4⟩, h5⟩, h6⟩, h7⟩, h8⟩ := h
  exact ⟨h1, h2, h3, h4, h5, h6, h7, h8⟩
section
open Builtin Builtin.ObjectAttr
variable {prog : Program} {w : World} {A : Around} {R : Result → Shared → Prop} {hp : Heap} {g : Array GenState} {d : Drawn} {t : Nat} {os : OsState}
/-- the first attribute of an exception: its dict is made -/
theorem osa_first {K : W.Frag} {b : Bs} {name : Str} {tk : Tok} {v : Value} {x C : Addr} {fv : Array Value} (c : Oc K b C name) (inK : K.In hp) (hx : hp.get? x = some { cls := .ref C, data := .fields fv })
    (goal : ∀ h' tk' dx, (∀ b o, b ≠ x → hp.get? b = some o → h'.get? b = some o) → hp.objs.size ≤ dx → dx ≠ x → h'.get? x = some { cls := .ref C, dict := some dx, data := .fields fv } → h'.Ns1 dx (fun y => if y = name then some v else none) → R (.ok (.ret .none)) ⟨h', g, d, tk', os⟩) :
    codeAny (model prog w) A (.call (.builtin "object.__setattr__") ⟨[.ref x, .str name tk, v], []⟩) R ⟨hp, g, d, t, os⟩ := by
  have lt : x ≠ hp.objs.size := Nat.ne_of_lt (Heap.lt_size hx)
  obtain ⟨cd, hcd, hh⟩ : ∃ cd, W.clsIn K C = some cd ∧ cd.hasDict = true := by
    have z := c.hd
    unfold W.hasDictIn at z
    cases e : W.clsIn K C with
    | none => rw [e] at z; cases z
    | some cd => rw [e] at z; exact ⟨cd, rfl, z⟩
  have cls := W.looks_clsIn (M := model prog w) inK hcd
  have inst : W.InstAt hp x { cls := .ref C, data := .fields fv } C none := ⟨hx, rfl, rfl, trivial⟩
  refine W.osa_openX (s := ⟨hp, g, d, t, os⟩) b.store inK inst c.over c.tk fun bb => ?_
  show wpAny _ _ (storeInOwnDict (.ref x) (.ref C) (.str name tk) name v bb) _ _ _
  obtain ⟨nm, bs, mro, ns, qn, hd, sn, sb, ab, col, del⟩ := cd
  dsimp only at hh
  subst hh
  unfold storeInOwnDict ownDictForStores
  repeat (first | with_reducible refine HandSPX.store_in_new ?_ ?_ | with_reducible refine wpAny_loadPart_at hx ?_ | with_reducible refine cls.at ?_ | wp_step)
  · exact ⟨_, #[], _, (Heap.get?_update_ne _ _ _ _ lt.symm).trans (Heap.get?_push_at rfl rfl), rfl, fun e he => absurd he (by simp), fun _ => rfl⟩
  · intro h' tk' new same
    have kept : (hp.push { cls := .type "dict", data := .dict #[] }).get? x = some { cls := .ref C, data := .fields fv } := Heap.get?_push_of_some _ hx
    refine goal h' tk' hp.objs.size (fun b o ne ho => ?_) (Nat.le_refl _) lt.symm ((same.2 x lt).trans (Heap.get?_update_self _ kept rfl)) new
    rw [same.2 b (Nat.ne_of_lt (Heap.lt_size ho)), Heap.get?_update_ne _ _ _ _ ne]
    exact Heap.get?_push_of_some _ ho
end
section
variable {X : Cx} {pins : List (Addr × Obj)} {σ : L2.St} {H : Hp} {s : Shared} {a C : Addr} {b : Bs} {f : Str} {y : V} {u : Value} {E : Value → Shared → Prop} {A : Around}
theorem own_first {Q : Unit → Shared → Prop} (c : Oc X.K b C f) (I : Inv X pins σ H s) (e : H a = some (exo a C none)) (ry : RelV y u)
    (h : ∀ dx s', H dx = none → dx ≠ a → Inv X pins σ (upd (upd H dx (exd dx [(f, y)])) a (exo a C (some dx))) s' → Q () s') : wpAny (model X.prog X.w) A (setAttr (.ref a) f u) Q E s := by
  obtain ⟨t1, there⟩ := exo_at I.hok e
  obtain ⟨hp, g, d, t, os⟩ := s
  refine PySem.W.set_plain I.kIn (ox := { cls := .ref C, dict := none, data := .fields #[.ref t1, .none, .none, .none, .bool false, .none] }) (od := none) ⟨there, rfl, rfl, trivial⟩ c.sa ?_
  refine osa_first c I.kIn there fun h' tk' dx keep ge ne at' new => ?_
  have free : H dx = none := I.hok.fresh ge
  have nd : ∀ {b : Addr} {o : Obj}, hp.get? b = some o → b ≠ dx := fun {b o} q => Nat.ne_of_lt (Nat.lt_of_lt_of_le (Heap.lt_size q) ge)
  have na : ∀ {b : Addr}, H b = none → b ≠ a := fun {b} n z => by rw [z, e] at n; cases n
  have U : Un X.fs [] H (upd (upd H dx (exd dx [(f, y)])) a (exo a C (some dx))) hp h' :=
    { keep := fun b o q n _ _ => keep b o (na n) q
      slot := fun b o q n _ _ => ⟨o.slots, keep b o (na n) q⟩
      free := fun b o q n _ => by
        rw [upd_ne (na n), upd_ne (nd q)]
        exact n
      there := fun b o q _ => if hb : b = a then hb ▸ ⟨_, at'⟩ else ⟨o, keep b o hb q⟩
      tups := fun b xs q => by
        rw [upd_ne (at_ne e q exo_tup), upd_ne (ne_of_none q free)]
        exact q
      frzs := fun b o v q => by
        rw [upd_ne (at_ne e q exo_frz), upd_ne (ne_of_none q free)]
        exact q
      tbls := fun b ps q => ⟨#[], by rw [upd_ne (at_ne e q exo_tbl), upd_ne (ne_of_none q free), q]; simp⟩ }
  refine h dx _ free ne (I.un (t' := tk') U fun b o q => ?_)
  by_cases hb : b = a
  · rw [hb, upd_same] at q
    cases q
    rw [hb]
    exact exo_ok at'
  · rw [upd_ne hb] at q
    by_cases hd : b = dx
    · rw [hd, upd_same] at q
      cases q
      rw [hd]
      exact exd_ok new (relO_put (fs := []) ry fun _ => trivial)
    · rw [upd_ne hd] at q
      refine (I.hok b o q).stay (fun c v hc z => keep c v ?_ z) (fun c hc => ?_) fun c xs hc => ?_
      · exact hc.elim (fun hc => by rw [hc]; exact hb) fun hc => at_ne e hc exo_own
      · rw [upd_ne (at_ne e hc exo_own), upd_ne (ne_of_none hc free)]
        exact hc
      · rw [upd_ne (at_ne e hc exo_tup), upd_ne (ne_of_none hc free)]
        exact hc
/-- the base's __init__ -/
theorem base_init {us : List Value} {Q : Value → Shared → Prop} (c : Oc X.K b C f) (I : Inv X pins σ H s) (e : H a = some (exo a C none)) (hl : us.length ≤ sizeLine) (h : ∀ s', Inv X pins σ H s' → Q .none s') :
    wpAny (model X.prog X.w) A (call (.builtin b.ini) (.ref a :: us)) Q E s := by
  obtain ⟨t1, there⟩ := exo_at I.hok e
  obtain ⟨nm, N, qn, bs, bm, hdct, sn, sub, ab, col, dd, k0, k1, k2, k3, k5, hC, hT⟩ := PySem.W.excInit_of I.kIn c.ini
  obtain ⟨hp, g, d, t, os⟩ := s
  refine wpAny_call (PySem.HandSPX.init_base b.facts hT hC there hl fun h' t2 keep at' => ?_)
  have J := I.write (t' := t) (x := a) (e := a) (o := exo a C none) (by rw [e]; exact True.intro) (.inl rfl) keep ⟨_, at'⟩ (exo_ok at')
  have same : upd H a (exo a C none) = H := by
    funext b'
    by_cases hb : b' = a
    · rw [hb, upd_same, e]
    · exact upd_ne hb
  rw [same] at J
  exact h _ J
end
end Pf

set_option Elab.async false
set_option linter.all false
set_option maxRecDepth 100000
/-! Own exceptions, made and raised. -/
namespace Pf
open PySem PySem.Spec PyProof.Rows L2

/-- B.__init__(self, ..) -/
def tBi (K : PySem.W.Frag) (b : Bs) (f : Str) (ta : TA) : TE := fun σ H Q => ta σ H fun vs H1 => ∃ (a C : Addr) (ws : List V), vs = .ref a :: ws ∧ ws.length ≤ 1000 ∧ Oc K b C f ∧ H1 a = some (exo a C none) ∧ Q .non H1
/-- the base as it is named in __init__ -/
inductive BaseIs (K : PySem.W.Frag) (mg : Str → Option Value) (b : Bs) : Str → Prop where
  | blt (m : mg b.nm = none) (v : PySem.W.findCls K (.type b.nm) (.type "type") "__init__" = some (.val (.builtin b.ini))) : BaseIs K mg b b.nm
  | own {x : Str} {A : Addr} {mc : Value} (m : mg x = some (.ref A)) (r : ClX.CRead K A mc) (v : PySem.W.findCls K (.ref A) mc "__init__" = some (.val (.builtin b.ini))) (hd : (x == ("__debug__" : Str)) = false) : BaseIs K mg b x
theorem boot_bs : ∀ b : Bs, bootBuiltins (b.nm : Str) = some (.type b.nm) := by
  intro b
  cases b <;> rfl
theorem typ_bs : ∀ b : Bs, typeOf (.type b.nm) = pure (.type "type") := by
  intro b
  cases b <;> kernel_rfl
section
variable {X : Cx} {b : Bs} {x f : Str} {e : Expr} {es : List Expr} {ta : TA} {p1 p2 pos : Pos}
theorem pe_binit {pl : Sem Bool} (B : BaseIs X.K X.mg b x) (hg : Gl X x) (ha : L2.PA X (e :: es) ta)
    (hc : eval (.Call (.Attribute (.Name x p1) "__init__" p2) (e :: es) [] pos) X.env = (do
      let ov ← eval (.Name x p1) X.env
      standAt p2.atName
      let (g, first) ← holding [ov] (getMethod ov "__init__" pl)
      callWith pos g first (backTo pos (starEach (e :: es) X.env)) (backToKw pos (keywordEach [] X.env))))
    (he : starEach (e :: es) X.env = (false, eval e X.env) :: starEach es X.env) (hpl : (backTo pos (starEach es X.env)).any (·.1) = false) :
    PE X (.Call (.Attribute (.Name x p1) "__init__" p2) (e :: es) [] pos) (tBi X.K b f ta) := by
  constructor
  intro pins s σ H Q I wish
  have rest : ∀ {s1 : Shared}, L2.Inv X pins σ H s1 → wpAny (model X.prog X.w) X.A (callWith pos (Value.builtin b.ini) [] (backTo pos (starEach (e :: es) X.env)) (backToKw pos (keywordEach [] X.env))) (EP X pins σ Q) X.xe s1 := by
    intro s1 I1
    refine PyProof.Rows.callWith_method1 (thn (ha.run pos pins s1 σ H _ I1 wish) ?_) he hpl
    rintro us s2 ⟨vs, H1, I2, r1, a, C, ws, rfl, few, c, there, q⟩
    cases r1 with
    | @cons _ u0 _ ur ra rw' =>
      obtain rfl : u0 = Value.ref a := ra
      refine base_init c I2 there ?_ fun s' J => ⟨.non, H1, J, rfl, q⟩
      rw [← Paired.length rw', sizeLine_eq]
      omega
  cases B with
  | blt m v =>
    refine PySem.W.methodCall_KW (ld_blt I hg m (boot_bs b) ?_ (by cases b <;> decide) (by cases b <;> decide)) hc
    obtain ⟨m', fr⟩ := I.fr
    exact PySem.W.method_type fr I.ok.mod.kin (typ_bs b) (by cases b <;> decide +kernel) v (by cases b <;> decide +kernel) (rest (I.tok _))
  | own m r v hd =>
    refine PySem.W.methodCall_KW (ld_glob I hg m ?_ hd) hc
    exact PySem.W.method_cls I.kIn r.ga (PySem.W.cls_value I.kIn r.rd v (by cases b <;> rfl) (rest (I.tok _)))
/-- self.f = e, the first one -/
def tOs (K : PySem.W.Frag) (b : Bs) (f : Str) (to te : TE) : TS := fun D σ H => te σ H fun y H1 => to σ H1 fun x H2 => ∃ a C : Addr, x = .ref a ∧ Oc K b C f ∧ H2 a = some (exo a C none) ∧
  ∀ dx, H2 dx = none → dx ≠ a → D.nx σ (upd (upd H2 dx (exd dx [(f, y)])) a (exo a C (some dx)))
theorem ps_os {o : Expr} {to te : TE} {p' : Pos} (ho : PE X o to) (he : PE X e te) (hs : swapsWith e (some (.Attribute o f p')) pos.line X.env = pure false) : PS X (.Assign [.Attribute o f p'] e pos) (tOs X.K b f to te) := by
  constructor
  intro pins s σ H D I h
  refine plainObj_wpAny_Assign_Attribute (thn (he.run pins s σ H _ I h) ?_) hs
  rintro v s1 ⟨y, H1, I1, r1, q1⟩
  refine thn (ho.run pins s1 σ H1 _ I1 q1) ?_
  rintro u s2 ⟨x, H2, I2, r2, a, C, rfl, c, there, q⟩
  obtain rfl : u = Value.ref a := r2
  exact own_first c I2 there r1 fun dx s' n ne J => ⟨σ, _, J, q dx n ne⟩
end
def spIni (K : PySem.W.Frag) (b : Bs) (f : Str) : Sp := fun vs H Q _ => ∃ (a C : Addr) (v : V), vs = [.ref a, v] ∧ Oc K b C f ∧ H a = some (exo a C none) ∧ ∀ dx, H dx = none → dx ≠ a → Q .non (upd (upd H dx (exd dx [(f, v)])) a (exo a C (some dx)))
section
variable {P : Program} {w : World} {K : PySem.W.Frag} {mg : Str → Option Value} {base : Heap}
/-- __init__: the base's, then the attribute -/
theorem fn_ini {qual x f par msg : Str} {st : Stmt} {fI : Addr} {fd : FuncData} {b : Bs} {j : Nat} {p1 p2 p3 p4 p5 p6 p7 p8 p9 p10 : Pos} (F : Fun K "__init__" qual st fI fd) (S : FnScope ["self", par] ["self", par] (defScope st)) (B : BaseIs K mg b x)
    (hs : (defScope st).names.lookup ("self" : Str) = some .local) (hp : (defScope st).names.lookup par = some .local) (hx : (defScope st).names.lookup x = some .globalImplicit) (hd : (par == ("__debug__" : Str)) = false) (hcd : (par == ("__classdict__" : Str)) = false)
    (call : ∀ env : Env, ∃ pl : Sem Bool, eval (.Call (.Attribute (.Name x p1) "__init__" p2) [.Name "self" p3, .Constant (.str msg) j p4] [] p5) env = (do
      let ov ← eval (.Name x p1) env
      standAt p2.atName
      let (g, first) ← holding [ov] (getMethod ov "__init__" pl)
      callWith p5 g first (backTo p5 (starEach [.Name "self" p3, .Constant (.str msg) j p4] env)) (backToKw p5 (keywordEach [] env))))
    (body : defBody st = [.Expr (.Call (.Attribute (.Name x p1) "__init__" p2) [.Name "self" p3, .Constant (.str msg) j p4] [] p5) p6, .Assign [.Attribute (.Name "self" p7) f p8] (.Name par p9) p10]) :
    FnOk P w K mg base (L2.CX P w) 1 fI fd ["self", par] (spIni K b f) := by
  refine F.okX S (fun vs H Q E h => ?_) fun cdv A outer s H vs Q E room h => ?_
  · obtain ⟨a, C, v, rfl, _⟩ := h
    rfl
  · obtain ⟨a, C, v, rfl, c, there, k⟩ := h
    rw [body]
    have v0 : ∀ {p}, PE (cxOf (L2.CX P w) P w K mg base ["self", par] qual (defScope st) fI cdv A outer s H E) (.Name "self" p) (tVar 0) := fun {p} => pe_var rfl (.inl hs) (by decide) (by decide)
    have v1 : ∀ {p}, PE (cxOf (L2.CX P w) P w K mg base ["self", par] qual (defScope st) fI cdv A outer s H E) (.Name par p) (tVar 1) := fun {p} => pe_var rfl (.inl hp) hd hcd
    obtain ⟨pl, call⟩ := call (cxOf (L2.CX P w) P w K mg base ["self", par] qual (defScope st) fI cdv A outer s H E).env
    refine ⟨_, pss_cons (ps_expr (pe_binit (b := b) (f := f) B hx (pa_cons v0 (pa_cons pe_str pa_nil)) call rfl rfl) rfl) (pss_one (ps_os (b := b) v0 v1 rfl)), ?_⟩
    exact ⟨_, rfl, a, C, _, rfl, by show 1 ≤ 1000; decide, c, there, _, rfl, _, rfl, a, C, rfl, c, there, fun dx n ne => k dx n ne⟩
end
end Pf

set_option Elab.async false
set_option linter.all false
set_option maxRecDepth 100000
/-! Own exceptions, raised. -/
namespace Pf
open PySem PySem.Spec PyProof.Rows L2
/-- what is known of an own exception class named x, its attribute f -/
structure ExCls (P : Program) (w : World) (K : PySem.W.Frag) (mg : Str → Option Value) (base : Heap) (x f : Str) : Prop where
  is : ∃ (b : Bs) (C fI : Addr) (fd : FuncData) (ps : List Str), mg x = some (.ref C) ∧ Oc K b C f ∧ PySem.W.findIn K (.ref C) "__init__" = some (some (.ref fI)) ∧ PySem.W.typeIn K (.ref fI) = some (.type "function") ∧
    FnOk P w K mg base (L2.CX P w) 1 fI fd ps (spIni K b f) ∧ Binds K fd ps []
section
variable {X : Cx} {xp : XP} {W : WX} {B : List Addr} {x f : Str} {e : Expr} {fe : Sto → Rs D} {p pos pos2 : Pos}
/-- C(e) -/
def tMk1 (C : Addr) (f : Str) (te : TE) : L2.St → Hp → XK → Prop := fun σ H Q => te σ H fun v H1 => ∀ d, H1 d = none → Q (.ref C) (some d) (upd H1 d (.xd [(f, v)]))
theorem pmk1 {te : TE} {k : Nat} (c : ExCls X.prog X.w X.K X.mg X.base x f) (room : Room k X.A) (hk : 2 ≤ k) (hg : Gl X x) (hdb : (x == ("__debug__" : Str)) = false) (he : PE X e te) (hs : starEach [e] X.env = (false, eval e X.env) :: starEach [] X.env) :
    ∃ C, X.mg x = some (.ref C) ∧ PMk X (.Call (.Name x p) [e] [] pos) (tMk1 C f te) := by
  obtain ⟨b, C, fI, fd, ps, gC, oc, iC, tI, FI, bI⟩ := c.is
  refine ⟨C, gC, ?_⟩
  intro pins s σ H Q I h
  obtain ⟨nm, N, qn, bs, bm, hdct, sn, sub, ab, col, dd, k0, k1, k2, k3, k5, hC0, hT⟩ := PySem.W.excInit_of I.kIn oc.ini
  let G : List V → Hp → Prop := fun vs H1 => match vs with
    | [v] => ∀ d, H1 d = none → Q (.ref C) (some d) (upd H1 d (.xd [(f, v)]))
    | _ => False
  refine wpAny_Call_Name_kw (ld_glob I hg gC ?_ hdb)
  refine PySem.W.callWith_K (h₀ := X.base) I.ok.mod.kin oc.kC (thn ((pa_cons he pa_nil hs).run pos pins s σ H G I h) ?_) hs rfl
  rintro us s1 ⟨vs, H1, I1, r1, q1⟩
  refine ⟨I1.kIn, ?_⟩
  show wpAny _ _ (call (.ref C) us) _ _ _
  match vs, us, r1, q1 with
  | [v], [u], .cons ru .nil, q1 =>
    have q1 : ∀ d, H1 d = none → Q (.ref C) (some d) (upd H1 d (.xd [(f, v)])) := q1
    obtain ⟨nm, N, qn, bs, bm, hdct, sn, sub, ab, col, dd, k0, k1, k2, k3, k5, hC, hT⟩ := PySem.W.excInit_of I1.kIn oc.ini
    obtain ⟨hp, g, dr, tk, os⟩ := s1
    have above : hp.objs.size ≤ hp.objs.size + 1 := Nat.le_succ _
    have free : H1 (hp.objs.size + 1) = none := I1.hok.fresh above
    have keep : ∀ b o, hp.get? b = some o → ((hp.push (PySem.W.kdv_tup [u])).push (PySem.HandSPX.excO C hp.objs.size)).get? b = some o := fun b o z => Heap.get?_push_of_some _ (Heap.get?_push_of_some _ z)
    have made : ((hp.push (PySem.W.kdv_tup [u])).push (PySem.HandSPX.excO C hp.objs.size)).get? (hp.objs.size + 1) = some (PySem.HandSPX.excO C hp.objs.size) := by heap_get
    have I2 : L2.Inv X pins σ (upd H1 (hp.objs.size + 1) (exo (hp.objs.size + 1) C none)) ⟨(hp.push (PySem.W.kdv_tup [u])).push (PySem.HandSPX.excO C hp.objs.size), g, dr, tk, os⟩ :=
      I1.laid (t' := tk) (a := hp.objs.size + 1) (o := exo (hp.objs.size + 1) C none) keep above (exo_ok made)
    have r2 : Vals [V.ref (hp.objs.size + 1), v] [Value.ref (hp.objs.size + 1), u] := .cons rfl (.cons ru .nil)
    -- what __init__ leaves
    let Q2 : VK := fun z H2 => z = .non ∧ ∃ dx, H1 dx = none ∧ dx ≠ hp.objs.size + 1 ∧ H2 = upd (upd (upd H1 (hp.objs.size + 1) (exo (hp.objs.size + 1) C none)) dx (exd dx [(f, v)])) (hp.objs.size + 1) (exo (hp.objs.size + 1) C (some dx))
    have prom : spIni X.K b f [V.ref (hp.objs.size + 1), v] (upd H1 (hp.objs.size + 1) (exo (hp.objs.size + 1) C none)) Q2 (fun _ _ _ => False) :=
      ⟨_, C, v, rfl, oc, upd_same, fun dx n ne => ⟨rfl, dx, by rw [upd_ne ne] at n; exact n, ne, rfl⟩⟩
    have len : ([Value.ref (hp.objs.size + 1), u] ++ ([] : List Value)).length = ps.length := by
      have z := FI.len _ _ _ _ prom
      rw [← z]; rfl
    have room2 : Room 1 (X.A.under (.builtin "type.__call__" ⟨.ref C :: [u], []⟩)) := (room.mono hk).make C [u] []
    refine wpAny_call (PySem.HandSPX.call_own b.facts hT hC (PySem.W.looks_findIn I1.kIn iC) (fun self => PySem.W.bind_fn I1.kIn self tI) (by show 1 ≤ sizeLine; decide) (codeAny_mono
      (FI.run _ X.stack _ _ ⟨[Value.ref (hp.objs.size + 1), u], []⟩ [Value.ref (hp.objs.size + 1), u] _ Q2 (fun _ _ _ => False) room2 (I2.env0.make C [u] []) (by have z := bI ⟨(hp.push (PySem.W.kdv_tup [u])).push (PySem.HandSPX.excO C hp.objs.size), g, dr, tk, os⟩ [Value.ref (hp.objs.size + 1), u] I2.kIn len; rw [List.append_nil] at z; exact z) r2 prom) ?_))
    intro r s' out
    match r, out with
    | .error er, out =>
      obtain ⟨_, _, _, _, _, _, _, _, _, _, _, _, z⟩ := out
      exact z.elim
    | .ok .next, out => exact out.elim
    | .ok .brk, out => exact out.elim
    | .ok .cont, out => exact out.elim
    | .ok (.ret z), out =>
      obtain ⟨vz, H2, os2, bare2, un2, hok2, rz, ⟨rfl, dx, nd, ne, rfl⟩⟩ := out
      obtain ⟨h2, g2, d2, t2, os'⟩ := s'
      refine ⟨rz, mk_end (raises_own oc.exC oc.tyC) I1 above keep un2 hok2 os2 bare2 upd_same (by rw [upd_ne ne, upd_same]) nd ?_⟩
      have same : upd (del (upd (upd (upd H1 (hp.objs.size + 1) (exo (hp.objs.size + 1) C none)) dx (exd dx [(f, v)])) (hp.objs.size + 1) (exo (hp.objs.size + 1) C (some dx))) (hp.objs.size + 1)) dx (.xd [(f, v)]) = upd H1 dx (.xd [(f, v)]) := by
        funext c
        by_cases h1 : c = dx
        · rw [h1, upd_same, upd_same]
        · rw [upd_ne h1, upd_ne h1]
          by_cases h2 : c = hp.objs.size + 1
          · rw [h2, del_same, free]
          · rw [del_ne h2, upd_ne h2, upd_ne h1, upd_ne h2]
      rw [same]
      exact q1 dx nd
/-- raise C(e) -/
theorem cst_raise {k : Nat} (hc : X.calm = true) (tk : Takes X W) (c : ExCls X.prog X.w X.K X.mg X.base x f) (room : Room k X.A) (hk : 2 ≤ k) (hg : Gl X x) (hdb : (x == ("__debug__" : Str)) = false) (he : CE X xp W e fe) (hs : starEach [e] X.env = (false, eval e X.env) :: starEach [] X.env) :
    CSt X xp W B (.Raise (some (.Call (.Name x p) [e] [] pos)) none pos2) (fun ρ => .ofR (fe ρ) ρ fun d => .ex ⟨x, f, d⟩ ρ) := by
  obtain ⟨C, gC, mk⟩ := pmk1 (p := p) (pos := pos) c room hk hg hdb he hs
  refine ps_imp (ps_raise hc tk mk) fun T σ H ⟨ρ, O, fr, q⟩ => ⟨ρ, O ++ B, fr.rel, (EndS.ofR q fr).imp fun d H' _ s k v hv dx nd => ?_⟩
  have sm : Same H' (upd H' dx (.xd [(f, v)])) := same_new nd
  refine k σ _ O (.ref C) (some dx) (Stp.same sm) ((fr.mono s).mono sm) ⟨C, dx, v, rfl, rfl, gC, ?_, dp_mono (msk_same sm) hv⟩
  rw [msk_out ((fr.rel.thr.same s).out nd)]
  exact upd_same
end
end Pf

set_option Elab.async false
set_option linter.all false
set_option maxRecDepth 100000
/-! A caught exception: isinstance of it, its attribute. -/
namespace Pf
open PySem PySem.Spec PyProof.Rows L2

/-- what an own class says, so that its instances are asked -/
structure Ask (K : PySem.W.Frag) (D : Addr) (f : Str) : Prop where
  ga : PySem.W.findIn K (.ref D) "__getattribute__" = some (some (.builtin "BaseException.__getattribute__"))
  gg : PySem.W.findIn K (.ref D) "__getattr__" = some none
  sub : PySem.W.subIn K (.ref D) (.type "BaseException") = some true
  dct : PySem.W.hasDictIn K D = true
  cls : PySem.W.findIn K (.ref D) "__class__" = some (some (.builtin "object.__class__"))
  get : PySem.W.specialIn K (.builtin "object.__class__") "__get__" = some (some (.builtin "getset_descriptor.__get__"))
  tak : PySem.W.takesIn K (.builtin "object.__class__") = some true
  mro : PySem.W.mroIn K D (.type "object") = some true
  no : PySem.W.findIn K (.ref D) f = some none
def askB (K : PySem.W.Frag) (D : Addr) (f : Str) : Bool :=
  decide (PySem.W.findIn K (.ref D) "__getattribute__" = some (some (.builtin "BaseException.__getattribute__"))) && decide (PySem.W.findIn K (.ref D) "__getattr__" = some none) && decide (PySem.W.subIn K (.ref D) (.type "BaseException") = some true) &&
    PySem.W.hasDictIn K D && decide (PySem.W.findIn K (.ref D) "__class__" = some (some (.builtin "object.__class__"))) && decide (PySem.W.specialIn K (.builtin "object.__class__") "__get__" = some (some (.builtin "getset_descriptor.__get__"))) &&
    decide (PySem.W.takesIn K (.builtin "object.__class__") = some true) && decide (PySem.W.mroIn K D (.type "object") = some true) && decide (PySem.W.findIn K (.ref D) f = some none)
theorem ask_of {K : PySem.W.Frag} {D : Addr} {f : Str} (h : askB K D f = true) : Ask K D f := by
  unfold askB at h
  simp only [Bool.and_eq_true, decide_eq_true_eq] at h
  obtain ⟨⟨⟨⟨⟨⟨⟨⟨h1, h2⟩, h3⟩, h4⟩, h5⟩, h6⟩, h7⟩, h8⟩, h9⟩ := h
  exact ⟨h1, h2, h3, h4, h5, h6, h7, h8, h9⟩
section
open PySem.W PySem.Calls
variable {prog : Program} {w : World} {A : Around} {E : Value → Shared → Prop} {s : Shared} {K : Frag} {x D : Addr} {ox : Obj} {f : Str}
theorem any_cls {p : ClassData → Bool} (h : (clsIn K D).any p = true) : ∃ cd, clsIn K D = some cd := by
  cases e : clsIn K D with
  | none => rw [e] at h; cases h
  | some cd => exact ⟨cd, rfl⟩
theorem find_class {od : Option Obj} (c : Ask K D f) : findObj K D od "__class__" = some (.bind (.builtin "getset_descriptor.__get__") (.builtin "object.__class__")) := by
  obtain ⟨cd, hc⟩ := any_cls c.dct
  unfold findObj
  rw [hc, Option.bind_some, c.cls, Option.bind_some]
  simp [c.get, c.tak]
/-- its class, asked by name -/
theorem class_of {od : Option Obj} {Q : Option Value → Shared → Prop} (c : Ask K D f) (inK : K.In s.heap) (I : InstAt s.heap x ox D od) (h : Q (some (.ref D)) { s with toks := s.toks + 1 }) : wpAny (model prog w) A (getAttr? (.ref x) "__class__") Q E s := by
  obtain ⟨hp, g, d, t, os⟩ := s
  have ty := I.type (M := model prog w)
  have l1 := looks_findIn (M := model prog w) inK c.ga
  have l2 := looks_findIn (M := model prog w) inK c.gg
  have l3 := looks_find (M := model prog w) inK I (find_class c)
  have sub : Looks (model prog w) hp (isInstance (.ref x) (.type "BaseException")) true := ty.andThen (looks_subIn inK c.sub)
  have n2 : (Value.builtin "BaseException.__getattribute__" == Value.builtin "object.__getattribute__") = false := by decide +kernel
  have n1 : (onTheHeap (Value.ref D) && Value.builtin "BaseException.__getattribute__" == Value.builtin "object.__getattribute__") = false := by rw [n2, Bool.and_false]
  have n0 : (false && onTheHeap (Value.builtin "BaseException.__getattribute__")) = false := Bool.false_and _
  unfold getAttr? getAttrBy? getAttrBy
  refine wpAny_bind (wpAny_mkText (wpAny_bind (wpAny_attempt (wpAny_holding (wpAny_bind (ty.at (wpAny_bind (l1.at ?_))))))))
  show wpAny _ _ (if (onTheHeap (Value.ref D) && Value.builtin "BaseException.__getattribute__" == Value.builtin "object.__getattribute__") = true then _ else _) _ _ _
  rw [n1, if_neg Bool.false_ne_true]
  unfold getAttrByItsOwn hookBefore
  refine wpAny_bind ?_
  rw [if_pos (show onTheHeap (Value.ref D) = true from rfl)]
  refine l2.at (wpAny_bind (wpAny_attempt (wpAny_holding ?_)))
  unfold callGetattribute
  rw [n0, if_neg Bool.false_ne_true]
  unfold boundAndCalled
  rw [PySem.F.excAttr_ValueError.ga.bind (.ref x)]
  refine wpAny_bind (wpAny_pure ?_)
  show wpAny _ _ (call (.builtin "BaseException.__getattribute__") [.ref x, .str "__class__" t]) _ _ _
  refine wpAny_call (codeAny_call_builtin PySem.F.excAttr_ValueError.ga.plain PySem.F.entry_bexc_ga ?_)
  refine @check_slot (model prog w) _ _ ⟨hp, g, d, t + 1, os⟩ "BaseException.__getattribute__" "BaseException" "__getattribute__" (.ref x) [.str "__class__" t] [] _ (by decide +kernel) (by decide +kernel) sub (PySem.F.args_bexc_ga (.ref x) (.str "__class__" t)) ?_
  unfold Builtin.«object.__getattribute__»
  refine wpAny_bind (wpAny_of_eq (a := ((Value.ref x : Value), [Value.str "__class__" t])) (by first | rfl | (simp only [slotArgs]; rfl)) ?_)
  refine wpAny_bind (wpAny_pure (wpAny_bind (ty.at (wpAny_bind (l3.at ?_)))))
  show wpAny _ _ (holding [Value.builtin "object.__class__"] (call (.builtin "getset_descriptor.__get__") [.builtin "object.__class__", .ref x, .ref D]) >>= ret) _ _ _
  refine wpAny_bind (wpAny_holding (wpAny_call (class_get (s := ⟨hp, g, d, t + 1, os⟩) (ox := ox) (od := od) inK I c.mro ?_)))
  refine wpAny_pure ?_
  show wpAny _ _ (handedOut (.ref D)) _ _ _
  rw [handedOut_of (v := .ref D) rfl]
  first
    | exact wpAny_pure (wpAny_pure h)
    | exact wpAny_pure h
    | exact wpAny_pure (wpAny_bind (wpAny_pure (wpAny_pure h)))
theorem kit_exc (c : Ask K D f) : KitX K (.ref x) (.ref D) (fun h => ∃ od, InstAt h x ox D od) := by
  obtain ⟨cd, hc⟩ := any_cls c.dct
  have there : ∃ c' d' cd' sl', K.lookup D = some ⟨c', d', .cls cd', sl'⟩ := by
    unfold clsIn at hc
    split at hc
    · rename_i c' d' cd' sl' ho
      exact ⟨c', d', cd', sl', ho⟩
    · cases hc
  obtain ⟨c', d', cd', sl', ho⟩ := there
  exact {
    ty := fun _ _ _ ⟨_, I⟩ => I.type
    it := fun _ _ inK _ => by
      intro A' Q' E' s' k q
      unfold isType loadHead
      exact wpAny_bind (wpAny_loadPart (k _ _ (inK _ _ ho)) (wpAny_pure q))
    ne := fun h tp dd its n sl inK htp => by
      cases e : (Value.ref D == Value.ref tp) with
      | false => rfl
      | true =>
        have e : D = tp := Value.ref.inj (beq_iff_eq.mp e)
        rw [← e] at htp
        cases (inK _ _ ho).symm.trans htp
    ca := fun inK ⟨_, I⟩ k => class_of c inK I k }
end
section
variable {X : Cx} {a D dd : Addr} {oe : Obj} {pn : List (Addr × Obj)} {f : Str}
/-- isinstance(e, c), e caught -/
def rIsX (K : PySem.W.Frag) (D a dd : Addr) : List V → Hp → VK → Prop := fun xs H Q => ∃ (c : V) (cv : Value) (b : Bool) (fs : List (Str × V)), xs = [.ref a, c] ∧ (∀ u, L2.RelV c u → u = cv) ∧ H dd = some (.xd fs) ∧ PySem.W.kitOne K (.ref D) cv = some b ∧ Q (.bl b) H
theorem inst_of {pins : List (Addr × Obj)} {σ : L2.St} {H : Hp} {s : Shared} {fs : List (Str × V)} (hz : Zc (.ref D) (some dd) oe) (hf : ∃ vs, oe.data = .fields vs) (I : L2.Inv (X.suite a ((a, oe) :: pn)) pins σ H s) (e : H dd = some (.xd fs)) : ∃ od, PySem.W.InstAt s.heap a oe D od := by
  obtain ⟨there, _⟩ := I.pin (a, oe) (List.mem_append.mpr (.inl List.mem_cons_self))
  obtain ⟨vs, hv⟩ := hf
  have k : ObjOk X.prog X.w H s.heap dd (.xd fs) := I.hok dd _ e
  obtain ⟨mA, ⟨od, es, ep, hod, _⟩, _⟩ := k
  refine ⟨some od, ?_⟩
  obtain ⟨oc, oo, oda, osl⟩ := oe
  obtain ⟨h1, h2⟩ := hz
  dsimp only at h1 h2 hv
  subst h1 h2 hv
  exact ⟨there, rfl, rfl, hod⟩
theorem call_isX (c : Ask X.K D f) (hz : Zc (.ref D) (some dd) oe) (hf : ∃ vs, oe.data = .fields vs) : CallR (X.suite a ((a, oe) :: pn)) (.builtin "isinstance") (rIsX X.K D a dd) := by
  intro pins s σ H xs us Q I r h
  obtain ⟨cl, cv, b, fs, rfl, hcv, hd, e, q⟩ := h
  match us, r with
  | [_, _], .cons rx (.cons rt .nil) =>
    cases rx
    obtain rfl := hcv _ rt
    exact PySem.W.kia_one (kit_exc c) I.kIn (inst_of hz hf I hd) e (fun z => nomatch z) fun tk => ⟨.bl b, H, I.kept (t' := tk) fun _ _ z => z, rfl, q⟩
end
/-- how the exception in slot i stands -/
def getX (ρ : Sto) (i : Nat) : Rs EX := match ρ[i]? with
  | some (some (.exc e)) => .ok e
  | _ => .bad
/-- is x a subclass of y (both by name)? -/
def SubIs (K : PySem.W.Frag) (mg : Str → Option Value) (x y : Str) (b : Bool) : Prop := ∃ (C : Addr) (c : Value), mg x = some (.ref C) ∧ (mg y = some c ∨ (mg y = none ∧ bootBuiltins y = some c ∧ y ≠ "__name__")) ∧ (∃ v : V, L2.RelV v c ∧ ∀ u, L2.RelV v u → u = c) ∧
  PySem.W.exmOne K (.ref C) c = some b ∧ PySem.W.kitOne K (.ref C) c = some b
section
variable {X : Cx} {a dd : Addr} {oe : Obj} {D : Addr} {pn : List (Addr × Obj)} {x y n f : Str} {p p1 p2 pos : Pos} {i : Nat}
abbrev Su (X : Cx) (a : Addr) (oe : Obj) (pn : List (Addr × Obj)) : Cx := X.suite a ((a, oe) :: pn)
/-- e.f -/
theorem ce_xat (c : Ask X.K D f) (hz : Zc (.ref D) (some dd) oe) (hf : ∃ vs, oe.data = .fields vs) (hN : X.N[i]? = some n) (hv : Vis X.env.scope n) (hd : (n == ("__debug__" : Str)) = false) (hcd : (n == ("__classdict__" : Str)) = false)
    (hb : attributeBase (.Name n p) f X.env (eval (.Name n p) X.env) = eval (.Name n p) X.env) :
    CE (Su X a oe pn) (some (a, dd, x)) W0 (.Attribute (.Name n p) f pos) (fun ρ => (getX ρ i).bind fun e => if e.attr = f then .ok e.val else .bad) :=
  pe_imp (pe_xf (X := X) (pn := pn) ⟨c.ga, c.gg, c.sub, c.dct⟩ c.no hz hf (pe_var hN hv hd hcd) hb) fun σ H Q ⟨ρ, O, R, q⟩ => by
    have q : End X.K X.mg W0 O σ H (fun d H' => ∀ v, Dn X.K (msk H' O) v d → Q v H') ((getX ρ i).bind fun e => if e.attr = f then .ok e.val else .bad) := q
    unfold getX at q
    split at q
    · rename_i e h
      obtain ⟨v, h1, a', dd', w, h2, rfl, h4, h5⟩ := R.at_ i _ h
      cases h2
      have q : End X.K X.mg W0 O σ H (fun d H' => ∀ v, Dn X.K (msk H' O) v d → Q v H') (if e.attr = f then Rs.ok e.val else .bad) := q
      obtain ⟨ea, q9⟩ := end_ite q
      exact ⟨_, h1, rfl, rfl, dd, _, w, rfl, msk_sub _ _ h4, by simp [List.lookup, ea], q9.ok w h5⟩
    · exact q.elim
/-- isinstance(e, y) -/
theorem ce_xis {sb : Str → Str → Option Bool} (c : Ask X.K D f) (hz : Zc (.ref D) (some dd) oe) (hf : ∃ vs, oe.data = .fields vs) (hN : X.N[i]? = some n) (hv : Vis X.env.scope n) (hd : (n == ("__debug__" : Str)) = false) (hcd : (n == ("__classdict__" : Str)) = false)
    (hg : Gl X "isinstance") (hm : X.mg "isinstance" = none) (hgy : Gl X y) (hdy : (y == ("__debug__" : Str)) = false) (xD : X.mg x = some (.ref D)) (sub : ∀ b, sb x y = some b → SubIs X.K X.mg x y b) :
    CE (Su X a oe pn) (some (a, dd, x)) W0 (.Call (.Name "isinstance" p) [.Name n p1, .Name y p2] [] pos) (fun ρ => (getX ρ i).bind fun e => opt (sb e.cls y) PyData.bool) := by
  cases es : sb x y with
  | none =>
    refine ⟨fun pins s σ H Q I ⟨ρ, O, R, q⟩ => ?_⟩
    have q : End X.K X.mg W0 O σ H (fun d H' => ∀ v, Dn X.K (msk H' O) v d → Q v H') ((getX ρ i).bind fun e => opt (sb e.cls y) PyData.bool) := q
    unfold getX at q
    split at q
    · rename_i e h
      obtain ⟨v, h1, a', dd', w, h2, rfl, h4', h5⟩ := R.at_ i _ h
      cases h2
      have q : End X.K X.mg W0 O σ H (fun d H' => ∀ v, Dn X.K (msk H' O) v d → Q v H') (opt (sb e.cls y) PyData.bool) := q
      rw [es] at q
      exact q.elim
    · exact q.elim
  | some b =>
    obtain ⟨C, cv, h1, h2, ⟨vc, r1, r2⟩, _, h4⟩ := sub b es
    rw [xD] at h1
    cases h1
    have py : PE (Su X a oe pn) (.Name y p2) (tC vc) := h2.elim (fun m => pe_glob hgy m r1 hdy) fun m => pe_bltn hgy m.1 m.2.1 r1 m.2.2 hdy
    refine pe_imp (pe_callB (call_isX c hz hf) hg hm rfl (pa_cons (pe_var hN hv hd hcd) (pa_cons py pa_nil rfl) rfl) (by decide) (by decide) rfl rfl) fun σ H Q ⟨ρ, O, R, q⟩ => ?_
    have q : End X.K X.mg W0 O σ H (fun d H' => ∀ v, Dn X.K (msk H' O) v d → Q v H') ((getX ρ i).bind fun e => opt (sb e.cls y) PyData.bool) := q
    unfold getX at q
    split at q
    · rename_i e h
      obtain ⟨v, h1, a', dd', w, h2, rfl, h4', h5⟩ := R.at_ i _ h
      cases h2
      have q : End X.K X.mg W0 O σ H (fun d H' => ∀ v, Dn X.K (msk H' O) v d → Q v H') (opt (sb e.cls y) PyData.bool) := q
      rw [es] at q
      exact ⟨_, h1, vc, cv, b, _, rfl, r2, msk_sub _ _ h4', h4, q.ok _ (.bl b)⟩
    · exact q.elim
end
end Pf

set_option Elab.async false
set_option linter.all false
set_option maxRecDepth 100000
/-! try .. except. -/
namespace Pf
open PySem PySem.Spec PyProof.Rows L2

def isX : Option SV → Bool
  | some (.exc _) => true
  | _ => false
def noX (ρ : Sto) : Bool := ρ.all fun s => !isX s
def clean (i : Nat) (ρ : Sto) (k : Sto → Out) : Out := if noX (ρ.set i none) = true then k (ρ.set i none) else .bad
/-- the end of an except suite -/
def leave (i : Nat) : Out → Out
  | .nx ρ => clean i ρ .nx
  | .bk ρ => clean i ρ .bk
  | .ct ρ => clean i ρ .ct
  | .rt d => .rt d
  | .ex _ _ => .bad
  | .bad => .bad
def tryF (sub : Str → Option Bool) (att : Str → Option Str) (i : Nat) (body suite : Sto → Out) : Sto → Out := fun ρ => match body ρ with
  | .ex e ρ' => match sub e.cls with
    | some true => if att e.cls = some e.attr then leave i (suite (ρ'.set i (some (.exc e)))) else .bad
    | some false => .ex e ρ'
    | none => .bad
  | o => o
section
variable {K : PySem.W.Frag} {mg : Str → Option Value} {xp : XP} {B O : List Addr} {σ : L2.St} {H : Hp} {ρ : Sto} {i : Nat}
theorem noX_at (h : noX ρ = true) {e : EX} (q : ρ[i]? = some (some (.exc e))) : False := by
  have := List.all_eq_true.mp h _ (List.mem_of_getElem? q)
  cases this
theorem Fr.toX (fr : Fr K none B σ H ρ O) : Fr K xp B σ H ρ O :=
  ⟨⟨fr.rel.len, (fun j s h => by
    obtain ⟨v, h1, h2⟩ := fr.rel.at_ j s h
    refine ⟨v, h1, ?_⟩
    cases s with
    | pd d => exact h2
    | own xs => exact h2
    | exc e =>
      obtain ⟨_, _, _, z, _⟩ := h2
      cases z), fr.rel.inj, fr.rel.thr⟩, fr.own⟩
theorem Fr.ofX (fr : Fr K xp B σ H ρ O) (n : noX ρ = true) : Fr K none B σ H ρ O :=
  ⟨⟨fr.rel.len, (fun j s h => by
    obtain ⟨v, h1, h2⟩ := fr.rel.at_ j s h
    refine ⟨v, h1, ?_⟩
    cases s with
    | pd d => exact h2
    | own xs => exact h2
    | exc e => exact (noX_at n h).elim), fr.rel.inj, fr.rel.thr⟩, fr.own⟩
theorem Fr.unset (fr : Fr K xp B σ H ρ O) (i : Nat) : Fr K xp B (σ.set i none) H (ρ.set i none) O :=
  ⟨fr.rel.unset i none, fun j xs a q1 q2 => by
    rcases get_set q1 with ⟨_, e⟩ | ⟨ne, e⟩
    · cases e
    · rw [List.getElem?_set_ne ne] at q2
      exact fr.own j xs a e q2⟩
theorem Fr.setX {a dd : Addr} {e : EX} {w : V} (fr : Fr K (some (a, dd, e.cls)) B σ H ρ O) (h : msk H (O ++ B) dd = some (.xd [(e.attr, w)])) (hw : Dn K (msk H (O ++ B)) w e.val) : Fr K (some (a, dd, e.cls)) B (σ.set i (some (.ref a))) H (ρ.set i (some (.exc e))) O := by
  have r := fr.rel
  refine ⟨⟨by simp [r.len], fun j s q => ?_, fun j k xs ys v q1 q2 p1 p2 => ?_, r.thr⟩, fun j xs b q1 q2 => ?_⟩
  · rcases get_set q with ⟨rfl, z⟩ | ⟨ne, z⟩
    · cases z
      have hl : i < σ.length := by rw [r.len]; have := (List.getElem?_eq_some_iff.mp q).1; simpa using this
      exact ⟨_, List.getElem?_set_self hl, a, dd, w, rfl, rfl, h, hw⟩
    · rw [List.getElem?_set_ne ne]
      exact r.at_ j s z
  · rcases get_set q1 with ⟨_, z⟩ | ⟨ne, z⟩
    · cases z
    · rcases get_set q2 with ⟨_, z'⟩ | ⟨ne', z'⟩
      · cases z'
      · rw [List.getElem?_set_ne ne] at p1
        rw [List.getElem?_set_ne ne'] at p2
        exact r.inj j k xs ys v z z' p1 p2
  · rcases get_set q1 with ⟨_, z⟩ | ⟨ne, z⟩
    · cases z
    · rw [List.getElem?_set_ne ne] at q2
      exact fr.own j xs b z q2
end
section
variable {X : Cx} {W : WX} {B : List Addr} {sub : Str → Option Bool} {att : Str → Option Str} {i : Nat} {f g : Sto → Out} {body suite : List Stmt} {b₀ : Stmt} {x n : Str} {c : Value} {np pos pos' : Pos}
/-- what is known of the classes that may be caught -/
structure Caught (X : Cx) (c : Value) (sub : Str → Option Bool) (att : Str → Option Str) : Prop where
  sub : ∀ y b, sub y = some b → ∃ C, X.mg y = some (.ref C) ∧ PySem.W.exmOne X.K (.ref C) c = some b
  att : ∀ y f, att y = some f → ∃ C, X.mg y = some (.ref C) ∧ Ask X.K C f
def tsF (X : Cx) (B : List Addr) (att : Str → Option Str) (g : Sto → Out) (a : Addr) (cls : Value) (d : Option Addr) : TS := fun T σ H => ∃ D dd y f, cls = .ref D ∧ d = some dd ∧ X.mg y = some (.ref D) ∧ att y = some f ∧ Ask X.K D f ∧ rdSt X.K X.mg (some (a, dd, y)) W0 B g T σ H
theorem endS_leave {T : Ends} {H : Hp} {O : List Addr} {xp : XP} {o : Out} (h : EndS X.K X.mg none W B T H O (leave i o)) :
    EndS X.K X.mg xp W0 B { nx := fun σ' H' => T.nx (σ'.set i none) H', rt := T.rt, bk := fun σ' H' => T.bk (σ'.set i none) H', ct := fun σ' H' => T.ct (σ'.set i none) H' } H O o := by
  cases o with
  | nx ρ =>
    obtain ⟨n, h⟩ := endS_ite (show EndS X.K X.mg none W B T H O (if noX (ρ.set i none) = true then Out.nx (ρ.set i none) else .bad) from h)
    exact fun σ' H' O' s fr => h _ H' O' s ((fr.unset i).ofX n)
  | bk ρ =>
    obtain ⟨n, h⟩ := endS_ite (show EndS X.K X.mg none W B T H O (if noX (ρ.set i none) = true then Out.bk (ρ.set i none) else .bad) from h)
    exact fun σ' H' O' s fr => h _ H' O' s ((fr.unset i).ofX n)
  | ct ρ =>
    obtain ⟨n, h⟩ := endS_ite (show EndS X.K X.mg none W B T H O (if noX (ρ.set i none) = true then Out.ct (ρ.set i none) else .bad) from h)
    exact fun σ' H' O' s fr => h _ H' O' s ((fr.unset i).ofX n)
  | rt d => exact h
  | ex e ρ => exact h.elim
  | bad => exact h
theorem endS_try {T : Ends} {H : Hp} {O : List Addr} {o : Out} (cau : Caught X c sub att)
    (h : EndS X.K X.mg none W B T H O (match o with
      | .ex e ρ' => match sub e.cls with
        | some true => if att e.cls = some e.attr then leave i (g (ρ'.set i (some (.exc e)))) else .bad
        | some false => .ex e ρ'
        | none => .bad
      | o => o)) : EndS X.K X.mg none (wAs X.K c i (tsF X B att g) W T) B T H O o := by
  cases o with
  | nx ρ => exact h
  | bk ρ => exact h
  | ct ρ => exact h
  | rt d => exact h
  | bad => exact h
  | ex e ρ1 =>
    intro σ' H' O' cls d st fr ⟨C, dd, w, e1, e2, gC, hdd, hw⟩
    subst e1; subst e2
    have h : EndS X.K X.mg none W B T H O (match sub e.cls with
        | some true => if att e.cls = some e.attr then leave i (g (ρ1.set i (some (.exc e)))) else .bad
        | some false => .ex e ρ1
        | none => .bad) := h
    cases es : sub e.cls with
    | none => rw [es] at h; exact h.elim
    | some b =>
      rw [es] at h
      obtain ⟨C', g1, ex⟩ := cau.sub _ _ es
      rw [gC] at g1
      cases g1
      refine ⟨b, ex, fun eb a na => ?_, fun eb => ?_⟩
      · subst eb
        obtain ⟨ea, h⟩ := endS_ite (show EndS X.K X.mg none W B T H O (if att e.cls = some e.attr then leave i (g (ρ1.set i (some (.exc e)))) else .bad) from h)
        obtain ⟨C2, g2, ask⟩ := cau.att _ _ ea
        rw [gC] at g2
        cases g2
        exact ⟨C, dd, e.cls, e.attr, rfl, rfl, gC, ea, ask, _, O', Fr.setX (fr.toX) hdd hw, endS_leave (h.grow st)⟩
      · subst eb
        exact h σ' H' O' _ _ st fr ⟨C, dd, w, rfl, rfl, gC, hdd, hw⟩
/-- try: body, except x as n: suite -/
theorem cst_tryAs (hs : X.stack = X.env :: X.outer) (hf : X.env.frame = some X.env.locals) (hN : X.N.Nodup) (hi : X.N[i]? = some n) (hln : X.env.kindOf n = some .local) (hc : Names X x c) (tk : Takes X W) (cau : Caught X c sub att)
    (hb : ∀ (W' : WX) (pn : List (Addr × Obj)) (xe : Value → Shared → Prop), Takes (X.tr pn xe) W' → PassesOwn (model X.prog X.w) X.A X.env xe → CSs (X.tr pn xe) none W' B body f)
    (hsu : ∀ (a D dd : Addr) (oe : Obj) (y fl : Str) (pn : List (Addr × Obj)), Zc (.ref D) (some dd) oe → (∃ vs, oe.data = .fields vs) → X.mg y = some (.ref D) → att y = some fl → Ask X.K D fl → CSs (Su X a oe pn) (some (a, dd, y)) W0 B (b₀ :: suite) g) :
    CSt X none W B (.Try body [.ExceptHandler (some (.Name x np)) (some n) (b₀ :: suite) pos'] [] [] pos) (tryF sub att i f g) := by
  refine ps_imp (ps_try_as (tb := fun W' => rdSt X.K X.mg none W' B f) (ts := tsF X B att g) hs hf hN hi hln hc tk hb fun a oe cls d pn hz hv => ⟨?_⟩) fun T σ H ⟨ρ, O, fr, q⟩ => ⟨ρ, O, fr, endS_try cau q⟩
  rintro pins s σ H T I ⟨D, dd, y, fl, rfl, rfl, gy, ay, ask, h⟩
  exact (hsu a D dd oe y fl pn hz hv gy ay ask).run pins s σ H T I h
end
end Pf

set_option Elab.async false
set_option linter.all false
set_option maxRecDepth 100000
/-! set(xs), xs a list of ints and texts. -/
namespace Pf
open PySem PySem.Spec PyProof.Rows L2

/-- the keys met so far -/
def met (ks : List Key) : List Key := ks.foldl addK []
theorem foldK_len : ∀ (ks acc : List Key), (ks.foldl addK acc).length ≤ acc.length + ks.length
  | [], acc => Nat.le_refl _
  | k :: ks, acc => by
    have h1 := foldK_len ks (addK acc k)
    have h2 := addK_le acc k
    show (ks.foldl addK (addK acc k)).length ≤ acc.length + (ks.length + 1)
    omega
theorem met_len (ks : List Key) : (met ks).length ≤ ks.length := by
  have := foldK_len ks []
  simpa [met] using this
theorem met_snoc (ks : List Key) (k : Key) : met (ks ++ [k]) = addK (met ks) k := by
  unfold met
  rw [List.foldl_append]
  rfl
abbrev metB (ks : List Key) : Key → Bool := fun j => decide (j ∈ met ks)
section
variable {prog : Program} {w : World} {A : Around} {R : Result → Shared → Prop} {I S : Addr} {fp wr : List Addr} {G : Array GenState → Array GenState → Prop} {n : Nat} {P : Nat → Value → Prop} {St : Nat → Shared → Prop}
theorem set_at {h h' : Heap} {Z : Key → Bool} {m : Nat} (x : h.SetOf (mixKind prog w) S Z m) (k : ∀ o, h.get? S = some o → h'.get? S = some o) : h'.SetOf (mixKind prog w) S Z m := setOf_at x k
/-- the loop that fills a set -/
theorem fillK (W : WalksS prog w A.in1 I fp wr G n P St) (out : S ∉ fp) {ks : List Key} (len : ks.length = n) (few : n + 1 < scanBound)
    (at_ : ∀ i v, P i v → ∃ k, ks[i]? = some k ∧ RelV (kV k) v) :
    ∀ (left i : Nat) (s : Shared), n - i = left → i ≤ n → St i s → s.heap.SetOf (mixKind prog w) S (metB (ks.take i)) (met (ks.take i)).length →
      (∀ s', Moved (S :: wr) G s s' → s'.heap.SetOf (mixKind prog w) S (metB ks) (met ks).length → R (.ok (.ret .none)) s') →
      codeAny (model prog w) A (.builtin "set.update.loop" ⟨[.ref S, .ref I], []⟩) R s := by
  have notW : S ∉ wr := fun z => out (W.sub _ z)
  have wide : ∀ b ∈ wr, b ∈ S :: wr := fun b z => List.mem_cons_of_mem _ z
  intro left
  induction left with
  | zero =>
    intro i s e1 e2 st x fin
    obtain rfl : i = n := by omega
    refine codeAny_builtin PyProof.Rows.F.entry_set_update_loop ?_
    rw [Around.under_plainId PyProof.Rows.F.plain_set_update_loop _]
    show wpAny _ A.in1 (pyNext (.ref I) >>= _) _ _ s
    refine wpAny_bind (W.done s _ _ st fun s2 mv => ?_)
    show wpAny _ A.in1 (ret Value.none) _ _ s2
    rw [List.take_of_length_le (by omega)] at x
    exact wpAny_pure (fin s2 (mv.mono wide) (set_at x (mv.heap S · notW)))
  | succ left ih =>
    intro i s e1 e2 st x fin
    have lt : i < n := by omega
    refine codeAny_builtin PyProof.Rows.F.entry_set_update_loop ?_
    rw [Around.under_plainId PyProof.Rows.F.plain_set_update_loop _]
    show wpAny _ A.in1 (pyNext (.ref I) >>= _) _ _ s
    refine wpAny_bind (W.item i s _ _ lt st fun v s2 pv st2 mv => ?_)
    obtain ⟨k, ek, rk⟩ := at_ i v pv
    have x2 := set_at x (mv.heap S · notW)
    have is_ : (mixKind prog w).is k v = true := kV_is rk
    show wpAny _ A.in1 (holding [v] (setAdd S v) >>= _) _ _ s2
    refine wpAny_bind (wpAny_holding ?_)
    unfold setAdd
    refine wpAny_holding (wpAny_bind ((mixKind prog w).pyHash (k := k) is_ ?_))
    have room : (met (ks.take i)).length + 1 < scanBound := by
      have h1 := met_len (ks.take i)
      have h2 : (ks.take i).length ≤ n := by rw [List.length_take]; omega
      omega
    have tk : ks.take (i + 1) = ks.take i ++ [k] := by rw [List.take_add_one, ek]; rfl
    refine wpAny_setAddHashed_of (knd := mixKind prog w) (s := { s2 with toks := s2.toks + 1 }) is_ (key_scan rk) x2 room fun h2 sb x3 => ?_
    have x4 : h2.SetOf (mixKind prog w) S (metB (ks.take (i + 1))) (met (ks.take (i + 1))).length :=
      PyProof.Rows.SetOf_congr x3 (fun j => by
        have := congrFun (addK_mem (met (ks.take i)) k) j
        rw [tk]
        show (decide (j ∈ met (ks.take i)) || decide (j = k)) = decide (j ∈ met (ks.take i ++ [k]))
        rw [met_snoc]
        exact this) (by
        rw [tk, met_snoc, addK_len])
    refine wpAny_pure ⟨plainId_quiet PyProof.Rows.F.plain_set_update_loop _, ih (i + 1) _ (by omega) lt (W.frame _ s2 _ _ st2 (Nat.le_succ _) fun b hb o e => ?_) x4 fun s3 mv3 x5 => ?_⟩
    · rw [sb.2 b (fun z : b = S => out (z ▸ hb))]; exact e
    · refine fin s3 (Moved.trans W.gtrans ((mv.mono wide).then_heap (Nat.le_succ _) fun b o hb e => ?_) mv3) x5
      rw [sb.2 b (fun z : b = S => hb (z ▸ List.mem_cons_self))]; exact e
end
theorem keys_at : ∀ {ks : List Key} {us : List Value}, Vals (ks.map kV) us → ∀ (i : Nat) (v : Value), us[i]? = some v → ∃ k, ks[i]? = some k ∧ RelV (kV k) v
  | [], _, .nil, i, v, h => by simp at h
  | k :: ks, _, .cons r t, 0, v, h => ⟨k, rfl, by
    simp only [List.getElem?_cons_zero, Option.some.injEq] at h
    rw [← h]
    exact r⟩
  | k :: ks, _, .cons r t, i + 1, v, h => keys_at t i v (by simpa using h)
section
variable {prog : Program} {w : World} {A : Around} {E : Value → Shared → Prop} {s : Shared}
set_option maxHeartbeats 3200000 in
theorem set_of_list {l : Addr} {us : Array Value} {ks : List Key} {Q : Value → Shared → Prop} (calm : A.handled = none) (hl : s.heap.IsList l us) (rv : Vals (ks.map kV) us.toList) (few : ks.length + 1 < scanBound)
    (fin : ∀ (h' : Heap) (tk : Nat), h'.SetOf (mixKind prog w) s.heap.objs.size (metB ks) (met ks).length → (∀ b o, b < s.heap.objs.size → s.heap.get? b = some o → h'.get? b = some o) → Q (.ref s.heap.objs.size) { s with heap := h', toks := tk }) :
    wpAny (model prog w) A (call (.type "set") [.ref l]) Q E s := by
  have sz : ks.length = us.size := by
    have := rv.length
    rw [List.length_map, Array.length_toList] at this
    exact this
  obtain ⟨c, tl, k1⟩ := PySem.F.called_set.mro
  have k2 := PySem.F.called_set.made
  have k3 := PySem.F.called_set.sub
  refine wpAny_call (codeAny_of_tree ?_)
  show wpAny _ _ (callAny (.type "set") _) _ _ _
  refine wpAny_pure ⟨Code.quiet_builtin _ (by decide +kernel), codeAny_builtin PySem.F.entry_type_call ?_⟩
  rw [Around.under_plain (weight_type_call_type "set" [.ref l] []) rfl]
  have k4 := PySem.F.called_set.notType
  have k5 := PySem.F.called_set.canCreate
  have k6 := PySem.F.typeCall_set_1 (.ref l)
  repeat (any_goals (first | assumption | wp_step))
  let fresh : Bool → Obj := fun led => { cls := .type "set", dict := none, data := .set #[] 0 (.fresh 0 0 led) }
  refine codeAny_mono (code_set_new_1 (.ref l) (E := E) (Q₁ := fun ob t => ∃ led : Bool, ob = .ref s.heap.objs.size ∧ t = { s with heap := s.heap.push (fresh led) }) fun led => ⟨led, rfl, rfl⟩) fun r t hr => ?_
  match r, hr with
  | .error e, hr => exact hr
  | .ok .next, hr => exact hr.elim
  | .ok .brk, hr => exact hr.elim
  | .ok .cont, hr => exact hr.elim
  | .ok (.ret ob), ⟨led, e1, e2⟩ =>
    subst e1
    subst e2
    have new : (s.heap.push (fresh led)).get? s.heap.objs.size = some (fresh led) := Heap.get?_push_size _ rfl
    have ty : Shared.TypeIs { s with heap := s.heap.push (fresh led) } (.ref s.heap.objs.size) "set" := ⟨_, new, rfl⟩
    have k7 := PySem.F.called_set.init.lookup
    have k8 := PySem.F.called_set.init.bind (.ref s.heap.objs.size)
    repeat (any_goals (first | assumption | wp_step))
    refine codeAny_mono (codeAny_call_builtin (R := wants (fun r t2 => r = .none ∧ ∃ h' tk, t2 = { s with heap := h', toks := tk } ∧
        h'.SetOf (mixKind prog w) s.heap.objs.size (metB ks) (met ks).length ∧ (∀ b o, b < s.heap.objs.size → s.heap.get? b = some o → h'.get? b = some o)) E) PySem.F.called_set.init.plain PySem.F.entry_set_init (check_set_init_1 ty ?_)) fun r2 t2 hr2 => ?_
    · obtain ⟨ol, at_l, cl, nl, dl⟩ := hl
      obtain ⟨ocls, odict, odata, oslots⟩ := ol
      simp only at cl dl
      subst cl
      subst dl
      have at_l2 : (s.heap.push (fresh led)).get? l = some { cls := .type "list", dict := odict, data := .seq us nl, slots := oslots } := Heap.get?_push_of_some _ at_l
      have j1 := PySem.F.sub_list_set
      have j2 := PySem.F.sub_list_frozenset
      have j3 : (Value.type "list" == Value.type "dict") = false := by decide
      have isl : (s.heap.push (fresh led)).IsList l us := ⟨_, at_l2, rfl, nl, rfl⟩
      unfold Builtin.«set.__init__» noKeywords Builtin.Frozenset.updateFrom
      generalize eIt : pyIter = It
      wp_walk
      subst eIt
      refine wpAny_pyIter_list isl (wpAny_bind (wpAny_runValue ?_))
      have below : l < s.heap.objs.size := Heap.lt_size at_l
      have calm3 : A.in1.in1.in1.handled = none := by simp [calm]
      have apart : l ≠ (s.heap.push (fresh led)).objs.size := by
        rw [Heap.size_push]; exact Nat.ne_of_lt (Nat.lt_succ_of_lt below)
      have out : s.heap.objs.size ∉ [(s.heap.push (fresh led)).objs.size, l] := by
        rw [Heap.size_push]
        simp only [List.mem_cons, List.not_mem_nil, or_false, not_or]
        exact ⟨Nat.ne_of_lt (Nat.lt_succ_self _), Nat.ne_of_gt below⟩
      refine fillK ((Walks.list calm3 _ l apart us).toS) out sz (by rw [← sz]; exact few) (fun i v hv => keys_at rv i v (by rw [Array.getElem?_toList]; exact hv)) (us.size - 0) 0 _ (by omega) (Nat.zero_le _)
        ⟨⟨_, Heap.get?_push_size _ rfl, rfl, rfl⟩, (isl.push _)⟩ ?start ?stop
      case start =>
        have g : ((s.heap.push (fresh led)).push { cls := .type "list_iterator", data := .fields #[.ref l, .int 0 0] }).get? s.heap.objs.size = some (fresh led) := Heap.get?_push_of_some _ new
        exact PyProof.Rows.SetOf_congr ((PyProof.Rows.setObjOf_fresh (knd := mixKind prog w) led).setOf g (by unfold scanBound; omega)) (fun j => by simp [met]) rfl
      case stop =>
        intro t3 mv x
        obtain ⟨h', g', d', tk', os'⟩ := t3
        obtain rfl : g' = s.gens := mv.gens
        obtain rfl : d' = s.drawn := mv.drawn
        obtain rfl : os' = s.os := mv.os
        show wpAny _ _ _ _ _ _
        refine wpAny_pure ?_
        show wpAny _ _ (ret Value.none) _ _ _
        refine wpAny_pure ⟨rfl, h', tk', rfl, x, fun b o hb e => ?_⟩
        refine mv.heap b o ?_ (Heap.get?_push_of_some _ (Heap.get?_push_of_some _ e))
        rw [Heap.size_push]
        simp only [List.mem_cons, List.not_mem_nil, or_false, not_or]
        exact ⟨Nat.ne_of_lt hb, Nat.ne_of_lt (Nat.lt_succ_of_lt hb)⟩
    · match r2, hr2 with
      | .error e, hr2 => exact hr2
      | .ok .next, hr2 => exact hr2.elim
      | .ok .brk, hr2 => exact hr2.elim
      | .ok .cont, hr2 => exact hr2.elim
      | .ok (.ret r), ⟨e1, h', tk, e2, x, keep⟩ =>
        subst e1
        subst e2
        repeat (any_goals (first | assumption | wp_step))
        exact fin _ _ x keep
end
end Pf

set_option Elab.async false
set_option linter.all false
set_option maxRecDepth 100000
/-! Methods of texts without arguments; replace of written texts. -/
namespace Pf
open PySem PySem.Spec PyProof.Rows L2

def upC (c : Nat) : Nat := if 97 ≤ c ∧ c ≤ 122 then c - 32 else c
def upS (x : Str) : Str := mk ((cl x).map upC)
theorem up_code : ∀ c < 128, Unicode.upperOf c = [upC c] := fun c h => by
  rw [PyProof.Rows.upperOf_ascii c h]
  have : ∀ c < 128, PyProof.Rows.up1 c = upC c := by decide +kernel
  rw [this c h]
theorem up_is {x : Str} (a : asc x = true) : Txt.upper x = upS x := by
  obtain ⟨cs⟩ := x
  have a := asc_iff.mp a
  show (⟨(cs.mapIdx fun _ c => (Unicode.upperOf c).toArray).flatten⟩ : Str) = ⟨(cs.toList.map upC).toArray⟩
  congr 1
  apply Array.ext'
  rw [Array.toList_flatten, Array.toList_mapIdx]
  have : ∀ (l : List Nat), (∀ c ∈ l, c < 128) → ((l.mapIdx fun _ c => (Unicode.upperOf c).toArray).map Array.toList).flatten = l.map upC := by
    intro l h
    have e : (l.mapIdx fun _ c => (Unicode.upperOf c).toArray) = l.map fun c => (Unicode.upperOf c).toArray := by
      apply List.ext_getElem?
      intro i
      simp
    rw [e]
    clear e
    induction l with
    | nil => rfl
    | cons c l ih =>
      rw [List.map_cons, List.map_cons, List.flatten_cons, ih fun d hd => h d (List.mem_cons_of_mem _ hd), up_code c (h c (by simp))]
      rfl
  exact this cs.toList a
theorem up_asc {x : Str} (a : asc x = true) : asc (upS x) = true := asc_iff.mpr fun c hc => by
  obtain ⟨d, hd, rfl⟩ := List.mem_map.mp hc
  have := asc_iff.mp a d hd
  unfold upC
  split <;> omega
theorem up_len (x : Str) : (upS x).length = x.length := by
  unfold upS
  rw [len_mk, List.length_map, ← len_cl]
/-- a method without arguments -/
inductive MZ where
  | upper
  deriving DecidableEq
def MZ.nm : MZ → String
  | .upper => "upper"
def mzD : MZ → Str → Rs D
  | .upper, x => .ok (.str (upS x))
section
variable {X : Cx} {xp : XP} {W : WX} {o : Expr} {fo : Sto → Rs D} {apos cpos : Pos}
theorem ce_mz (m : MZ) (ho : CE X xp W o fo) (hb : noSup o = true) (hl : (apos.endLine == cpos.line) = true) : CE X xp W (.Call (.Attribute o m.nm apos) [] [] cpos) (fun ρ => (fo ρ).bind fun x => (strR x).bind (mzD m)) := by
  cases m
  exact pe_imp (pe_bm0 PySem.F.plainAttrs_str PySem.F.slot_str_upper PySem.F.type_str_upper mt_upper ho (base_of hb) hl) fun σ H Q ⟨ρ, O, R, q⟩ => ⟨ρ, O, R, (End.bind q).imp fun dx H1 _ s1 q1 vx hx => by
    cases dx with
    | str z =>
      cases hx with
      | str h1 h2 =>
        refine ⟨rfl, z, rfl, rfl, Nat.le_trans h2 (by decide), ?_⟩
        rw [up_is h1]
        exact q1.ok _ (.str (up_asc h1) (by rw [up_len]; exact h2))
    | _ => exact q1.elim⟩
end
end Pf

set_option Elab.async false
set_option linter.all false
set_option maxRecDepth 100000
/-! a.replace("y", "z") as a member of a written list whose first member is a + "c": by then a token is out. -/
namespace Pf
open PySem PySem.Spec PyProof.Rows L2

def repS (x y z : Str) : Str := mk (StrLaws.replL (cl y) (cl z) (cl x))
theorem rep_is {x y z : Str} (h : 1 ≤ y.length) : Txt.replace x y z = repS x y z := by
  have e := StrLaws.replace_list (x := x) (z := z) h
  have eta : ∀ t : Str, t = ⟨t.cps.toList.toArray⟩ := fun t => by cases t; rfl
  rw [eta (Txt.replace x y z), e]
  rfl
theorem repl_mem {y z : List Nat} : ∀ (s : Nat) (l : List Nat) (c : Nat), c ∈ StrLaws.replS y z s l → c ∈ z ∨ c ∈ l
  | _, [], c, h => by
    unfold StrLaws.replS at h
    cases h
  | 0, d :: r, c, h => by
    unfold StrLaws.replS at h
    split at h
    · rcases List.mem_append.mp h with h | h
      · exact .inl h
      · exact (repl_mem _ r c h).imp id fun q => List.mem_cons_of_mem _ q
    · rcases List.mem_cons.mp h with h | h
      · exact .inr (by rw [h]; simp)
      · exact (repl_mem _ r c h).imp id fun q => List.mem_cons_of_mem _ q
  | s + 1, d :: r, c, h => by
    unfold StrLaws.replS at h
    exact (repl_mem s r c h).imp id fun q => List.mem_cons_of_mem _ q
theorem repl_len {y z : List Nat} : ∀ (s : Nat) (l : List Nat), (StrLaws.replS y z s l).length ≤ l.length * (z.length + 1)
  | _, [] => by
    unfold StrLaws.replS
    simp
  | 0, d :: r => by
    unfold StrLaws.replS
    have h := repl_len (y := y) (z := z) (y.length - 1) r
    have h2 := repl_len (y := y) (z := z) 0 r
    rw [List.length_cons, Nat.add_mul, Nat.one_mul]
    split
    · rw [List.length_append]; omega
    · rw [List.length_cons]; omega
  | s + 1, d :: r => by
    unfold StrLaws.replS
    have h := repl_len (y := y) (z := z) s r
    rw [List.length_cons, Nat.add_mul, Nat.one_mul]
    omega
theorem rep_asc {x y z : Str} (hx : asc x = true) (hz : asc z = true) : asc (repS x y z) = true := asc_iff.mpr fun c hc => (repl_mem 0 _ c hc).elim (asc_iff.mp hz c) (asc_iff.mp hx c)
theorem rep_len (x y z : Str) : (repS x y z).length ≤ x.length * (z.length + 1) := by
  unfold repS
  rw [len_mk, len_cl x, len_cl z]
  exact repl_len 0 _
/-- what replacing asks -/
def repD (x : D) (y z : Str) : Rs D := (strR x).bind fun x => if 1 ≤ y.length ∧ (y == z) = false ∧ x.length * (z.length + 1) ≤ LIM ∧ x.length + (x.length + 1) * z.length ≤ 16777216 then .ok (.str (repS x y z)) else .bad
section
variable {X : Cx} {xp : XP} {W : WX} {a e o : Expr} {es : List Expr} {fa : Sto → Rs D} {fs : Sto → Rs (List D)} {y z : Str} {j k : Nat} {c0 c1 apos pos p p' : Pos}
/-- what a term computes, a token being out -/
abbrev CE1 (X : Cx) (xp : XP) (W : WX) (e : Expr) (f : Sto → Rs D) : Prop := PET X e (rdE X.K X.mg xp W f)
abbrev CA1 (X : Cx) (xp : XP) (W : WX) (es : List Expr) (f : Sto → Rs (List D)) : Prop := PAT X es (rdA X.K X.mg xp W f)
theorem pet_imp {t u : TE} (h : PET X e t) (k : ∀ σ H Q, u σ H Q → t σ H Q) : PET X e u := fun pins s σ H Q h0 I q => h pins s σ H Q h0 I (k σ H Q q)
theorem pat_imp {t u : TA} (h : PAT X es t) (k : ∀ σ H Q, u σ H Q → t σ H Q) : PAT X es u := fun pos pins s σ H Q h0 I q => h pos pins s σ H Q h0 I (k σ H Q q)
theorem c1_rep (ho : CE X xp W o fa) (hz : asc z = true)
    (hy : (y == z) = false)
    (hst : starEach [.Constant (.str y) j c0, .Constant (.str z) k c1] X.env = [(false, eval (.Constant (.str y) j c0) X.env), (false, eval (.Constant (.str z) k c1) X.env)])
    (hb : noSup o = true) (hl : (apos.endLine == pos.line) = true) : CE1 X xp W (.Call (.Attribute o "replace" apos) [.Constant (.str y) j c0, .Constant (.str z) k c1] [] pos) (fun ρ => (fa ρ).bind fun x => repD x y z) :=
  pet_imp (CwR.pet_replC ho hy hst (base_of hb) hl) fun σ H Q ⟨ρ, O, R, q⟩ => ⟨ρ, O, R, (End.bind q).imp fun dx H1 _ s1 q1 vx hx => by
    cases dx with
    | str x =>
      cases hx with
      | str h1 h2 =>
        obtain ⟨⟨g1, g2, g3, g4⟩, q1⟩ := end_ite (show End _ _ _ _ _ _ _ (if 1 ≤ y.length ∧ (y == z) = false ∧ x.length * (z.length + 1) ≤ LIM ∧ x.length + (x.length + 1) * z.length ≤ 16777216 then Rs.ok (PyData.str (repS x y z)) else Rs.bad) from q1)
        refine ⟨x, rfl, g4, ?_⟩
        rw [rep_is g1]
        exact q1.ok _ (.str (rep_asc h1 hz) (Nat.le_trans (rep_len x y z) g3))
    | _ => exact q1.elim⟩
theorem ca1_nil : CA1 X xp W [] (fun _ => .ok []) := pat_imp pat_nil fun σ H Q ⟨ρ, O, R, q⟩ => q.ok [] .nil
theorem ca1_cons (h : CE1 X xp W e fa) (h2 : CA1 X xp W es fs) (hs : starEach (e :: es) X.env = (false, eval e X.env) :: starEach es X.env) : CA1 X xp W (e :: es) (fun ρ => (fa ρ).bind fun x => (fs ρ).bind fun xs => .ok (x :: xs)) :=
  pat_imp (pat_cons h h2 hs) fun σ H Q ⟨ρ, O, R, q⟩ => ⟨ρ, O, R, q.bind.imp fun d H' _ s k v hv => ⟨ρ, O, R.mono s, k.bind.imp fun ds H2 _ s2 k2 vs hvs => k2.ok _ (.cons (dp_mono (msk_same s2) hv) hvs)⟩⟩
/-- behind a + "c" a token is out -/
def PEm (X : Cx) (e : Expr) (t : TE) : Prop :=
  ∀ (pins : List (Addr × Obj)) (s : Shared) (σ : L2.St) (H : Hp) (Q : VK), Inv X pins σ H s → t σ H Q → wpAny (model X.prog X.w) X.A (eval e X.env) (fun v s1 => 1 ≤ s1.toks ∧ EP X pins σ Q v s1) X.xe s
theorem pem_add {r : R2} {ta : TE} {c : Str} (ho : OpR X (binaryOp .Add) r) (ha : PE X a ta) : PEm X (.BinOp a .Add (.Constant (.str c) j p) p') (tOp r ta (tC (.str c))) := by
  intro pins s σ H Q I h
  refine wpAny_BinOp (thn (ha.run pins s σ H _ I h) fun v s1 ⟨x, H1, I1, r1, q1⟩ => ?_)
  refine Calls.Constant_str ?_
  refine wpAny_mono (PySem.wpAny_toks (ho pins { s1 with toks := s1.toks + 1 } σ H1 x (.str c) v (.str c s1.toks) Q (I1.tok _) r1 ⟨s1.toks, rfl⟩ q1)) (fun v2 s2 q => ⟨?_, q.2⟩) fun _ _ z => z.2
  have : s1.toks + 1 ≤ s2.toks := q.1
  omega
theorem pa_emit {te : TE} {ta : TA} (ha : PEm X e te) (hr : PAT X es ta) (hs : starEach (e :: es) X.env = (false, eval e X.env) :: starEach es X.env) : L2.PA X (e :: es) (tCons te ta) := by
  refine ⟨fun pos pins s σ H Q I h => ?_⟩
  rw [hs]
  show wpAny _ _ (spliced ((false, eval e X.env) :: backTo pos (starEach es X.env))) _ _ s
  refine Calls.spliced_cons (thn (ha pins s σ H _ I h) fun v s1 ⟨tk, x, H1, I1, r1, q1⟩ => ?_)
  exact thn (hr pos pins s1 σ H1 _ tk I1 q1) fun us s2 ⟨xs, H2, I2, r2, q2⟩ => ⟨x :: xs, H2, I2, .cons r1 r2, q2⟩
theorem ca_emit {c : Str} (ha : CE X xp W a fa) (hc : asc c = true) (lc : c.length ≤ LIM) (hr : CA1 X xp W es fs) (hs : starEach (.BinOp a .Add (.Constant (.str c) j p) p' :: es) X.env = (false, eval (.BinOp a .Add (.Constant (.str c) j p) p') X.env) :: starEach es X.env) :
    CA X xp W (.BinOp a .Add (.Constant (.str c) j p) p' :: es) (fun ρ => ((fa ρ).bind fun x => pur (binD .add x (.str c))).bind fun x => (fs ρ).bind fun xs => .ok (x :: xs)) :=
  pa_imp (pa_emit (pem_add (bin_op .add) ha) hr hs) fun σ H Q ⟨ρ, O, R, q⟩ => ⟨ρ, O, R, by
    dsimp only at q
    rw [Rs.bind_assoc] at q
    refine (End.bind q).imp fun dx H1 _ s1 q1 vx hx => ?_
    refine bin_im .add H1 O vx (.str c) dx (.str c) _ (R.thr.same s1) hx (.str hc lc) ((end_pur (End.bind q1)).imp fun d k2 v H' s2 h => ?_)
    exact ⟨ρ, O, (R.mono s1).mono s2, (End.bind (k2 H' s2)).imp fun ds H2 _ s3 k3 vs hvs => k3.ok _ (.cons (dp_mono (msk_same s3) h) hvs)⟩⟩
end
end Pf

set_option Elab.async false
set_option linter.all false
set_option maxRecDepth 100000
/-! len(set(xs)); {}. -/
namespace Pf
open PySem PySem.Spec PyProof.Rows L2

def keyO : D → Option Key
  | .int i => some (.inl i)
  | .str x => some (.inr x)
  | _ => none
def keysO : List D → Option (List Key)
  | [] => some []
  | d :: ds => match keyO d, keysO ds with
    | some k, some ks => some (k :: ks)
    | _, _ => none
theorem keys_vals {K : PySem.W.Frag} {F : Hp} : ∀ {vs : List V} {ds : List D} {ks : List Key}, DnAll K F vs ds → keysO ds = some ks → vs = ks.map kV
  | _, _, _, .nil, e => by cases e; rfl
  | v :: vs, d :: ds, ks, .cons h t, e => by
    unfold keysO at e
    split at e
    · rename_i k r e1 e2
      cases e
      have e3 : keyOf d = .ok k := by cases d <;> first | cases e1; done | (cases e1; rfl)
      rw [kV_of h e3, keys_vals t e2]
      rfl
    · cases e
/-- the keys of set(d) -/
def setD : D → Rs (List Key)
  | .list xs => match keysO xs with
    | some ks => if ks.length ≤ 4000 then .ok (met ks) else .bad
    | none => .bad
  | _ => .bad
def rSetOfK (K : PySem.W.Frag) (P : Program) (w : World) : List V → Hp → VK → Prop := fun xs H Q => ∃ (l : Addr) (ks : List Key), xs = [V.ref l] ∧ SqL K H l (ks.map kV) ∧ ks.length ≤ 4000 ∧
  ∀ a, H a = none → Q (.ref a) (upd H a (SetK P w a (metB ks) (met ks).length))
section
variable {X : Cx} {xp : XP} {W : WX} {e : Expr} {fa : Sto → Rs D} {p p2 q pos : Pos}
theorem cr_setOfK (hc : X.calm = true) : CallR X (.type "set") (rSetOfK X.K X.prog X.w) := by
  intro pins s σ H xs us Q I r h
  obtain ⟨l, ks, rfl, hl, few, q⟩ := h
  rw [Vals.ref1 r]
  obtain ⟨its, rv, pl, hz⟩ := I.list hl
  have hn : H s.heap.objs.size = none := I.hok.fresh (Nat.le_refl _)
  have sb : scanBound = 4096 := rfl
  refine set_of_list (I.ok.hd hc) pl.isList (by simpa using rv) (by omega) fun h' tk new keep => ?_
  exact ⟨.ref _, upd H s.heap.objs.size (SetK X.prog X.w s.heap.objs.size (metB ks) (met ks).length), I.laid (t' := tk) (fun b u z => keep b u (Heap.lt_size z) z) (Nat.le_refl _) (setK_new new), rfl, q _ hn⟩
theorem cs_setof (hc : X.calm = true) (hg : Gl X "set") (hm : X.mg "set" = none) (ha : CL X xp W e fa) (he : starEach [e] X.env = (false, eval e X.env) :: starEach [] X.env) : CS X xp W (.Call (.Name "set" p) [e] [] pos) (fun ρ => (fa ρ).bind setD) :=
  pe_imp (pe_callTy (cr_setOfK hc) hg hm PyProof.Rows.boot_set (pa_cons ha pa_nil he) (by decide) (by decide) he rfl) fun σ H Q ⟨ρ, O, R, q⟩ =>
    ⟨ρ, O, R, (End.bind q).imp fun d H1 _ s1 q1 v hv => by
      match d, hv, q1 with
      | .list xs, .lst (xs := vs) h1 h2 h3, q1 =>
        have q1 : End X.K X.mg W O σ H1 _ (match keysO xs with
          | some ks => if ks.length ≤ 4000 then Rs.ok (met ks) else .bad
          | none => .bad) := q1
        cases ek : keysO xs with
        | some ks =>
          rw [ek] at q1
          obtain ⟨few, q1⟩ := end_ite q1
          obtain rfl := keys_vals h3 ek
          refine ⟨_, ks, rfl, h1.sq, few, fun a ha => ?_⟩
          have ml := met_len ks
          exact q1 _ (same_new ha) a (s1.free ha) (by rw [upd_same]) (by omega)
        | none =>
          rw [ek] at q1
          exact q1.elim⟩
theorem ce_dic0 : CE X xp W (.Dict [] [] pos) (fun _ => .ok (.dict [])) :=
  pe_imp pe_dnewK fun σ H Q ⟨ρ, O, R, q⟩ a ha => q _ (same_new ha) (.ref a) (.dct (kvs := []) (by rw [msk_out (R.thr.out ha), upd_same]) (Nat.zero_le _) .nil)
end
end Pf

set_option Elab.async false
set_option linter.all false
set_option maxRecDepth 100000
/-! Expressions as terms: what they compute, and which text they stand for. -/
namespace Pf
open PySem PySem.Spec PyProof.Rows L2

/-! ### a few more rules -/
section
variable {X : Cx} {xp : XP} {W : WX} {a b c : Expr} {fa : Sto → Rs D} {ta tb tc : Sto → Rs Bool} {pos : Pos}
theorem pt_ite {ra rb rc : TT} (hc : PT X c rc) (ha : PT X a ra) (hb : PT X b rb) : PT X (.IfExp c a b pos) (fun σ H Q => rc σ H fun k H1 => if k = true then ra σ H1 Q else rb σ H1 Q) := by
  constructor
  intro pins s σ H Q I h
  show wpAny _ _ (do if ← isTrue c X.env (eval c X.env) then isTrue a X.env (eval a X.env) else isTrue b X.env (eval b X.env)) _ _ _
  refine wpAny_bind (thn (hc.run pins s σ H _ I h) ?_)
  rintro k s1 ⟨H1, I1, q1⟩
  cases k with
  | true => exact ha.run pins s1 σ H1 Q I1 q1
  | false => exact hb.run pins s1 σ H1 Q I1 q1
theorem ct_if (hc : CT X xp W c tc) (ha : CT X xp W a ta) (hb : CT X xp W b tb) : CT X xp W (.IfExp c a b pos) (fun ρ => (tc ρ).bind fun k => if k = true then ta ρ else tb ρ) :=
  pt_imp (pt_ite hc ha hb) fun σ H Q ⟨ρ, O, R, q⟩ => ⟨ρ, O, R, (End.bind q).imp fun k H' _ s z => by
    cases k with
    | true => exact ⟨ρ, O, R.mono s, z⟩
    | false => exact ⟨ρ, O, R.mono s, z⟩⟩
def negD : D → Rs D
  | .int i => .ok (.int (-i))
  | _ => .bad
theorem ce_neg (ha : CE X xp W a fa) : CE X xp W (.UnaryOp .USub a pos) (fun ρ => (fa ρ).bind negD) :=
  pe_imp (pe_un un_neg ha) fun σ H Q ⟨ρ, O, R, q⟩ => ⟨ρ, O, R, (End.bind q).imp fun d H' _ s k v hv => by
    match d, hv, k with
    | .int i, .int _, k => exact ⟨i, rfl, k.ok _ (.int _)⟩⟩
def revD : D → Rs D
  | .list xs => .ok (.list xs.reverse)
  | _ => .bad
theorem ce_rev {k : Nat} {p1 p2 p3 : Pos} (ha : CE X xp W a fa) : CE X xp W (.Subscript a (.Slice none none (some (.UnaryOp .USub (.Constant (.int 1) k p1) p2)) p3) pos) (fun ρ => (fa ρ).bind revD) :=
  pe_imp (pe_revL ha) fun σ H Q ⟨ρ, O, R, q⟩ => ⟨ρ, O, R, (End.bind q).imp fun d H' _ s k v hv => by
    match d, hv, k with
    | .list xs, .lst (xs := vs) h1 h2 h3, k => exact ⟨_, vs, rfl, (rd_sub h1).sq, fun p hp => k _ (same_new hp) _ (dn_newL (R.mono s).thr hp (by rw [List.length_reverse]; exact h2) (dpAll_rev h3))⟩⟩
end

/-! ### the terms -/
mutual
inductive E where
  | var (i : Nat)
  | int (i : Int)
  | str (x : Str)
  | bl (b : Bool)
  | non
  | gl (k : Nat)
  | bin (o : Bi) (a b : E)
  | neg (a : E)
  | cmp (o : Cm) (a b : L)
  | ch (o1 o2 : Cm) (a b c : L)
  | not (a : E)
  | and (a b : E)
  | or (a b : E)
  | ife (c a b : E)
  | tup (es : Es)
  | lst (es : Es)
  | ix (a b : E)
  | oix (i : Nat) (b : E)
  | sl (a : E) (lo hi : Eo)
  | rev (a : E)
  | bi (f : BI) (es : Es)
  | ti (f : TyI) (es : Es)
  | len (a : L)
  | mt (m : MI) (a : E) (es : Es)
  | call (k : Nat) (es : Es)
  | isa (a : L) (T : TyN)
  | isa2 (a : L) (T U : TyN)
  | lc (t : Tg) (vs : List Nat) (it : I) (cond : Eo) (elt : E)
  | lenks (t : Tg) (vs : List Nat) (it : I) (cond : Eo) (elt : E)
  | xat (i : Nat) (f : Str)
  | xis (i : Nat) (y : Str)
  | dic0
  | lenset (a : L)
  | mz (m : MZ) (a : E)
  | lstR (a : E) (c : Str) (es : Es)
/-- what is only looked at: a list of ours, too -/
inductive L where
  | ov (i : Nat)
  | ex (e : E)
inductive Es where
  | nil
  | cons (e : E) (es : Es)
  | rep (a : E) (y z : Str) (es : Es)
inductive Eo where
  | none
  | some (e : E)
inductive I where
  | val (e : E)
  | r1 (a : E)
  | r2 (a b : E)
  | enum (a : E)
end
/-- what the terms are read in: the constants, the defs, the built-in names that are used, the classes of errors -/
structure Gs where
  gl : List (Nat × Str × D)
  fs : List (Nat × Str × Nat × (List D → Rs D))
  bs : List Str
  sb : Str → Str → Option Bool
  at_ : Str → Option Str
  hs : List Str
def callG (Γ : Gs) (k : Nat) (ds : List D) : Rs D := match Γ.fs.find? (fun p => p.1 == k) with
  | some (_, _, n, m) => if ds.length = n then m ds else .bad
  | none => .bad
def glG (Γ : Gs) (k : Nat) : Rs D := match Γ.gl.find? (fun p => p.1 == k) with
  | some (_, _, d) => .ok d
  | none => .bad
def limT (xs : List D) (k : List D → D) : Rs D := if xs.length ≤ LIM then .ok (k xs) else .bad
mutual
def sem (Γ : Gs) : E → Sto → Rs D
  | .var i, ρ => getP ρ i
  | .int i, _ => .ok (.int i)
  | .str x, _ => .ok (.str x)
  | .bl b, _ => .ok (.bool b)
  | .non, _ => .ok .none
  | .gl k, _ => glG Γ k
  | .bin o a b, ρ => (sem Γ a ρ).bind fun x => (sem Γ b ρ).bind fun y => pur (binD o x y)
  | .neg a, ρ => (sem Γ a ρ).bind negD
  | .cmp o a b, ρ => (seml Γ a ρ).bind fun x => (seml Γ b ρ).bind fun y => pur (cmpD o x y)
  | .ch o1 o2 a b c, ρ => toB (chainF o1 o2 (seml Γ a) (seml Γ b) (seml Γ c) ρ)
  | .not a, ρ => ((sem Γ a ρ).bind asB).bind fun b => .ok (.bool (!b))
  | .and a b, ρ => ((sem Γ a ρ).bind asB).bind fun k => if k = true then sem Γ b ρ else .ok (.bool false)
  | .or a b, ρ => ((sem Γ a ρ).bind asB).bind fun k => if k = true then .ok (.bool true) else sem Γ b ρ
  | .ife c a b, ρ => ((sem Γ c ρ).bind asB).bind fun k => if k = true then sem Γ a ρ else sem Γ b ρ
  | .tup es, ρ => (sems Γ es ρ).bind fun xs => limT xs .tuple
  | .lst es, ρ => (sems Γ es ρ).bind fun xs => limT xs .list
  | .ix a b, ρ => (sem Γ a ρ).bind fun x => (sem Γ b ρ).bind fun y => pur (ixD x y)
  | .oix i b, ρ => (getO ρ i).bind fun x => (sem Γ b ρ).bind fun y => pur (ixD x y)
  | .sl a lo hi, ρ => (sem Γ a ρ).bind fun x => (semo Γ lo ρ).bind fun l => (semo Γ hi ρ).bind fun u => pur (slD x l u)
  | .rev a, ρ => (sem Γ a ρ).bind revD
  | .bi f es, ρ => (sems Γ es ρ).bind fun ds => pur (biD f ds)
  | .ti f es, ρ => (sems Γ es ρ).bind fun ds => pur (tiD f ds)
  | .len a, ρ => (seml Γ a ρ).bind fun d => pur (lenD d)
  | .mt m a es, ρ => (sem Γ a ρ).bind fun x => (strR x).bind fun z => (sems Γ es ρ).bind fun ds => pur (miD m (.str z) ds)
  | .call k es, ρ => (sems Γ es ρ).bind fun ds => callG Γ k ds
  | .isa a T, ρ => (seml Γ a ρ).bind fun d => .ok (.bool (isaK T (kd d)))
  | .isa2 a T U, ρ => (seml Γ a ρ).bind fun d => .ok (.bool (isaK T (kd d) || isaK U (kd d)))
  | .lc t vs it cond elt, ρ => (lcF t vs (semi Γ it) (semc Γ cond) (sem Γ elt) ρ).bind fun ds => .ok (.list ds)
  | .lenks t vs it cond elt, ρ => (ksF t vs (semi Γ it) (semc Γ cond) (sem Γ elt) ρ).bind fun ks => .ok (.int ks.length)
  | .xat i f, ρ => (getX ρ i).bind fun e => if Γ.at_ e.cls = some f ∧ e.attr = f then .ok e.val else .bad
  | .xis i y, ρ => (getX ρ i).bind fun e => opt (Γ.sb e.cls y) PyData.bool
  | .dic0, _ => .ok (.dict [])
  | .lenset a, ρ => ((seml Γ a ρ).bind setD).bind fun ks => .ok (.int ks.length)
  | .mz m a, ρ => (sem Γ a ρ).bind fun x => (strR x).bind (mzD m)
  | .lstR a c es, ρ => (((sem Γ a ρ).bind fun x => pur (binD .add x (.str c))).bind fun x => (sems Γ es ρ).bind fun xs => .ok (x :: xs)).bind fun xs => limT xs .list
def seml (Γ : Gs) : L → Sto → Rs D
  | .ov i, ρ => getO ρ i
  | .ex e, ρ => sem Γ e ρ
def sems (Γ : Gs) : Es → Sto → Rs (List D)
  | .nil, _ => .ok []
  | .cons e es, ρ => (sem Γ e ρ).bind fun x => (sems Γ es ρ).bind fun xs => .ok (x :: xs)
  | .rep a y z es, ρ => ((sem Γ a ρ).bind fun x => repD x y z).bind fun x => (sems Γ es ρ).bind fun xs => .ok (x :: xs)
def semo (Γ : Gs) : Eo → Sto → Rs (Option Int)
  | .none, _ => .ok none
  | .some e, ρ => (sem Γ e ρ).bind asI
def semc (Γ : Gs) : Eo → Sto → Rs Bool
  | .none, _ => .ok true
  | .some e, ρ => (sem Γ e ρ).bind asB
def semi (Γ : Gs) : I → Sto → Rs (List D)
  | .val e, ρ => (sem Γ e ρ).bind itemsD
  | .r1 a, ρ => (sem Γ a ρ).bind rng1
  | .r2 a b, ρ => (sem Γ a ρ).bind fun x => (sem Γ b ρ).bind fun y => rng2 x y
  | .enum a, ρ => (sem Γ a ρ).bind enumL
end

/-! ### which text a term stands for -/
structure Ck where
  Γ : Gs
  N : List Str
  sc : Scope
  /-- not within an except suite -/
  cm : Bool
  /-- a def's own frame, not a comprehension's block -/
  fa : Bool
def Ck.vis (c : Ck) (i : Nat) (x : Str) : Bool :=
  decide (c.N[i]? = some x) && (match c.sc.names.lookup x with | some .local => true | some .cell => true | some .free => true | _ => false) && !(x == ("__debug__" : Str)) && !(x == ("__classdict__" : Str))
def Ck.glo (c : Ck) (x : Str) : Bool := decide (c.sc.names.lookup x = some .globalImplicit) && !(x == ("__debug__" : Str))
def Ck.blt (c : Ck) (x : Str) : Bool := c.glo x && decide (x ∈ c.Γ.bs)
def Ck.tgt (c : Ck) (i : Nat) (x : Str) : Bool := decide (c.N[i]? = some x) && (match c.sc.names.lookup x with | some .local => true | some .cell => c.fa | _ => false)
def Ck.names (c : Ck) : List Nat → List Expr → Bool
  | [], [] => true
  | i :: is, .Name x _ :: es => c.tgt i x && c.names is es
  | _, _ => false
def Ck.tg (c : Ck) : Tg → Expr → Bool
  | .nm i, .Name x _ => c.tgt i x
  | .tp is, .Tuple es _ _ => c.cm && c.names is es
  | _, _ => false
def noStar : Expr → Bool
  | .Starred .. => false
  | _ => true
def noSet : Expr → Bool
  | .Set .. => false
  | _ => true
/-- what may be called within an except suite -/
def BI.quiet : BI → Bool
  | .repr => true
  | _ => false
def ownOf (N : List Str) (vs : List Nat) : List (Str × Nat) := vs.map fun i => (N.getD i Str.empty, i)
def Ck.blk (c : Ck) (scope : Scope) : Ck := { c with sc := relS scope c.sc, fa := false }
def slotsIn (t : Tg) (vs : List Nat) : Bool := t.slots.all fun i => decide (i ∈ vs)
mutual
def Ck.e (c : Ck) : E → Expr → Bool
  | .var i, .Name x _ => c.vis i x
  | .int i, .Constant (.int j) _ _ => decide (i = j)
  | .str x, .Constant (.str y) _ _ => decide (x = y) && asc x && decide (x.length ≤ LIM)
  | .bl b, .Constant (.bool d) _ _ => decide (b = d)
  | .non, .Constant .none _ _ => true
  | .gl k, .Name x _ => c.glo x && (match c.Γ.gl.find? (fun p => p.1 == k) with | some (_, y, _) => decide (x = y) | none => false)
  | .bin o a b, .BinOp x op y _ => decide (o.op = op) && c.e a x && c.e b y
  | .neg a, .UnaryOp .USub x _ => c.e a x
  | .cmp o a b, .Compare x [op] [y] _ => decide (o.op = op) && !behindInMarks op y && c.l a x && c.l b y
  | .ch o1 o2 a b d, .Compare x [p1, p2] [y, z] _ => decide (o1.op = p1) && decide (o2.op = p2) && !lastMarks [p1, p2] [y, z] && c.l a x && c.l b y && c.l d z
  | .not a, .UnaryOp .Not x _ => c.e a x
  | .and a b, .BoolOp .And (x :: y :: r) p => c.e a x && (match r with | [] => c.e b y | z :: r => c.e b (.BoolOp .And (y :: z :: r) p))
  | .or a b, .BoolOp .Or (x :: y :: r) p => c.e a x && (match r with | [] => c.e b y | z :: r => c.e b (.BoolOp .Or (y :: z :: r) p))
  | .ife d a b, .IfExp z x y _ => c.e d z && c.e a x && c.e b y
  | .tup es, .Tuple xs _ _ => c.es es xs
  | .lst es, .List xs _ => c.es es xs
  | .ix a b, .Subscript x y _ => noSlice y && c.e a x && c.e b y
  | .oix i b, .Subscript (.Name x _) y _ => noSlice y && c.vis i x && c.e b y
  | .sl a lo hi, .Subscript x (.Slice l h none _) _ => c.e a x && c.o lo l && c.o hi h
  | .rev a, .Subscript x (.Slice none none (some (.UnaryOp .USub (.Constant (.int 1) _ _) _)) _) _ => c.e a x
  | .bi f es, .Call (.Name x _) (y :: ys) [] _ => decide (x = (f.id : Str)) && (c.cm || f.quiet) && c.blt x && c.es es (y :: ys)
  | .ti f es, .Call (.Name x _) (y :: ys) [] _ => decide (x = (f.id : Str)) && c.blt x && c.es es (y :: ys)
  | .len a, .Call (.Name x _) [y] [] _ => decide (x = ("len" : Str)) && c.blt x && noStar y && c.l a y
  | .mt m a es, .Call (.Attribute x n p) (y :: ys) [] q => decide (n = (m.nm : Str)) && noSup x && (p.endLine == q.line) && decide (ys.length < 20) && c.e a x && c.es es (y :: ys)
  | .call k es, .Call (.Name x _) ys [] _ => c.cm && c.glo x && (match c.Γ.fs.find? (fun p => p.1 == k) with | some (_, y, _) => decide (x = y) | none => false) && c.es es ys
  | .isa a T, .Call (.Name x _) [y, .Name z _] [] _ => decide (x = ("isinstance" : Str)) && decide (z = (T.nm : Str)) && c.blt x && c.blt z && noStar y && c.l a y
  | .isa2 a T U, .Call (.Name x _) [y, .Tuple [.Name z _, .Name u _] _ _] [] _ => decide (x = ("isinstance" : Str)) && decide (z = (T.nm : Str)) && decide (u = (U.nm : Str)) && c.blt x && c.blt z && c.blt u && noStar y && c.l a y
  | .lc t vs it cond elt, .ListComp x [⟨tg, iter, ifs, 0⟩] scope _ => c.cm && noSet iter && slotsIn t vs && blkC c.N c.sc scope (ownOf c.N vs) && c.i tg it iter && (c.blk scope).tg t tg && (c.blk scope).cs cond ifs && (c.blk scope).e elt x
  | .lenks t vs it cond elt, .Call (.Name len _) [.SetComp x [⟨tg, iter, ifs, 0⟩] scope _] [] _ =>
    decide (len = ("len" : Str)) && c.blt len && c.cm && noSet iter && slotsIn t vs && blkC c.N c.sc scope (ownOf c.N vs) && c.i tg it iter && (c.blk scope).tg t tg && (c.blk scope).cs cond ifs && (c.blk scope).e elt x
  | .xat i f, .Attribute (.Name x _) g _ => decide (f = g) && !c.cm && c.vis i x
  | .xis i y, .Call (.Name z _) [.Name x _, .Name u _] [] _ => decide (z = ("isinstance" : Str)) && decide (u = y) && !c.cm && c.blt z && c.vis i x && c.glo u
  | .dic0, .Dict [] [] _ => true
  | .lenset a, .Call (.Name x _) [.Call (.Name y _) [z] [] _] [] _ => decide (x = ("len" : Str)) && decide (y = ("set" : Str)) && c.cm && c.blt x && c.blt y && noStar z && c.l a z
  | .mz m a, .Call (.Attribute x n p) [] [] q => decide (n = (m.nm : Str)) && noSup x && (p.endLine == q.line) && c.e a x
  | .lstR a k es, .List (.BinOp x .Add (.Constant (.str y) _ _) _ :: ys) _ => decide (y = k) && asc k && decide (k.length ≤ LIM) && c.e a x && c.er es ys
  | _, _ => false
def Ck.l (c : Ck) : L → Expr → Bool
  | .ov i, .Name x _ => c.vis i x
  | .ex e, x => c.e e x
  | _, _ => false
def Ck.es (c : Ck) : Es → List Expr → Bool
  | .nil, [] => true
  | .cons e es, x :: xs => noStar x && c.e e x && c.es es xs
  | _, _ => false
/-- behind a token -/
def Ck.er (c : Ck) : Es → List Expr → Bool
  | .nil, [] => true
  | .cons e es, x :: xs => noStar x && c.e e x && c.er es xs
  | .rep a y z es, .Call (.Attribute x n p) [.Constant (.str y') _ _, .Constant (.str z') _ _] [] q :: xs => decide (n = ("replace" : Str)) && decide (y' = y) && decide (z' = z) && noSup x && (p.endLine == q.line) && asc z && !(y == z) && c.e a x && c.er es xs
  | _, _ => false
def Ck.o (c : Ck) : Eo → Option Expr → Bool
  | .none, none => true
  | .some e, some x => c.e e x
  | _, _ => false
def Ck.cs (c : Ck) : Eo → List Expr → Bool
  | .none, [] => true
  | .some e, [x] => c.e e x
  | _, _ => false
def Ck.i (c : Ck) (tg : Expr) : I → Expr → Bool
  | .val e, x => c.e e x
  | .r1 a, .Call (.Name r _) [x] [] _ => decide (r = ("range" : Str)) && c.blt r && noStar x && c.e a x
  | .r2 a b, .Call (.Name r _) [x, y] [] _ => decide (r = ("range" : Str)) && c.blt r && noStar x && noStar y && c.e a x && c.e b y
  | .enum a, .Call (.Name r _) [x] [] _ => decide (r = ("enumerate" : Str)) && c.blt r && (match tg with | .Tuple .. => true | _ => false) && noStar x && c.e a x
  | _, _ => false
end
end Pf

set_option Elab.async false
set_option linter.all false
set_option maxRecDepth 100000
/-! What a term computes is what its text does. -/
namespace Pf
open PySem PySem.Spec PyProof.Rows L2

/-- the context is as the checker takes it -/
structure At (c : Ck) (X : Cx) (xp : XP) (W : WX) : Prop where
  N : X.N = c.N
  sc : X.env.scope = c.sc
  fa : c.fa = true → ∀ x, X.fn x = true
  cm : c.cm = true → X.calm = true
  gl : ∀ i x d, (i, x, d) ∈ c.Γ.gl → ∃ u v, X.mg x = some u ∧ L2.RelV v u ∧ ∀ F, Dn X.K F v d
  fs : c.cm = true → ∀ i x n m, (i, x, n, m) ∈ c.Γ.fs → Does X x n m
  bs : ∀ x ∈ c.Γ.bs, X.mg x = none
  nd : X.N.Nodup
  nore : NoRepr X.A
  hu : X.A.units + 70 < cLine
  tk : Takes X W
  su : c.cm = false → ∃ (X0 : Cx) (a D dd : Addr) (oe : Obj) (pn : List (Addr × Obj)) (y f : Str), X = Su X0 a oe pn ∧ W = W0 ∧ xp = some (a, dd, y) ∧ c.Γ.at_ y = some f ∧ Ask X0.K D f ∧ Zc (.ref D) (some dd) oe ∧ (∃ vs, oe.data = .fields vs) ∧ X0.mg y = some (.ref D)
  sb : ∀ x y b, c.Γ.sb x y = some b → SubIs X.K X.mg x y b
  at_ : ∀ y f, c.Γ.at_ y = some f → ∃ C, X.mg y = some (.ref C) ∧ Ask X.K C f
section
variable {c : Ck} {X : Cx} {xp : XP} {W : WX} {x : Str} {i : Nat}
theorem At.vis_of (A : At c X xp W) (h : c.vis i x = true) : X.N[i]? = some x ∧ Vis X.env.scope x ∧ (x == ("__debug__" : Str)) = false ∧ (x == ("__classdict__" : Str)) = false := by
  unfold Ck.vis at h
  simp only [Bool.and_eq_true, decide_eq_true_eq, Bool.not_eq_true'] at h
  obtain ⟨⟨⟨h1, h2⟩, h3⟩, h4⟩ := h
  refine ⟨by rw [A.N]; exact h1, ?_, h3, h4⟩
  rw [A.sc]
  unfold Vis
  cases e : c.sc.names.lookup x with
  | none => rw [e] at h2; cases h2
  | some k =>
    rw [e] at h2
    cases k <;> first | exact .inl rfl | exact .inr (.inl rfl) | exact .inr (.inr rfl) | cases h2
theorem At.glo_of (A : At c X xp W) (h : c.glo x = true) : Gl X x ∧ (x == ("__debug__" : Str)) = false := by
  unfold Ck.glo at h
  simp only [Bool.and_eq_true, decide_eq_true_eq, Bool.not_eq_true'] at h
  refine ⟨?_, h.2⟩
  show X.env.scope.names.lookup x = _
  rw [A.sc]
  exact h.1
theorem At.blt_of (A : At c X xp W) (h : c.blt x = true) : Gl X x ∧ (x == ("__debug__" : Str)) = false ∧ X.mg x = none := by
  unfold Ck.blt at h
  simp only [Bool.and_eq_true, decide_eq_true_eq] at h
  exact ⟨(A.glo_of h.1).1, (A.glo_of h.1).2, A.bs x h.2⟩
theorem At.tgt_of (A : At c X xp W) (h : c.tgt i x = true) : X.N[i]? = some x ∧ L2.Loc X.env.scope x ∧ (X.fn x = true ∨ X.env.scope.names.lookup x = some .local) := by
  unfold Ck.tgt at h
  simp only [Bool.and_eq_true, decide_eq_true_eq] at h
  refine ⟨by rw [A.N]; exact h.1, ?_⟩
  rw [A.sc]
  unfold L2.Loc
  cases e : c.sc.names.lookup x with
  | none => have := h.2; rw [e] at this; cases this
  | some k =>
    have h2 := h.2
    rw [e] at h2
    cases k <;> first | exact ⟨.inl rfl, .inr rfl⟩ | exact ⟨.inr rfl, .inl (A.fa h2 x)⟩ | cases h2
theorem At.names_of (A : At c X xp W) : ∀ {is : List Nat} {es : List Expr}, c.names is es = true → CGs X es is ∧ (assignEach es X.env).length = is.length ∧ (assignEach es X.env).findIdx? (·.1) = none
  | [], [], _ => ⟨pgs_nil, rfl, rfl⟩
  | i :: is, .Name x p :: es, h => by
    have h : (c.tgt i x && c.names is es) = true := h
    rw [Bool.and_eq_true] at h
    obtain ⟨h1, h2, h3⟩ := A.tgt_of h.1
    obtain ⟨g1, g2, g3⟩ := A.names_of h.2
    refine ⟨pgs_cons (pg_name A.nd h1 h2 h3) g1 rfl, congrArg Nat.succ g2, ?_⟩
    show ((false, assign (.Name x p) X.env) :: assignEach es X.env).findIdx? (·.1) = none
    rw [List.findIdx?_cons, g3]
    rfl
  | [], _ :: _, h => by cases h
  | _ :: _, [], h => by cases h
  | _ :: _, .BoolOp .. :: _, h => by cases h
  | _ :: _, .NamedExpr .. :: _, h => by cases h
  | _ :: _, .BinOp .. :: _, h => by cases h
  | _ :: _, .UnaryOp .. :: _, h => by cases h
  | _ :: _, .Lambda .. :: _, h => by cases h
  | _ :: _, .IfExp .. :: _, h => by cases h
  | _ :: _, .Dict .. :: _, h => by cases h
  | _ :: _, .Set .. :: _, h => by cases h
  | _ :: _, .ListComp .. :: _, h => by cases h
  | _ :: _, .SetComp .. :: _, h => by cases h
  | _ :: _, .DictComp .. :: _, h => by cases h
  | _ :: _, .GeneratorExp .. :: _, h => by cases h
  | _ :: _, .Await .. :: _, h => by cases h
  | _ :: _, .Yield .. :: _, h => by cases h
  | _ :: _, .YieldFrom .. :: _, h => by cases h
  | _ :: _, .Compare .. :: _, h => by cases h
  | _ :: _, .Call .. :: _, h => by cases h
  | _ :: _, .FormattedValue .. :: _, h => by cases h
  | _ :: _, .JoinedStr .. :: _, h => by cases h
  | _ :: _, .Constant .. :: _, h => by cases h
  | _ :: _, .Attribute .. :: _, h => by cases h
  | _ :: _, .Subscript .. :: _, h => by cases h
  | _ :: _, .Starred .. :: _, h => by cases h
  | _ :: _, .List .. :: _, h => by cases h
  | _ :: _, .Tuple .. :: _, h => by cases h
  | _ :: _, .Slice .. :: _, h => by cases h
theorem At.tg_of (A : At c X xp W) {t : Tg} {e : Expr} (h : c.tg t e = true) : CG X xp e t := by
  unfold Ck.tg at h
  split at h
  · obtain ⟨h1, h2, h3⟩ := A.tgt_of h
    exact cg_nm A.nd h1 h2 h3
  · rw [Bool.and_eq_true] at h
    obtain ⟨g1, g2, g3⟩ := A.names_of h.2
    exact cg_tp (A.cm h.1) g1 g2 g3
  · cases h
theorem At.blk (A : At c X xp W) (cm : c.cm = true) (scope : Scope) (s : Shared) (H : Hp) (C : Addr) (cl : List (Str × Addr)) (fp : List Addr) : At (c.blk scope) (X.blk s H scope (compEnvC scope cl C X.env) fp) xp W0 where
  N := A.N
  sc := by
    show relS scope X.env.scope = relS scope c.sc
    rw [A.sc]
  fa := fun h => by cases h
  cm := A.cm
  gl := A.gl
  fs := A.fs
  bs := A.bs
  nd := A.nd
  nore := A.nore
  hu := A.hu
  tk := takes0
  su := fun h => by
    have h : c.cm = false := h
    rw [cm] at h
    cases h
  sb := A.sb
  at_ := A.at_
end
theorem star_cons {x : Expr} {xs : List Expr} {env : Env} (h : noStar x = true) : starEach (x :: xs) env = (false, eval x env) :: starEach xs env := by
  cases x <;> first | rfl | cases h
theorem any_back {pos : Pos} {xs : List (Bool × Sem Value)} : (backTo pos xs).any (·.1) = xs.any (·.1) := by
  unfold backTo
  rw [List.any_map]
  rfl
theorem es_rep {c : Ck} {a : E} {y z : Str} {es : Es} : ∀ {xs : List Expr}, c.es (.rep a y z es) xs = true → False
  | [], h => by unfold Ck.es at h; cases h
  | _ :: _, h => by unfold Ck.es at h; cases h
theorem es_plain {c : Ck} : ∀ {es : Es} {xs : List Expr} {env : Env}, c.es es xs = true → (starEach xs env).any (·.1) = false
  | .nil, [], _, _ => rfl
  | .cons e es, x :: xs, env, h => by
    have h : (noStar x && c.e e x && c.es es xs) = true := h
    simp only [Bool.and_eq_true] at h
    rw [star_cons h.1.1, List.any_cons, es_plain h.2]
    rfl
  | .nil, _ :: _, _, h => by unfold Ck.es at h; cases h
  | .cons .., [], _, h => by unfold Ck.es at h; cases h
  | .rep .., _, _, h => (es_rep h).elim
theorem few_of {c : Ck} {pos : Pos} {es : Es} {xs : List Expr} {env : Env} (h : c.es es xs = true) (hl : xs.length < 25) :
    ((backTo pos (starEach xs env)).all (fun x => !x.1) && (backToKw pos (keywordEach [] env)).all (fun x => x.1.isSome) && decide (xs.length + ([] : List Keyword).length + (if ([] : List Keyword).isEmpty then 0 else 1) < 30)) = true := by
  have h1 : (backTo pos (starEach xs env)).all (fun x => !x.1) = true := by
    have := any_back (pos := pos) (xs := starEach xs env)
    rw [es_plain h] at this
    rw [List.all_eq_not_any_not]
    simp only [Bool.not_not]
    rw [this]
    rfl
  rw [h1]
  have : xs.length + ([] : List Keyword).length + (if ([] : List Keyword).isEmpty then 0 else 1) < 30 := by
    show xs.length + 0 + 0 < 30
    omega
  rw [decide_eq_true this]
  rfl
theorem boot_BI : ∀ b : BI, bootBuiltins (b.id : Str) = some (.builtin b.id) := by
  intro b
  cases b <;> rfl
theorem boot_TI : ∀ b : TyI, bootBuiltins (b.id : Str) = some (.type b.id) := by
  intro b
  cases b <;> rfl
theorem BI_name (b : BI) : (b.id : Str) ≠ "__name__" := by cases b <;> decide
theorem TI_name (b : TyI) : (b.id : Str) ≠ "__name__" := by cases b <;> decide
theorem own_snd {N : List Str} {vs : List Nat} : (ownOf N vs).map (·.2) = vs := by
  unfold ownOf
  rw [List.map_map]
  exact List.map_id _
/-! test and value of one term -/
theorem toB_asB (r : Rs Bool) : (toB r).bind asB = r := by cases r <;> rfl
def S3 (X : Cx) (xp : XP) (W : WX) (x : Expr) (f : Sto → Rs D) : Prop := CE X xp W x f ∧ CT X xp W x (fun ρ => (f ρ).bind asB) ∧ ∀ op vs p, x = .BoolOp op vs p → CW X xp W x (fun ρ => (f ρ).bind asB)
section
variable {X : Cx} {xp : XP} {W : WX} {x : Expr} {f g : Sto → Rs D} {h k : Sto → Rs Bool}
theorem ct_eq (a : CT X xp W x h) (e : ∀ ρ, k ρ = h ρ) : CT X xp W x k := by
  have : k = h := funext e
  rw [this]; exact a
theorem cw_eq (a : CW X xp W x h) (e : ∀ ρ, k ρ = h ρ) : CW X xp W x k := by
  have : k = h := funext e
  rw [this]; exact a
theorem ce_eq (a : CE X xp W x f) (e : ∀ ρ, g ρ = f ρ) : CE X xp W x g := by
  have : g = f := funext e
  rw [this]; exact a
theorem mk3 (a : CE X xp W x f) (he : ∀ whole, isTrue x X.env whole = (do let v ← whole; standAt x.pos; holding [v] (truthy v))) (nb : ∀ op vs p, x ≠ .BoolOp op vs p) : S3 X xp W x f :=
  ⟨a, ct_val a he, fun op vs p e => absurd e (nb op vs p)⟩
theorem mk3t (a : CE X xp W x f) (t : CT X xp W x (fun ρ => (f ρ).bind asB)) (nb : ∀ op vs p, x ≠ .BoolOp op vs p) : S3 X xp W x f := ⟨a, t, fun op vs p e => absurd e (nb op vs p)⟩
end
end Pf

set_option Elab.async false
set_option linter.all false
set_option maxRecDepth 100000
set_option maxHeartbeats 1000000
/-! Which texts the checker lets pass. -/
namespace Pf
open PySem PySem.Spec PyProof.Rows L2
section
variable {c : Ck} {x : Expr}
theorem i_var {i : Nat} (h : c.e (.var i) x = true) : ∃ n p, x = .Name n p ∧ c.vis i n = true := by
  unfold Ck.e at h
  split at h <;> first | contradiction | skip
  rename_i heq
  cases heq
  try simp only [Bool.and_eq_true, decide_eq_true_eq, Bool.not_eq_true', and_assoc] at h
  exact ⟨_, _, rfl, h⟩
theorem i_int {i : Int} (h : c.e (.int i) x = true) : ∃ k p, x = .Constant (.int i) k p := by
  unfold Ck.e at h
  split at h <;> first | contradiction | skip
  rename_i heq
  cases heq
  try simp only [Bool.and_eq_true, decide_eq_true_eq, Bool.not_eq_true', and_assoc] at h
  subst h
  exact ⟨_, _, rfl⟩
theorem i_str {s : Str} (h : c.e (.str s) x = true) : ∃ k p, x = .Constant (.str s) k p ∧ asc s = true ∧ s.length ≤ LIM := by
  unfold Ck.e at h
  split at h <;> first | contradiction | skip
  rename_i heq
  cases heq
  try simp only [Bool.and_eq_true, decide_eq_true_eq, Bool.not_eq_true', and_assoc] at h
  obtain ⟨e0, h⟩ := h
  subst e0
  exact ⟨_, _, rfl, h⟩
theorem i_bl {b : Bool} (h : c.e (.bl b) x = true) : ∃ k p, x = .Constant (.bool b) k p := by
  unfold Ck.e at h
  split at h <;> first | contradiction | skip
  rename_i heq
  cases heq
  try simp only [Bool.and_eq_true, decide_eq_true_eq, Bool.not_eq_true', and_assoc] at h
  subst h
  exact ⟨_, _, rfl⟩
theorem i_non  (h : c.e (.non) x = true) : ∃ k p, x = .Constant .none k p := by
  unfold Ck.e at h
  split at h <;> first | contradiction | skip
  rename_i heq
  cases heq
  try simp only [Bool.and_eq_true, decide_eq_true_eq, Bool.not_eq_true', and_assoc] at h
  exact ⟨_, _, rfl⟩
theorem i_gl {k : Nat} (h : c.e (.gl k) x = true) : ∃ n p, x = .Name n p ∧ c.glo n = true ∧ (match c.Γ.gl.find? (fun p => p.1 == k) with | some (_, y, _) => decide (n = y) | none => false) = true := by
  unfold Ck.e at h
  split at h <;> first | contradiction | skip
  rename_i heq
  cases heq
  try simp only [Bool.and_eq_true, decide_eq_true_eq, Bool.not_eq_true', and_assoc] at h
  exact ⟨_, _, rfl, h⟩
theorem i_bin {o : Bi} {a b : E} (h : c.e (.bin o a b) x = true) : ∃ y z p, x = .BinOp y o.op z p ∧ c.e a y = true ∧ c.e b z = true := by
  unfold Ck.e at h
  split at h <;> first | contradiction | skip
  rename_i heq
  cases heq
  try simp only [Bool.and_eq_true, decide_eq_true_eq, Bool.not_eq_true', and_assoc] at h
  obtain ⟨e0, h⟩ := h
  subst e0
  exact ⟨_, _, _, rfl, h⟩
theorem i_neg {a : E} (h : c.e (.neg a) x = true) : ∃ y p, x = .UnaryOp .USub y p ∧ c.e a y = true := by
  unfold Ck.e at h
  split at h <;> first | contradiction | skip
  rename_i heq
  cases heq
  try simp only [Bool.and_eq_true, decide_eq_true_eq, Bool.not_eq_true', and_assoc] at h
  exact ⟨_, _, rfl, h⟩
theorem i_cmp {o : Cm} {a b : L} (h : c.e (.cmp o a b) x = true) : ∃ y z p, x = .Compare y [o.op] [z] p ∧ behindInMarks o.op z = false ∧ c.l a y = true ∧ c.l b z = true := by
  unfold Ck.e at h
  split at h <;> first | contradiction | skip
  rename_i heq
  cases heq
  try simp only [Bool.and_eq_true, decide_eq_true_eq, Bool.not_eq_true', and_assoc] at h
  obtain ⟨e0, h⟩ := h
  subst e0
  exact ⟨_, _, _, rfl, h⟩
theorem i_ch {o1 o2 : Cm} {a b d : L} (h : c.e (.ch o1 o2 a b d) x = true) : ∃ y z u p, x = .Compare y [o1.op, o2.op] [z, u] p ∧ lastMarks [o1.op, o2.op] [z, u] = false ∧ c.l a y = true ∧ c.l b z = true ∧ c.l d u = true := by
  unfold Ck.e at h
  split at h <;> first | contradiction | skip
  rename_i heq
  cases heq
  try simp only [Bool.and_eq_true, decide_eq_true_eq, Bool.not_eq_true', and_assoc] at h
  obtain ⟨e0, h⟩ := h
  subst e0
  obtain ⟨e1, h⟩ := h
  subst e1
  exact ⟨_, _, _, _, rfl, h⟩
theorem i_not {a : E} (h : c.e (.not a) x = true) : ∃ y p, x = .UnaryOp .Not y p ∧ c.e a y = true := by
  unfold Ck.e at h
  split at h <;> first | contradiction | skip
  rename_i heq
  cases heq
  try simp only [Bool.and_eq_true, decide_eq_true_eq, Bool.not_eq_true', and_assoc] at h
  exact ⟨_, _, rfl, h⟩
theorem i_and {a b : E} (h : c.e (.and a b) x = true) : ∃ y z r p, x = .BoolOp .And (y :: z :: r) p ∧ c.e a y = true ∧ (match r with | [] => c.e b z | u :: r => c.e b (.BoolOp .And (z :: u :: r) p)) = true := by
  unfold Ck.e at h
  split at h <;> first | contradiction | skip
  rename_i heq
  cases heq
  try simp only [Bool.and_eq_true, decide_eq_true_eq, Bool.not_eq_true', and_assoc] at h
  exact ⟨_, _, _, _, rfl, h⟩
theorem i_or {a b : E} (h : c.e (.or a b) x = true) : ∃ y z r p, x = .BoolOp .Or (y :: z :: r) p ∧ c.e a y = true ∧ (match r with | [] => c.e b z | u :: r => c.e b (.BoolOp .Or (z :: u :: r) p)) = true := by
  unfold Ck.e at h
  split at h <;> first | contradiction | skip
  rename_i heq
  cases heq
  try simp only [Bool.and_eq_true, decide_eq_true_eq, Bool.not_eq_true', and_assoc] at h
  exact ⟨_, _, _, _, rfl, h⟩
theorem i_ife {d a b : E} (h : c.e (.ife d a b) x = true) : ∃ y z u p, x = .IfExp y z u p ∧ c.e d y = true ∧ c.e a z = true ∧ c.e b u = true := by
  unfold Ck.e at h
  split at h <;> first | contradiction | skip
  rename_i heq
  cases heq
  try simp only [Bool.and_eq_true, decide_eq_true_eq, Bool.not_eq_true', and_assoc] at h
  exact ⟨_, _, _, _, rfl, h⟩
theorem i_tup {es : Es} (h : c.e (.tup es) x = true) : ∃ ys k p, x = .Tuple ys k p ∧ c.es es ys = true := by
  unfold Ck.e at h
  split at h <;> first | contradiction | skip
  rename_i heq
  cases heq
  try simp only [Bool.and_eq_true, decide_eq_true_eq, Bool.not_eq_true', and_assoc] at h
  exact ⟨_, _, _, rfl, h⟩
theorem i_lst {es : Es} (h : c.e (.lst es) x = true) : ∃ ys p, x = .List ys p ∧ c.es es ys = true := by
  unfold Ck.e at h
  split at h <;> first | contradiction | skip
  rename_i heq
  cases heq
  try simp only [Bool.and_eq_true, decide_eq_true_eq, Bool.not_eq_true', and_assoc] at h
  exact ⟨_, _, rfl, h⟩
theorem i_ix {a b : E} (h : c.e (.ix a b) x = true) : ∃ y z p, x = .Subscript y z p ∧ noSlice z = true ∧ c.e a y = true ∧ c.e b z = true := by
  unfold Ck.e at h
  split at h <;> first | contradiction | skip
  rename_i heq
  cases heq
  try simp only [Bool.and_eq_true, decide_eq_true_eq, Bool.not_eq_true', and_assoc] at h
  exact ⟨_, _, _, rfl, h⟩
theorem i_oix {i : Nat} {b : E} (h : c.e (.oix i b) x = true) : ∃ n q z p, x = .Subscript (.Name n q) z p ∧ noSlice z = true ∧ c.vis i n = true ∧ c.e b z = true := by
  unfold Ck.e at h
  split at h <;> first | contradiction | skip
  rename_i heq
  cases heq
  try simp only [Bool.and_eq_true, decide_eq_true_eq, Bool.not_eq_true', and_assoc] at h
  exact ⟨_, _, _, _, rfl, h⟩
theorem i_sl {a : E} {lo hi : Eo} (h : c.e (.sl a lo hi) x = true) : ∃ y l u q p, x = .Subscript y (.Slice l u none q) p ∧ c.e a y = true ∧ c.o lo l = true ∧ c.o hi u = true := by
  unfold Ck.e at h
  split at h <;> first | contradiction | skip
  rename_i heq
  cases heq
  try simp only [Bool.and_eq_true, decide_eq_true_eq, Bool.not_eq_true', and_assoc] at h
  exact ⟨_, _, _, _, _, rfl, h⟩
theorem i_rev {a : E} (h : c.e (.rev a) x = true) : ∃ y k p1 p2 p3 p, x = .Subscript y (.Slice none none (some (.UnaryOp .USub (.Constant (.int 1) k p1) p2)) p3) p ∧ c.e a y = true := by
  unfold Ck.e at h
  split at h <;> first | contradiction | skip
  rename_i heq
  cases heq
  try simp only [Bool.and_eq_true, decide_eq_true_eq, Bool.not_eq_true', and_assoc] at h
  exact ⟨_, _, _, _, _, _, rfl, h⟩
theorem i_bi {f : BI} {es : Es} (h : c.e (.bi f es) x = true) : ∃ q y ys p, x = .Call (.Name (f.id : Str) q) (y :: ys) [] p ∧ (c.cm || f.quiet) = true ∧ c.blt (f.id : Str) = true ∧ c.es es (y :: ys) = true := by
  unfold Ck.e at h
  split at h <;> first | contradiction | skip
  rename_i heq
  cases heq
  try simp only [Bool.and_eq_true, decide_eq_true_eq, Bool.not_eq_true', and_assoc] at h
  obtain ⟨e0, h⟩ := h
  subst e0
  exact ⟨_, _, _, _, rfl, h⟩
theorem i_ti {f : TyI} {es : Es} (h : c.e (.ti f es) x = true) : ∃ q y ys p, x = .Call (.Name (f.id : Str) q) (y :: ys) [] p ∧ c.blt (f.id : Str) = true ∧ c.es es (y :: ys) = true := by
  unfold Ck.e at h
  split at h <;> first | contradiction | skip
  rename_i heq
  cases heq
  try simp only [Bool.and_eq_true, decide_eq_true_eq, Bool.not_eq_true', and_assoc] at h
  obtain ⟨e0, h⟩ := h
  subst e0
  exact ⟨_, _, _, _, rfl, h⟩
theorem i_len {a : L} (h : c.e (.len a) x = true) : ∃ q y p, x = .Call (.Name "len" q) [y] [] p ∧ c.blt "len" = true ∧ noStar y = true ∧ c.l a y = true := by
  unfold Ck.e at h
  split at h <;> first | contradiction | skip
  rename_i heq
  cases heq
  try simp only [Bool.and_eq_true, decide_eq_true_eq, Bool.not_eq_true', and_assoc] at h
  obtain ⟨e0, h⟩ := h
  subst e0
  exact ⟨_, _, _, rfl, h⟩
theorem i_mt {m : MI} {a : E} {es : Es} (h : c.e (.mt m a es) x = true) : ∃ u p1 y ys p, x = .Call (.Attribute u (m.nm : Str) p1) (y :: ys) [] p ∧ noSup u = true ∧ (p1.endLine == p.line) = true ∧ ys.length < 20 ∧ c.e a u = true ∧ c.es es (y :: ys) = true := by
  unfold Ck.e at h
  split at h <;> first | contradiction | skip
  rename_i heq
  cases heq
  try simp only [Bool.and_eq_true, decide_eq_true_eq, Bool.not_eq_true', and_assoc] at h
  obtain ⟨e0, h⟩ := h
  subst e0
  exact ⟨_, _, _, _, _, rfl, h⟩
theorem i_call {k : Nat} {es : Es} (h : c.e (.call k es) x = true) : ∃ n q ys p, x = .Call (.Name n q) ys [] p ∧ c.cm = true ∧ c.glo n = true ∧ (match c.Γ.fs.find? (fun p => p.1 == k) with | some (_, y, _) => decide (n = y) | none => false) = true ∧ c.es es ys = true := by
  unfold Ck.e at h
  split at h <;> first | contradiction | skip
  rename_i heq
  cases heq
  try simp only [Bool.and_eq_true, decide_eq_true_eq, Bool.not_eq_true', and_assoc] at h
  exact ⟨_, _, _, _, rfl, h⟩
theorem i_isa {a : L} {T : TyN} (h : c.e (.isa a T) x = true) : ∃ q y p2 p, x = .Call (.Name "isinstance" q) [y, .Name (T.nm : Str) p2] [] p ∧ c.blt "isinstance" = true ∧ c.blt (T.nm : Str) = true ∧ noStar y = true ∧ c.l a y = true := by
  unfold Ck.e at h
  split at h <;> first | contradiction | skip
  rename_i heq
  cases heq
  try simp only [Bool.and_eq_true, decide_eq_true_eq, Bool.not_eq_true', and_assoc] at h
  obtain ⟨e0, h⟩ := h
  subst e0
  obtain ⟨e1, h⟩ := h
  subst e1
  exact ⟨_, _, _, _, rfl, h⟩
theorem i_isa2 {a : L} {T U : TyN} (h : c.e (.isa2 a T U) x = true) : ∃ q y p2 p3 k p1 p, x = .Call (.Name "isinstance" q) [y, .Tuple [.Name (T.nm : Str) p2, .Name (U.nm : Str) p3] k p1] [] p ∧ c.blt "isinstance" = true ∧ c.blt (T.nm : Str) = true ∧ c.blt (U.nm : Str) = true ∧ noStar y = true ∧ c.l a y = true := by
  unfold Ck.e at h
  split at h <;> first | contradiction | skip
  rename_i heq
  cases heq
  try simp only [Bool.and_eq_true, decide_eq_true_eq, Bool.not_eq_true', and_assoc] at h
  obtain ⟨e0, h⟩ := h
  subst e0
  obtain ⟨e1, h⟩ := h
  subst e1
  obtain ⟨e2, h⟩ := h
  subst e2
  exact ⟨_, _, _, _, _, _, _, rfl, h⟩
theorem i_lc {t : Tg} {vs : List Nat} {it : I} {cond : Eo} {elt : E} (h : c.e (.lc t vs it cond elt) x = true) : ∃ y tg iter ifs scope p, x = .ListComp y [⟨tg, iter, ifs, 0⟩] scope p ∧ c.cm = true ∧ noSet iter = true ∧ slotsIn t vs = true ∧ blkC c.N c.sc scope (ownOf c.N vs) = true ∧ c.i tg it iter = true ∧ (c.blk scope).tg t tg = true ∧ (c.blk scope).cs cond ifs = true ∧ (c.blk scope).e elt y = true := by
  unfold Ck.e at h
  split at h <;> first | contradiction | skip
  rename_i heq
  cases heq
  try simp only [Bool.and_eq_true, decide_eq_true_eq, Bool.not_eq_true', and_assoc] at h
  exact ⟨_, _, _, _, _, _, rfl, h⟩
theorem i_lenks {t : Tg} {vs : List Nat} {it : I} {cond : Eo} {elt : E} (h : c.e (.lenks t vs it cond elt) x = true) : ∃ q y tg iter ifs scope p1 p, x = .Call (.Name "len" q) [.SetComp y [⟨tg, iter, ifs, 0⟩] scope p1] [] p ∧ c.blt "len" = true ∧ c.cm = true ∧ noSet iter = true ∧ slotsIn t vs = true ∧ blkC c.N c.sc scope (ownOf c.N vs) = true ∧ c.i tg it iter = true ∧ (c.blk scope).tg t tg = true ∧ (c.blk scope).cs cond ifs = true ∧ (c.blk scope).e elt y = true := by
  unfold Ck.e at h
  split at h <;> first | contradiction | skip
  rename_i heq
  cases heq
  try simp only [Bool.and_eq_true, decide_eq_true_eq, Bool.not_eq_true', and_assoc] at h
  obtain ⟨e0, h⟩ := h
  subst e0
  exact ⟨_, _, _, _, _, _, _, _, rfl, h⟩
theorem i_xat {i : Nat} {f : Str} (h : c.e (.xat i f) x = true) : ∃ n q p, x = .Attribute (.Name n q) f p ∧ c.cm = false ∧ c.vis i n = true := by
  unfold Ck.e at h
  split at h <;> first | contradiction | skip
  rename_i heq
  cases heq
  try simp only [Bool.and_eq_true, decide_eq_true_eq, Bool.not_eq_true', and_assoc] at h
  obtain ⟨e0, h⟩ := h
  subst e0
  exact ⟨_, _, _, rfl, h⟩
theorem i_xis {i : Nat} {y : Str} (h : c.e (.xis i y) x = true) : ∃ q n p1 p2 p, x = .Call (.Name "isinstance" q) [.Name n p1, .Name y p2] [] p ∧ c.cm = false ∧ c.blt "isinstance" = true ∧ c.vis i n = true ∧ c.glo y = true := by
  unfold Ck.e at h
  split at h <;> first | contradiction | skip
  rename_i heq
  cases heq
  try simp only [Bool.and_eq_true, decide_eq_true_eq, Bool.not_eq_true', and_assoc] at h
  obtain ⟨e0, h⟩ := h
  subst e0
  obtain ⟨e1, h⟩ := h
  subst e1
  exact ⟨_, _, _, _, _, rfl, h⟩
theorem i_dic0  (h : c.e (.dic0) x = true) : ∃ p, x = .Dict [] [] p := by
  unfold Ck.e at h
  split at h <;> first | contradiction | skip
  rename_i heq
  cases heq
  try simp only [Bool.and_eq_true, decide_eq_true_eq, Bool.not_eq_true', and_assoc] at h
  exact ⟨_, rfl⟩
theorem i_lenset {a : L} (h : c.e (.lenset a) x = true) : ∃ q q2 z p2 p, x = .Call (.Name "len" q) [.Call (.Name "set" q2) [z] [] p2] [] p ∧ c.cm = true ∧ c.blt "len" = true ∧ c.blt "set" = true ∧ noStar z = true ∧ c.l a z = true := by
  unfold Ck.e at h
  split at h <;> first | contradiction | skip
  rename_i heq
  cases heq
  try simp only [Bool.and_eq_true, decide_eq_true_eq, Bool.not_eq_true', and_assoc] at h
  obtain ⟨e0, h⟩ := h
  subst e0
  obtain ⟨e1, h⟩ := h
  subst e1
  exact ⟨_, _, _, _, _, rfl, h⟩
theorem i_mz {m : MZ} {a : E} (h : c.e (.mz m a) x = true) : ∃ u p1 p, x = .Call (.Attribute u (m.nm : Str) p1) [] [] p ∧ noSup u = true ∧ (p1.endLine == p.line) = true ∧ c.e a u = true := by
  unfold Ck.e at h
  split at h <;> first | contradiction | skip
  rename_i heq
  cases heq
  try simp only [Bool.and_eq_true, decide_eq_true_eq, Bool.not_eq_true', and_assoc] at h
  obtain ⟨e0, h⟩ := h
  subst e0
  exact ⟨_, _, _, rfl, h⟩
theorem i_lstR {a : E} {k : Str} {es : Es} (h : c.e (.lstR a k es) x = true) : ∃ u j p1 p2 ys p, x = .List (.BinOp u .Add (.Constant (.str k) j p1) p2 :: ys) p ∧ asc k = true ∧ k.length ≤ LIM ∧ c.e a u = true ∧ c.er es ys = true := by
  unfold Ck.e at h
  split at h <;> first | contradiction | skip
  rename_i heq
  cases heq
  try simp only [Bool.and_eq_true, decide_eq_true_eq, Bool.not_eq_true', and_assoc] at h
  obtain ⟨e0, h⟩ := h
  subst e0
  exact ⟨_, _, _, _, _, _, rfl, h⟩
end
end Pf

set_option Elab.async false
set_option linter.all false
set_option maxRecDepth 100000
/-! The terms are sound. -/
namespace Pf
open PySem PySem.Spec PyProof.Rows L2

section
variable {X : Cx} {xp : XP} {W : WX} {x y : Expr} {f g : Sto → Rs D} {pos : Pos}
theorem s3_not (a : S3 X xp W x f) : S3 X xp W (.UnaryOp .Not x pos) (fun ρ => ((f ρ).bind asB).bind fun b => .ok (.bool (!b))) :=
  mk3t (ce_not a.1) (ct_eq (ct_not a.2.1) fun ρ => by cases (f ρ).bind asB <;> rfl) (by intro _ _ _ h; cases h)
theorem s3_ife {z : Expr} {t : Sto → Rs D} (d : S3 X xp W z t) (a : S3 X xp W x f) (b : S3 X xp W y g) : S3 X xp W (.IfExp z x y pos) (fun ρ => ((t ρ).bind asB).bind fun k => if k = true then f ρ else g ρ) :=
  mk3t (ce_if d.2.1 a.1 b.1) (ct_eq (ct_if d.2.1 a.2.1 b.2.1) fun ρ => by
    cases (t ρ).bind asB with
    | ok k => cases k <;> rfl
    | ex e => rfl
    | bad => rfl) (by intro _ _ _ h; cases h)
theorem and_eq (ρ : Sto) : (((f ρ).bind asB).bind fun k => if k = true then g ρ else .ok (.bool false)).bind asB = ((f ρ).bind asB).bind fun k => if k = true then (g ρ).bind asB else .ok false := by
  cases (f ρ).bind asB with
  | ok k => cases k <;> rfl
  | ex e => rfl
  | bad => rfl
theorem or_eq (ρ : Sto) : (((f ρ).bind asB).bind fun k => if k = true then .ok (.bool true) else g ρ).bind asB = ((f ρ).bind asB).bind fun k => if k = true then .ok true else (g ρ).bind asB := by
  cases (f ρ).bind asB with
  | ok k => cases k <;> rfl
  | ex e => rfl
  | bad => rfl
theorem s3_and2 (a : S3 X xp W x f) (b : S3 X xp W y g) : S3 X xp W (.BoolOp .And [x, y] pos) (fun ρ => ((f ρ).bind asB).bind fun k => if k = true then g ρ else .ok (.bool false)) := by
  have cw : CW X xp W (.BoolOp .And [x, y] pos) (fun ρ => (((f ρ).bind asB).bind fun k => if k = true then g ρ else .ok (.bool false)).bind asB) := cw_eq (cw_and a.2.1 (cw_and1 b.2.1)) fun ρ => and_eq ρ
  exact ⟨ce_and a.1 (ce_one b.1), ct_of_cw cw, fun op vs p e => cw⟩
theorem s3_and {z : Expr} {r : List Expr} (a : S3 X xp W x f) (b : S3 X xp W (.BoolOp .And (y :: z :: r) pos) g) : S3 X xp W (.BoolOp .And (x :: y :: z :: r) pos) (fun ρ => ((f ρ).bind asB).bind fun k => if k = true then g ρ else .ok (.bool false)) := by
  have cw : CW X xp W (.BoolOp .And (x :: y :: z :: r) pos) (fun ρ => (((f ρ).bind asB).bind fun k => if k = true then g ρ else .ok (.bool false)).bind asB) := cw_eq (cw_and a.2.1 (b.2.2 _ _ _ rfl)) fun ρ => and_eq ρ
  exact ⟨ce_and a.1 b.1, ct_of_cw cw, fun op vs p e => cw⟩
theorem s3_or2 (a : S3 X xp W x f) (b : S3 X xp W y g) : S3 X xp W (.BoolOp .Or [x, y] pos) (fun ρ => ((f ρ).bind asB).bind fun k => if k = true then .ok (.bool true) else g ρ) := by
  have cw : CW X xp W (.BoolOp .Or [x, y] pos) (fun ρ => (((f ρ).bind asB).bind fun k => if k = true then .ok (.bool true) else g ρ).bind asB) := cw_eq (cw_or a.2.1 (cw_or1 b.2.1)) fun ρ => or_eq ρ
  exact ⟨ce_or a.1 (ce_one b.1), ct_of_cw cw, fun op vs p e => cw⟩
theorem s3_or {z : Expr} {r : List Expr} (a : S3 X xp W x f) (b : S3 X xp W (.BoolOp .Or (y :: z :: r) pos) g) : S3 X xp W (.BoolOp .Or (x :: y :: z :: r) pos) (fun ρ => ((f ρ).bind asB).bind fun k => if k = true then .ok (.bool true) else g ρ) := by
  have cw : CW X xp W (.BoolOp .Or (x :: y :: z :: r) pos) (fun ρ => (((f ρ).bind asB).bind fun k => if k = true then .ok (.bool true) else g ρ).bind asB) := cw_eq (cw_or a.2.1 (b.2.2 _ _ _ rfl)) fun ρ => or_eq ρ
  exact ⟨ce_or a.1 b.1, ct_of_cw cw, fun op vs p e => cw⟩
theorem limT_ite (xs : List D) (k : List D → D) : (if xs.length ≤ LIM then Rs.ok xs else .bad).bind (fun ds => .ok (k ds)) = limT xs k := by
  unfold limT
  by_cases h : xs.length ≤ LIM
  · rw [if_pos h, if_pos h]; rfl
  · rw [if_neg h, if_neg h]; rfl
end
section
variable {c : Ck} {X : Cx} {xp : XP} {W : WX}
/-- repr needs no calm -/
theorem bi_opC (A : At c X xp W) (f : BI) (h : (c.cm || f.quiet) = true) : CallR X (.builtin f.id) (rBI X.K f) := by
  cases hc : c.cm with
  | true => exact bi_op (A.cm hc) A.nore A.hu f
  | false =>
    rw [hc, Bool.false_or] at h
    cases f <;> first | cases h; done | exact call_reprD A.nore A.hu
theorem s3_xat {i : Nat} {f x : Str} {p pos : Pos} (A : At c X xp W) (cm : c.cm = false) (h : c.vis i x = true) : CE X xp W (.Attribute (.Name x p) f pos) (sem c.Γ (.xat i f)) := by
  obtain ⟨h1, h2, h3, h4⟩ := A.vis_of h
  obtain ⟨X0, a, D0, dd, oe, pn, y, f0, rfl, rfl, rfl, ay, ask, hz, hf, gy⟩ := A.su cm
  by_cases e : f = f0
  · subst e
    refine pe_imp (ce_xat ask hz hf h1 h2 h3 h4 (base_of rfl)) fun σ H Q ⟨ρ, O, R, q⟩ => ⟨ρ, O, R, ?_⟩
    have q : End X0.K X0.mg W0 O σ H (fun d H' => ∀ v, Dn X0.K (msk H' O) v d → Q v H') ((getX ρ i).bind fun e => if c.Γ.at_ e.cls = some f ∧ e.attr = f then .ok e.val else .bad) := q
    show End X0.K X0.mg W0 O σ H _ ((getX ρ i).bind fun e => if e.attr = f then .ok e.val else .bad)
    cases gx : getX ρ i with
    | ok e =>
      rw [gx] at q
      have q : End X0.K X0.mg W0 O σ H (fun d H' => ∀ v, Dn X0.K (msk H' O) v d → Q v H') (if c.Γ.at_ e.cls = some f ∧ e.attr = f then .ok e.val else .bad) := q
      obtain ⟨⟨_, e2⟩, q⟩ := end_ite q
      show End X0.K X0.mg W0 O σ H _ (if e.attr = f then .ok e.val else .bad)
      rw [if_pos e2]
      exact q
    | ex e => rw [gx] at q; exact q
    | bad => rw [gx] at q; exact q
  · refine ⟨fun pins s σ H Q I ⟨ρ, O, R, q⟩ => ?_⟩
    have q : End X0.K X0.mg W0 O σ H (fun d H' => ∀ v, Dn X0.K (msk H' O) v d → Q v H') ((getX ρ i).bind fun e => if c.Γ.at_ e.cls = some f ∧ e.attr = f then .ok e.val else .bad) := q
    unfold getX at q
    split at q
    · rename_i e2 hh
      obtain ⟨v, k1, a', dd', w, k2, _⟩ := R.at_ i _ hh
      cases k2
      have q : End X0.K X0.mg W0 O σ H (fun d H' => ∀ v, Dn X0.K (msk H' O) v d → Q v H') (if c.Γ.at_ e2.cls = some f ∧ e2.attr = f then .ok e2.val else .bad) := q
      obtain ⟨⟨e3, _⟩, q⟩ := end_ite q
      rw [ay] at e3
      exact absurd (Option.some.inj e3).symm e
    · exact q.elim
theorem s3_xis {i : Nat} {x y : Str} {p p1 p2 pos : Pos} (A : At c X xp W) (cm : c.cm = false) (hb : c.blt "isinstance" = true) (h : c.vis i x = true) (hy : c.glo y = true) : CE X xp W (.Call (.Name "isinstance" p) [.Name x p1, .Name y p2] [] pos) (sem c.Γ (.xis i y)) := by
  obtain ⟨h1, h2, h3, h4⟩ := A.vis_of h
  obtain ⟨b1, _, b3⟩ := A.blt_of hb
  obtain ⟨g1, g2⟩ := A.glo_of hy
  have sb := A.sb
  obtain ⟨X0, a, D0, dd, oe, pn, z, f0, rfl, rfl, rfl, ay, ask, hz, hf, gy⟩ := A.su cm
  exact ce_xis ask hz hf h1 h2 h3 h4 b1 b3 g1 g2 gy fun b e => sb z y b e
end
theorem Es.any {c : Ck} {es : Es} {y : Expr} {ys : List Expr} {env : Env} {pos : Pos} (h : c.es es (y :: ys) = true) : starEach (y :: ys) env = (false, eval y env) :: starEach ys env ∧ (backTo pos (starEach ys env)).any (·.1) = false := by
  cases es with
  | nil => unfold Ck.es at h; cases h
  | rep => exact (es_rep h).elim
  | cons e es =>
    have h : (noStar y && c.e e y && c.es es ys) = true := h
    simp only [Bool.and_eq_true] at h
    exact ⟨star_cons h.1.1, by rw [any_back]; exact es_plain h.2⟩
theorem folded {e : Expr} {env : Env} (h : noSet e = true) : ∀ x, foldedSetIterable e env x = pure x := by
  intro x
  cases e <;> first | rfl | cases h
theorem cs_none {c : Ck} {xs : List Expr} (h : c.cs .none xs = true) : xs = [] := by
  cases xs with
  | nil => rfl
  | cons x xs => cases h
theorem cs_some {c : Ck} {e : E} {xs : List Expr} (h : c.cs (.some e) xs = true) : ∃ x, xs = [x] ∧ c.e e x = true := by
  match xs, h with
  | [x], h => exact ⟨x, rfl, h⟩
  | [], h => cases h
  | _ :: _ :: _, h => cases h
theorem o_none {c : Ck} {x : Option Expr} (h : c.o .none x = true) : x = none := by
  cases x with
  | none => rfl
  | some x => cases h
theorem o_some {c : Ck} {e : E} {x : Option Expr} (h : c.o (.some e) x = true) : ∃ y, x = some y ∧ c.e e y = true := by
  cases x with
  | none => cases h
  | some x => exact ⟨x, rfl, h⟩
theorem es_nil {c : Ck} {xs : List Expr} (h : c.es .nil xs = true) : xs = [] := by
  cases xs with
  | nil => rfl
  | cons x xs => cases h
theorem es_cons {c : Ck} {e : E} {es : Es} {xs : List Expr} (h : c.es (.cons e es) xs = true) : ∃ y ys, xs = y :: ys ∧ noStar y = true ∧ c.e e y = true ∧ c.es es ys = true := by
  cases xs with
  | nil => cases h
  | cons x xs =>
    have h : (noStar x && c.e e x && c.es es xs) = true := h
    simp only [Bool.and_eq_true, and_assoc] at h
    exact ⟨x, xs, rfl, h⟩
theorem er_nil {c : Ck} {xs : List Expr} (h : c.er .nil xs = true) : xs = [] := by
  cases xs with
  | nil => rfl
  | cons x xs => cases h
theorem er_cons {c : Ck} {e : E} {es : Es} {xs : List Expr} (h : c.er (.cons e es) xs = true) : ∃ y ys, xs = y :: ys ∧ noStar y = true ∧ c.e e y = true ∧ c.er es ys = true := by
  cases xs with
  | nil => cases h
  | cons x xs =>
    have h : (noStar x && c.e e x && c.er es xs) = true := h
    simp only [Bool.and_eq_true, and_assoc] at h
    exact ⟨x, xs, rfl, h⟩
theorem er_rep {c : Ck} {a : E} {y z : Str} {es : Es} {xs : List Expr} (h : c.er (.rep a y z es) xs = true) : ∃ u p1 j p2 k p3 p ys, xs = .Call (.Attribute u "replace" p1) [.Constant (.str y) j p2, .Constant (.str z) k p3] [] p :: ys ∧
    noSup u = true ∧ (p1.endLine == p.line) = true ∧ asc z = true ∧ (y == z) = false ∧ c.e a u = true ∧ c.er es ys = true := by
  unfold Ck.er at h
  split at h <;> first | contradiction | skip
  rename_i heq
  cases heq
  simp only [Bool.and_eq_true, decide_eq_true_eq, Bool.not_eq_true', and_assoc] at h
  obtain ⟨e0, e1, e2, h⟩ := h
  subst e0 e1 e2
  exact ⟨_, _, _, _, _, _, _, _, rfl, h⟩
theorem PE.one {X : Cx} {xp : XP} {W : WX} {e : Expr} {f : Sto → Rs D} (h : CE X xp W e f) : CE1 X xp W e f := CwR.PET.of h
theorem l_ov {c : Ck} {i : Nat} {x : Expr} (h : c.l (.ov i) x = true) : ∃ n p, x = .Name n p ∧ c.vis i n = true := by
  unfold Ck.l at h
  split at h <;> first | contradiction | skip
  rename_i heq
  cases heq
  exact ⟨_, _, rfl, h⟩
theorem ii_r1 {c : Ck} {a : E} {tg x : Expr} (h : c.i tg (.r1 a) x = true) : ∃ q y p, x = .Call (.Name "range" q) [y] [] p ∧ c.blt "range" = true ∧ noStar y = true ∧ c.e a y = true := by
  unfold Ck.i at h
  split at h <;> first | contradiction | skip
  rename_i heq
  cases heq
  simp only [Bool.and_eq_true, decide_eq_true_eq, and_assoc] at h
  obtain ⟨e0, h⟩ := h
  subst e0
  exact ⟨_, _, _, rfl, h⟩
theorem ii_r2 {c : Ck} {a b : E} {tg x : Expr} (h : c.i tg (.r2 a b) x = true) : ∃ q y z p, x = .Call (.Name "range" q) [y, z] [] p ∧ c.blt "range" = true ∧ noStar y = true ∧ noStar z = true ∧ c.e a y = true ∧ c.e b z = true := by
  unfold Ck.i at h
  split at h <;> first | contradiction | skip
  rename_i heq
  cases heq
  simp only [Bool.and_eq_true, decide_eq_true_eq, and_assoc] at h
  obtain ⟨e0, h⟩ := h
  subst e0
  exact ⟨_, _, _, _, rfl, h⟩
def isTup : Expr → Bool
  | .Tuple .. => true
  | _ => false
theorem ii_enum {c : Ck} {a : E} {tg x : Expr} (h : c.i tg (.enum a) x = true) : ∃ q y p, x = .Call (.Name "enumerate" q) [y] [] p ∧ c.blt "enumerate" = true ∧ isTup tg = true ∧ noStar y = true ∧ c.e a y = true := by
  unfold Ck.i at h
  split at h <;> first | contradiction | skip
  rename_i heq
  cases heq
  simp only [Bool.and_eq_true, decide_eq_true_eq, and_assoc] at h
  obtain ⟨e0, h⟩ := h
  subst e0
  exact ⟨_, _, _, rfl, h⟩
theorem limT_tup {X : Cx} {xp : XP} {W : WX} {x : Expr} {fs : Sto → Rs (List D)} (h : CE X xp W x (fun ρ => (fs ρ).bind fun xs => if xs.length ≤ LIM then .ok (.tuple xs) else .bad)) : CE X xp W x (fun ρ => (fs ρ).bind fun xs => limT xs .tuple) := h
theorem limT_lst {X : Cx} {xp : XP} {W : WX} {x : Expr} {fs : Sto → Rs (List D)} (h : CF X xp W x (fun ρ => (fs ρ).bind fun xs => if xs.length ≤ LIM then .ok xs else .bad)) : CE X xp W x (fun ρ => (fs ρ).bind fun xs => limT xs .list) :=
  ce_eq h.ce fun ρ => by
    rw [Rs.bind_assoc]
    congr 1
    funext xs
    exact (limT_ite xs .list).symm
theorem call_eq {Γ : Gs} {k n j : Nat} {y : Str} {m : List D → Rs D} (e : Γ.fs.find? (fun p => p.1 == k) = some (j, y, n, m)) (ds : List D) : callG Γ k ds = if ds.length = n then m ds else .bad := by
  unfold callG
  rw [e]

mutual
theorem sE : ∀ (e : E) (c : Ck) (x : Expr) (X : Cx) (xp : XP) (W : WX), At c X xp W → c.e e x = true → S3 X xp W x (sem c.Γ e)
  | .var i, c, x, X, xp, W, A, h => by
    obtain ⟨n, p, rfl, h⟩ := i_var h
    obtain ⟨h1, h2, h3, h4⟩ := A.vis_of h
    exact mk3 (ce_var h1 h2 h3 h4) (fun _ => rfl) (by intro _ _ _ h; cases h)
  | .int i, c, x, X, xp, W, A, h => by
    obtain ⟨k, p, rfl⟩ := i_int h
    exact mk3 ce_int (fun _ => rfl) (by intro _ _ _ h; cases h)
  | .str s, c, x, X, xp, W, A, h => by
    obtain ⟨k, p, rfl, h1, h2⟩ := i_str h
    exact mk3 (ce_str h1 h2) (fun _ => rfl) (by intro _ _ _ h; cases h)
  | .bl b, c, x, X, xp, W, A, h => by
    obtain ⟨k, p, rfl⟩ := i_bl h
    exact mk3 ce_bl (fun _ => rfl) (by intro _ _ _ h; cases h)
  | .non, c, x, X, xp, W, A, h => by
    obtain ⟨k, p, rfl⟩ := i_non h
    exact mk3 ce_non (fun _ => rfl) (by intro _ _ _ h; cases h)
  | .gl k, c, x, X, xp, W, A, h => by
    obtain ⟨n, p, rfl, h1, h2⟩ := i_gl h
    obtain ⟨g1, g2⟩ := A.glo_of h1
    cases e : c.Γ.gl.find? (fun p => p.1 == k) with
    | none => rw [e] at h2; cases h2
    | some q =>
      rw [e] at h2
      obtain ⟨j, y, d⟩ := q
      have h2 : n = y := by simpa using h2
      subst h2
      obtain ⟨u, v, m, r, hd⟩ := A.gl j n d (List.mem_of_find?_eq_some e)
      refine mk3 (ce_eq (ce_const (pe_glob g1 m r g2) hd) fun ρ => ?_) (fun _ => rfl) (by intro _ _ _ h; cases h)
      show glG c.Γ k = _
      unfold glG
      rw [e]
  | .bin o a b, c, x, X, xp, W, A, h => by
    obtain ⟨y, z, p, rfl, h1, h2⟩ := i_bin h
    exact mk3 (ce_bin (bin_op o) (bin_im o) (sE a c y X xp W A h1).1 (sE b c z X xp W A h2).1) (fun _ => rfl) (by intro _ _ _ h; cases h)
  | .neg a, c, x, X, xp, W, A, h => by
    obtain ⟨y, p, rfl, h1⟩ := i_neg h
    exact mk3 (ce_neg (sE a c y X xp W A h1).1) (fun _ => rfl) (by intro _ _ _ h; cases h)
  | .cmp o a b, c, x, X, xp, W, A, h => by
    obtain ⟨y, z, p, rfl, hm, h1, h2⟩ := i_cmp h
    have hu : X.A.units + 65 < cLine := Nat.lt_of_le_of_lt (Nat.add_le_add_left (by decide) _) A.hu
    have ha := sL a c y X xp W A h1
    have hb := sL b c z X xp W A h2
    exact mk3t (ce_cmp (cmp_op hu o) (cmp_im o) ha hb hm) (ct_cmp (cmp_op hu o) (cmp_im o) ha hb hm) (by intro _ _ _ h; cases h)
  | .ch o1 o2 a b d, c, x, X, xp, W, A, h => by
    obtain ⟨y, z, u, p, rfl, hm, h1, h2, h3⟩ := i_ch h
    have hu : X.A.units + 65 < cLine := Nat.lt_of_le_of_lt (Nat.add_le_add_left (by decide) _) A.hu
    have ha := sL a c y X xp W A h1
    have hb := sL b c z X xp W A h2
    have hd := sL d c u X xp W A h3
    exact mk3t (ce_chain hu ha hb hd hm) (ct_eq (ct_chain hu ha hb hd hm) fun ρ => toB_asB _) (by intro _ _ _ h; cases h)
  | .not a, c, x, X, xp, W, A, h => by
    obtain ⟨y, p, rfl, h1⟩ := i_not h
    exact s3_not (sE a c y X xp W A h1)
  | .and a b, c, x, X, xp, W, A, h => by
    obtain ⟨y, z, r, p, rfl, h1, h2⟩ := i_and h
    cases r with
    | nil => exact s3_and2 (sE a c y X xp W A h1) (sE b c z X xp W A h2)
    | cons u r => exact s3_and (sE a c y X xp W A h1) (sE b c _ X xp W A h2)
  | .or a b, c, x, X, xp, W, A, h => by
    obtain ⟨y, z, r, p, rfl, h1, h2⟩ := i_or h
    cases r with
    | nil => exact s3_or2 (sE a c y X xp W A h1) (sE b c z X xp W A h2)
    | cons u r => exact s3_or (sE a c y X xp W A h1) (sE b c _ X xp W A h2)
  | .ife d a b, c, x, X, xp, W, A, h => by
    obtain ⟨y, z, u, p, rfl, h1, h2, h3⟩ := i_ife h
    exact s3_ife (sE d c y X xp W A h1) (sE a c z X xp W A h2) (sE b c u X xp W A h3)
  | .tup es, c, x, X, xp, W, A, h => by
    obtain ⟨ys, k, p, rfl, h1⟩ := i_tup h
    exact mk3 (limT_tup (ce_tup (sEs es c ys X xp W A h1))) (fun _ => rfl) (by intro _ _ _ h; cases h)
  | .lst es, c, x, X, xp, W, A, h => by
    obtain ⟨ys, p, rfl, h1⟩ := i_lst h
    exact mk3 (limT_lst (cf_lst (sEs es c ys X xp W A h1))) (fun _ => rfl) (by intro _ _ _ h; cases h)
  | .ix a b, c, x, X, xp, W, A, h => by
    obtain ⟨y, z, p, rfl, h0, h1, h2⟩ := i_ix h
    exact mk3 (ce_ix (sE a c y X xp W A h1).1 (sE b c z X xp W A h2).1 h0) (fun _ => rfl) (by intro _ _ _ h; cases h)
  | .oix i b, c, x, X, xp, W, A, h => by
    obtain ⟨n, q, z, p, rfl, h0, h1, h2⟩ := i_oix h
    obtain ⟨g1, g2, g3, g4⟩ := A.vis_of h1
    exact mk3 (ce_oix g1 g2 g3 g4 (sE b c z X xp W A h2).1 h0) (fun _ => rfl) (by intro _ _ _ h; cases h)
  | .sl a lo hi, c, x, X, xp, W, A, h => by
    obtain ⟨y, l, u, q, p, rfl, h1, h2, h3⟩ := i_sl h
    exact mk3 (ce_sl (sE a c y X xp W A h1).1 (sEo lo c l X xp W A h2) (sEo hi c u X xp W A h3)) (fun _ => rfl) (by intro _ _ _ h; cases h)
  | .rev a, c, x, X, xp, W, A, h => by
    obtain ⟨y, k, p1, p2, p3, p, rfl, h1⟩ := i_rev h
    exact mk3 (ce_rev (sE a c y X xp W A h1).1) (fun _ => rfl) (by intro _ _ _ h; cases h)
  | .bi f es, c, x, X, xp, W, A, h => by
    obtain ⟨q, y, ys, p, rfl, h0, h1, h2⟩ := i_bi h
    obtain ⟨b1, b2, b3⟩ := A.blt_of h1
    obtain ⟨s1, s2⟩ := Es.any (env := X.env) (pos := p) h2
    exact mk3 (ce_callB (bi_opC A f h0) (bi_im f) b1 b3 (boot_BI f) (sEs es c _ X xp W A h2) (BI_name f) b2 s1 s2) (fun _ => rfl) (by intro _ _ _ h; cases h)
  | .ti f es, c, x, X, xp, W, A, h => by
    obtain ⟨q, y, ys, p, rfl, h1, h2⟩ := i_ti h
    obtain ⟨b1, b2, b3⟩ := A.blt_of h1
    obtain ⟨s1, s2⟩ := Es.any (env := X.env) (pos := p) h2
    exact mk3 (ce_callTy (ti_op f) (ti_im f) b1 b3 (boot_TI f) (sEs es c _ X xp W A h2) (TI_name f) b2 s1 s2) (fun _ => rfl) (by intro _ _ _ h; cases h)
  | .len a, c, x, X, xp, W, A, h => by
    obtain ⟨q, y, p, rfl, h1, h2, h3⟩ := i_len h
    obtain ⟨b1, b2, b3⟩ := A.blt_of h1
    exact mk3 (ce_callL call_lenA len_im b1 b3 rfl (sL a c y X xp W A h3) (by decide) b2 (star_cons h2) rfl) (fun _ => rfl) (by intro _ _ _ h; cases h)
  | .mt m a es, c, x, X, xp, W, A, h => by
    obtain ⟨u, p1, y, ys, p, rfl, h0, h1, h2, h3, h4⟩ := i_mt h
    obtain ⟨s1, s2⟩ := Es.any (env := X.env) (pos := p) h4
    exact mk3 (ce_mt m (sE a c u X xp W A h3).1 (sEs es c _ X xp W A h4) h0 (few_of h4 (by show ys.length + 1 < 25; omega)) h1 s1 s2) (fun _ => rfl) (by intro _ _ _ h; cases h)
  | .call k es, c, x, X, xp, W, A, h => by
    obtain ⟨n, q, ys, p, rfl, h0, h1, h2, h3⟩ := i_call h
    obtain ⟨g1, g2⟩ := A.glo_of h1
    cases e : c.Γ.fs.find? (fun p => p.1 == k) with
    | none => rw [e] at h2; cases h2
    | some q =>
      rw [e] at h2
      obtain ⟨j, y, ar, m⟩ := q
      have h2 : n = y := by simpa using h2
      subst h2
      have dd := A.fs h0 j n ar m (List.mem_of_find?_eq_some e)
      have ha := sEs es c ys X xp W A h3
      cases ys with
      | nil =>
        cases es with
        | nil => exact mk3 (ce_eq (ce_user0 A.tk A.nore g1 dd g2) fun ρ => call_eq e []) (fun _ => rfl) (by intro _ _ _ h; cases h)
        | cons _ _ => unfold Ck.es at h3; cases h3
        | rep => exact (es_rep h3).elim
      | cons y ys =>
        obtain ⟨s1, s2⟩ := Es.any (env := X.env) (pos := p) h3
        refine mk3 (ce_eq (ce_user A.tk A.nore g1 dd ha g2 s1 s2) fun ρ => ?_) (fun _ => rfl) (by intro _ _ _ h; cases h)
        show (sems c.Γ es ρ).bind (fun ds => callG c.Γ k ds) = _
        congr 1
        funext ds
        exact call_eq e ds
  | .isa a T, c, x, X, xp, W, A, h => by
    obtain ⟨q, y, p2, p, rfl, h1, h2, h3, h4⟩ := i_isa h
    obtain ⟨b1, b2, b3⟩ := A.blt_of h1
    obtain ⟨d1, d2, d3⟩ := A.blt_of h2
    exact mk3 (ce_isa T b1 b3 d1 d3 (sL a c y X xp W A h4) (star_cons h3)) (fun _ => rfl) (by intro _ _ _ h; cases h)
  | .isa2 a T U, c, x, X, xp, W, A, h => by
    obtain ⟨q, y, p2, p3, k, p1, p, rfl, h1, h2, h3, h4, h5⟩ := i_isa2 h
    obtain ⟨b1, b2, b3⟩ := A.blt_of h1
    obtain ⟨d1, d2, d3⟩ := A.blt_of h2
    obtain ⟨e1, e2, e3⟩ := A.blt_of h3
    exact mk3 (ce_isa2 T U b1 b3 d1 d3 e1 e3 (sL a c y X xp W A h5) (star_cons h4)) (fun _ => rfl) (by intro _ _ _ h; cases h)
  | .lc t vs it cond elt, c, x, X, xp, W, A, h => by
    obtain ⟨y, tg, iter, ifs, scope, p, rfl, h0, h1, h2, h3, h4, h5, h6, h7⟩ := i_lc h
    have blk := blkOk_by h3
    rw [← A.N, ← A.sc] at blk
    have hin : ∀ i ∈ t.slots, i ∈ (ownOf X.N vs).map (·.2) := fun i hi => by
      rw [own_snd]
      exact of_decide_eq_true (List.all_eq_true.mp h2 i hi)
    have cf := cf_lc (own := ownOf X.N vs) (A.cm h0) A.nd (sI it c tg iter X xp W A h4) blk (fun s H C cl fp => (A.blk h0 scope s H C cl fp).tg_of h5) (fun s H C cl fp => sC cond _ ifs _ xp W0 (A.blk h0 scope s H C cl fp) h6)
      (fun s H C cl fp => (sE elt _ y _ xp W0 (A.blk h0 scope s H C cl fp) h7).1) (folded h1) hin (pos := p)
    rw [own_snd] at cf
    exact mk3 cf.ce (fun _ => rfl) (by intro _ _ _ h; cases h)
  | .lenks t vs it cond elt, c, x, X, xp, W, A, h => by
    obtain ⟨q, y, tg, iter, ifs, scope, p1, p, rfl, hb, h0, h1, h2, h3, h4, h5, h6, h7⟩ := i_lenks h
    obtain ⟨b1, b2, b3⟩ := A.blt_of hb
    have blk := blkOk_by h3
    rw [← A.N, ← A.sc] at blk
    have hin : ∀ i ∈ t.slots, i ∈ (ownOf X.N vs).map (·.2) := fun i hi => by
      rw [own_snd]
      exact of_decide_eq_true (List.all_eq_true.mp h2 i hi)
    have cs := cs_ks (own := ownOf X.N vs) (A.cm h0) A.nd (sI it c tg iter X xp W A h4) blk (fun s H C cl fp => (A.blk h0 scope s H C cl fp).tg_of h5) (fun s H C cl fp => sC cond _ ifs _ xp W0 (A.blk h0 scope s H C cl fp) h6)
      (fun s H C cl fp => (sE elt _ y _ xp W0 (A.blk h0 scope s H C cl fp) h7).1) (folded h1) hin (pos := p1)
    rw [own_snd] at cs
    exact mk3 (ce_lenS b1 b3 cs rfl rfl) (fun _ => rfl) (by intro _ _ _ h; cases h)
  | .xat i f, c, x, X, xp, W, A, h => by
    obtain ⟨n, q, p, rfl, h0, h1⟩ := i_xat h
    exact mk3 (s3_xat A h0 h1) (fun _ => rfl) (by intro _ _ _ h; cases h)
  | .xis i y, c, x, X, xp, W, A, h => by
    obtain ⟨q, n, p1, p2, p, rfl, h0, h1, h2, h3⟩ := i_xis h
    exact mk3 (s3_xis A h0 h1 h2 h3) (fun _ => rfl) (by intro _ _ _ h; cases h)
  | .dic0, c, x, X, xp, W, A, h => by
    obtain ⟨p, rfl⟩ := i_dic0 h
    exact mk3 ce_dic0 (fun _ => rfl) (by intro _ _ _ h; cases h)
  | .lenset a, c, x, X, xp, W, A, h => by
    obtain ⟨q, q2, z, p2, p, rfl, h0, h1, h2, h3, h4⟩ := i_lenset h
    obtain ⟨b1, b2, b3⟩ := A.blt_of h1
    obtain ⟨d1, d2, d3⟩ := A.blt_of h2
    exact mk3 (ce_lenS b1 b3 (cs_setof (A.cm h0) d1 d3 (sL a c z X xp W A h4) (star_cons h3)) rfl rfl) (fun _ => rfl) (by intro _ _ _ h; cases h)
  | .mz m a, c, x, X, xp, W, A, h => by
    obtain ⟨u, p1, p, rfl, h0, h1, h2⟩ := i_mz h
    exact mk3 (ce_mz m (sE a c u X xp W A h2).1 h0 h1) (fun _ => rfl) (by intro _ _ _ h; cases h)
  | .lstR a k es, c, x, X, xp, W, A, h => by
    obtain ⟨y, j, p1, p2, ys, p, rfl, h0, h1, h2, h3⟩ := i_lstR h
    exact mk3 (limT_lst (cf_lst (ca_emit (sE a c y X xp W A h2).1 h0 h1 (sEr es c ys X xp W A h3) rfl))) (fun _ => rfl) (by intro _ _ _ h; cases h)
theorem sL : ∀ (e : L) (c : Ck) (x : Expr) (X : Cx) (xp : XP) (W : WX), At c X xp W → c.l e x = true → CL X xp W x (seml c.Γ e)
  | .ov i, c, x, X, xp, W, A, h => by
    obtain ⟨n, p, rfl, h⟩ := l_ov h
    obtain ⟨h1, h2, h3, h4⟩ := A.vis_of h
    exact cl_var h1 h2 h3 h4
  | .ex e, c, x, X, xp, W, A, h => (sE e c x X xp W A (by unfold Ck.l at h; exact h)).1.lax
theorem sEs : ∀ (es : Es) (c : Ck) (xs : List Expr) (X : Cx) (xp : XP) (W : WX), At c X xp W → c.es es xs = true → CA X xp W xs (sems c.Γ es)
  | .nil, c, xs, X, xp, W, A, h => by
    obtain rfl := es_nil h
    exact ca_nil
  | .cons e es, c, xs, X, xp, W, A, h => by
    obtain ⟨y, ys, rfl, h0, h1, h2⟩ := es_cons h
    exact ca_cons (sE e c y X xp W A h1).1 (sEs es c ys X xp W A h2) (star_cons h0)
  | .rep a y z es, c, xs, X, xp, W, A, h => by
    exact (es_rep h).elim
theorem sEr : ∀ (es : Es) (c : Ck) (xs : List Expr) (X : Cx) (xp : XP) (W : WX), At c X xp W → c.er es xs = true → CA1 X xp W xs (sems c.Γ es)
  | .nil, c, xs, X, xp, W, A, h => by
    obtain rfl := er_nil h
    exact ca1_nil
  | .cons e es, c, xs, X, xp, W, A, h => by
    obtain ⟨y, ys, rfl, h0, h1, h2⟩ := er_cons h
    exact ca1_cons (PE.one (sE e c y X xp W A h1).1) (sEr es c ys X xp W A h2) (star_cons h0)
  | .rep a y z es, c, xs, X, xp, W, A, h => by
    obtain ⟨u, p1, j, p2, k, p3, p, ys, rfl, h0, h1, h2, h3, h4, h5⟩ := er_rep h
    exact ca1_cons (c1_rep (sE a c u X xp W A h4).1 h2 h3 rfl h0 h1) (sEr es c ys X xp W A h5) rfl
theorem sEo : ∀ (e : Eo) (c : Ck) (x : Option Expr) (X : Cx) (xp : XP) (W : WX), At c X xp W → c.o e x = true → CO X xp W x (semo c.Γ e)
  | .none, c, x, X, xp, W, A, h => by
    obtain rfl := o_none h
    exact co_none
  | .some e, c, x, X, xp, W, A, h => by
    obtain ⟨y, rfl, h⟩ := o_some h
    exact co_some (sE e c y X xp W A h).1
theorem sC : ∀ (e : Eo) (c : Ck) (xs : List Expr) (X : Cx) (xp : XP) (W : WX), At c X xp W → c.cs e xs = true → CTs X xp W xs (semc c.Γ e)
  | .none, c, xs, X, xp, W, A, h => by
    obtain rfl := cs_none h
    exact cts_nil
  | .some e, c, xs, X, xp, W, A, h => by
    obtain ⟨y, rfl, h⟩ := cs_some h
    exact cts_one (sE e c y X xp W A h).2.1
theorem sI : ∀ (it : I) (c : Ck) (tg x : Expr) (X : Cx) (xp : XP) (W : WX), At c X xp W → c.i tg it x = true → CI X xp W tg x (semi c.Γ it)
  | .val e, c, tg, x, X, xp, W, A, h => ci_val (sE e c x X xp W A (by unfold Ck.i at h; exact h)).1
  | .r1 a, c, tg, x, X, xp, W, A, h => by
    obtain ⟨q, y, p, rfl, h1, h2, h3⟩ := ii_r1 h
    obtain ⟨b1, b2, b3⟩ := A.blt_of h1
    exact ci_range1 b1 b3 (sE a c y X xp W A h3).1 (star_cons h2)
  | .r2 a b, c, tg, x, X, xp, W, A, h => by
    obtain ⟨q, y, z, p, rfl, h1, h2, h3, h4, h5⟩ := ii_r2 h
    obtain ⟨b1, b2, b3⟩ := A.blt_of h1
    exact ci_range2 b1 b3 (sE a c y X xp W A h4).1 (sE b c z X xp W A h5).1 (star_cons h3) (star_cons h2)
  | .enum a, c, tg, x, X, xp, W, A, h => by
    obtain ⟨q, y, p, rfl, h1, h0, h2, h3⟩ := ii_enum h
    obtain ⟨b1, b2, b3⟩ := A.blt_of h1
    cases tg <;> first | cases h0; done | skip
    exact ci_enum b1 b3 (sE a c y X xp W A h3).1 (star_cons h2)
end
end Pf

set_option Elab.async false
set_option linter.all false
set_option maxRecDepth 100000
/-! Statements as terms. -/
namespace Pf
open PySem PySem.Spec PyProof.Rows L2

mutual
inductive S where
  | asg (t : Tg) (e : E)
  | own (i : Nat) (es : Es)
  | ownLc (i : Nat) (t : Tg) (vs : List Nat) (it : I) (cond : Eo) (elt : E)
  | app (i : Nat) (e : E)
  | par (is : List Nat) (es : Es)
  | exp (e : E)
  | ret (e : E)
  | retN
  | pass
  | brk
  | cont
  | ife (c : E) (a b : Ss)
  | for (t : Tg) (it : I) (b : Ss)
  | whl (n : Nat) (c : E) (b : Ss)
  | rai (x f : Str) (e : E)
  | try (i : Nat) (y : Str) (a b : Ss)
inductive Ss where
  | nil
  | cons (s : S) (ss : Ss)
  | frz (i : Nat) (ss : Ss)
end
mutual
def exe (Γ : Gs) : S → Sto → Out
  | .asg t e, ρ => .ofR (sem Γ e ρ) ρ fun d => asgO t d ρ
  | .own i es, ρ => .ofR (sems Γ es ρ) ρ fun ds => if ds.length ≤ LIM then .nx (ρ.set i (some (.own ds))) else .bad
  | .ownLc i t vs it cond elt, ρ => .ofR (lcF t vs (semi Γ it) (semc Γ cond) (sem Γ elt) ρ) ρ fun ds => .nx (ρ.set i (some (.own ds)))
  | .app i e, ρ => apF i (sem Γ e) ρ
  | .par is es, ρ => .ofR (sems Γ es ρ) ρ fun ds => if ds.length = is.length then .nx (setAll is ds ρ) else .bad
  | .exp e, ρ => .ofR (sem Γ e ρ) ρ fun _ => .nx ρ
  | .ret e, ρ => .ofR (sem Γ e ρ) ρ fun d => .rt d
  | .retN, _ => .rt .none
  | .pass, ρ => .nx ρ
  | .brk, ρ => .bk ρ
  | .cont, ρ => .ct ρ
  | .ife c a b, ρ => .ofR ((sem Γ c ρ).bind asB) ρ fun k => if k = true then exes Γ a ρ else exes Γ b ρ
  | .for t it b, ρ => forF t (semi Γ it) (exes Γ b) ρ
  | .whl n c b, ρ => whL (fun ρ => (sem Γ c ρ).bind asB) (exes Γ b) n ρ
  | .rai x f e, ρ => .ofR (sem Γ e ρ) ρ fun d => .ex ⟨x, f, d⟩ ρ
  | .try i y a b, ρ => tryF (fun x => Γ.sb x y) Γ.at_ i (exes Γ a) (exes Γ b) ρ
def exes (Γ : Gs) : Ss → Sto → Out
  | .nil, ρ => .nx ρ
  | .cons s ss, ρ => (exe Γ s ρ).seq (exes Γ ss)
  | .frz i ss, ρ => exes Γ ss (frz i ρ)
end
/-- no comprehension, whose store is another one -/
def noComp : Expr → Bool
  | .ListComp .. => false
  | .SetComp .. => false
  | .DictComp .. => false
  | _ => true
def noTup : Expr → Bool
  | .Tuple .. => false
  | .List .. => false
  | _ => true
def okStore (tg e : Expr) : Bool := noTup tg || noTup e || (match tg, e with
  | .Tuple ts _ _, .Tuple vs _ _ => vs.all (foldedForSure 8) || !(ts.length == 2 || ts.length == 3)
  | _, _ => false)
def okLc (c : Ck) (y : Str) (py pos : Pos) (scope : Scope) : Bool := (match c.sc.kind with | .function => true | _ => false) && decide (c.sc.names.lookup y = some .local) && (py.line == pos.line) && !(scope.names.any fun (n, k) => n == y && (k == .local || k == .cell))
def Ck.locs (c : Ck) : List Nat → List Expr → Bool
  | [i, j], [.Name x p, .Name y q] => decide (c.N[i]? = some x) && decide (c.N[j]? = some y) && decide (i ≠ j) && decide (c.sc.names.lookup x = some .local) && decide (c.sc.names.lookup y = some .local)
  | [i, j, k], [.Name x p, .Name y q, .Name z r] => decide (c.N[i]? = some x) && decide (c.N[j]? = some y) && decide (c.N[k]? = some z) && decide (i ≠ j) && decide (i ≠ k) && decide (j ≠ k) &&
    decide (c.sc.names.lookup x = some .local) && decide (c.sc.names.lookup y = some .local) && decide (c.sc.names.lookup z = some .local)
  | _, _ => false
mutual
def Ck.s (c : Ck) : S → Stmt → Bool
  | .asg t e, .Assign [tg] x _ => noComp x && okStore tg x && c.tg t tg && c.e e x
  | .own i es, .Assign [.Name x _] (.List xs _) _ => c.tgt i x && c.es es xs
  | .ownLc i t vs it cond elt, .Assign [.Name n q] (.ListComp y [⟨tg, iter, ifs, 0⟩] scope p) _ => decide (c.N[i]? = some n) && okLc c n q p scope && c.cm && noSet iter && slotsIn t vs && blkC c.N c.sc scope (ownOf c.N vs) && c.i tg it iter && (c.blk scope).tg t tg && (c.blk scope).cs cond ifs && (c.blk scope).e elt y
  | .app i e, .Expr (.Call (.Attribute (.Name x _) n p) [y] [] q) _ => decide (n = ("append" : Str)) && (p.endLine == q.line) && noStar y && c.vis i x && c.e e y
  | .exp e, .Expr x _ => noComp x && c.e e x
  | .ret e, .Return (some x) _ => c.e e x
  | .retN, .Return none _ => true
  | .pass, .Pass _ => true
  | .brk, .Break _ => true
  | .cont, .Continue _ => true
  | .ife d a b, .If x ya yb _ => c.e d x && c.ss a ya && c.ss b yb
  | .for t it b, .For tg iter body [] _ => c.cm && noSet iter && c.i tg it iter && c.tg t tg && c.ss b body
  | .whl _ d b, .While x body [] _ => c.e d x && c.ss b body
  | .rai x f e, .Raise (some (.Call (.Name n _) [y] [] _)) none _ => decide (x = n) && decide (c.Γ.at_ x = some f) && c.cm && c.glo n && noStar y && c.e e y
  | .try i y a b, .Try body [.ExceptHandler (some (.Name x _)) (some n) (b0 :: suite) _] [] [] _ => decide (x = y) && c.cm && decide (c.N[i]? = some n) && decide (c.sc.names.lookup n = some .local) && c.glo x && decide (x ∈ c.Γ.hs) && c.ss a body && ({ c with cm := false } : Ck).ss b (b0 :: suite)
  | _, _ => false
def Ck.ss (c : Ck) : Ss → List Stmt → Bool
  | .nil, [] => true
  | .cons s ss, x :: xs => c.s s x && c.ss ss xs
  | .frz _ ss, xs => c.ss ss xs
  | _, _ => false
end
end Pf

set_option Elab.async false
set_option linter.all false
set_option maxRecDepth 100000
set_option maxHeartbeats 1000000
/-! Which statements the checker lets pass. -/
namespace Pf
open PySem PySem.Spec PyProof.Rows L2
section
variable {c : Ck} {x : Stmt}
theorem j_asg {t : Tg} {e : E} (h : c.s (.asg t e) x = true) : ∃ tg y p, x = .Assign [tg] y p ∧ noComp y = true ∧ okStore tg y = true ∧ c.tg t tg = true ∧ c.e e y = true := by
  unfold Ck.s at h
  split at h <;> first | contradiction | skip
  rename_i heq
  cases heq
  try simp only [Bool.and_eq_true, decide_eq_true_eq, Bool.not_eq_true', and_assoc] at h
  exact ⟨_, _, _, rfl, h⟩
theorem j_own {i : Nat} {es : Es} (h : c.s (.own i es) x = true) : ∃ n q ys p1 p, x = .Assign [.Name n q] (.List ys p1) p ∧ c.tgt i n = true ∧ c.es es ys = true := by
  unfold Ck.s at h
  split at h <;> first | contradiction | skip
  rename_i heq
  cases heq
  try simp only [Bool.and_eq_true, decide_eq_true_eq, Bool.not_eq_true', and_assoc] at h
  exact ⟨_, _, _, _, _, rfl, h⟩
theorem j_ownLc {i : Nat} {t : Tg} {vs : List Nat} {it : I} {cond : Eo} {elt : E} (h : c.s (.ownLc i t vs it cond elt) x = true) : ∃ n q y tg iter ifs scope p1 p, x = .Assign [.Name n q] (.ListComp y [⟨tg, iter, ifs, 0⟩] scope p1) p ∧ c.N[i]? = some n ∧ okLc c n q p1 scope = true ∧ c.cm = true ∧ noSet iter = true ∧ slotsIn t vs = true ∧ blkC c.N c.sc scope (ownOf c.N vs) = true ∧ c.i tg it iter = true ∧ (c.blk scope).tg t tg = true ∧ (c.blk scope).cs cond ifs = true ∧ (c.blk scope).e elt y = true := by
  unfold Ck.s at h
  split at h <;> first | contradiction | skip
  rename_i heq
  cases heq
  try simp only [Bool.and_eq_true, decide_eq_true_eq, Bool.not_eq_true', and_assoc] at h
  exact ⟨_, _, _, _, _, _, _, _, _, rfl, h⟩
theorem j_app {i : Nat} {e : E} (h : c.s (.app i e) x = true) : ∃ n q p1 y p2 p, x = .Expr (.Call (.Attribute (.Name n q) "append" p1) [y] [] p2) p ∧ (p1.endLine == p2.line) = true ∧ noStar y = true ∧ c.vis i n = true ∧ c.e e y = true := by
  unfold Ck.s at h
  split at h <;> first | contradiction | skip
  rename_i heq
  cases heq
  try simp only [Bool.and_eq_true, decide_eq_true_eq, Bool.not_eq_true', and_assoc] at h
  obtain ⟨e0, h⟩ := h
  subst e0
  exact ⟨_, _, _, _, _, _, rfl, h⟩
theorem j_exp {e : E} (h : c.s (.exp e) x = true) : ∃ y p, x = .Expr y p ∧ noComp y = true ∧ c.e e y = true := by
  unfold Ck.s at h
  split at h <;> first | contradiction | skip
  rename_i heq
  cases heq
  try simp only [Bool.and_eq_true, decide_eq_true_eq, Bool.not_eq_true', and_assoc] at h
  exact ⟨_, _, rfl, h⟩
theorem j_ret {e : E} (h : c.s (.ret e) x = true) : ∃ y p, x = .Return (some y) p ∧ c.e e y = true := by
  unfold Ck.s at h
  split at h <;> first | contradiction | skip
  rename_i heq
  cases heq
  try simp only [Bool.and_eq_true, decide_eq_true_eq, Bool.not_eq_true', and_assoc] at h
  exact ⟨_, _, rfl, h⟩
theorem j_retN  (h : c.s (.retN) x = true) : ∃ p, x = .Return none p := by
  unfold Ck.s at h
  split at h <;> first | contradiction | skip
  rename_i heq
  cases heq
  try simp only [Bool.and_eq_true, decide_eq_true_eq, Bool.not_eq_true', and_assoc] at h
  exact ⟨_, rfl⟩
theorem j_pass  (h : c.s (.pass) x = true) : ∃ p, x = .Pass p := by
  unfold Ck.s at h
  split at h <;> first | contradiction | skip
  rename_i heq
  cases heq
  try simp only [Bool.and_eq_true, decide_eq_true_eq, Bool.not_eq_true', and_assoc] at h
  exact ⟨_, rfl⟩
theorem j_brk  (h : c.s (.brk) x = true) : ∃ p, x = .Break p := by
  unfold Ck.s at h
  split at h <;> first | contradiction | skip
  rename_i heq
  cases heq
  try simp only [Bool.and_eq_true, decide_eq_true_eq, Bool.not_eq_true', and_assoc] at h
  exact ⟨_, rfl⟩
theorem j_cont  (h : c.s (.cont) x = true) : ∃ p, x = .Continue p := by
  unfold Ck.s at h
  split at h <;> first | contradiction | skip
  rename_i heq
  cases heq
  try simp only [Bool.and_eq_true, decide_eq_true_eq, Bool.not_eq_true', and_assoc] at h
  exact ⟨_, rfl⟩
theorem j_ife {d : E} {a b : Ss} (h : c.s (.ife d a b) x = true) : ∃ y ya yb p, x = .If y ya yb p ∧ c.e d y = true ∧ c.ss a ya = true ∧ c.ss b yb = true := by
  unfold Ck.s at h
  split at h <;> first | contradiction | skip
  rename_i heq
  cases heq
  try simp only [Bool.and_eq_true, decide_eq_true_eq, Bool.not_eq_true', and_assoc] at h
  exact ⟨_, _, _, _, rfl, h⟩
theorem j_for {t : Tg} {it : I} {b : Ss} (h : c.s (.for t it b) x = true) : ∃ tg iter body p, x = .For tg iter body [] p ∧ c.cm = true ∧ noSet iter = true ∧ c.i tg it iter = true ∧ c.tg t tg = true ∧ c.ss b body = true := by
  unfold Ck.s at h
  split at h <;> first | contradiction | skip
  rename_i heq
  cases heq
  try simp only [Bool.and_eq_true, decide_eq_true_eq, Bool.not_eq_true', and_assoc] at h
  exact ⟨_, _, _, _, rfl, h⟩
theorem j_whl {n : Nat} {d : E} {b : Ss} (h : c.s (.whl n d b) x = true) : ∃ y body p, x = .While y body [] p ∧ c.e d y = true ∧ c.ss b body = true := by
  unfold Ck.s at h
  split at h <;> first | contradiction | skip
  rename_i heq
  cases heq
  try simp only [Bool.and_eq_true, decide_eq_true_eq, Bool.not_eq_true', and_assoc] at h
  exact ⟨_, _, _, rfl, h⟩
theorem j_rai {x0 f : Str} {e : E} (h : c.s (.rai x0 f e) x = true) : ∃ q y p1 p, x = .Raise (some (.Call (.Name x0 q) [y] [] p1)) none p ∧ c.Γ.at_ x0 = some f ∧ c.cm = true ∧ c.glo x0 = true ∧ noStar y = true ∧ c.e e y = true := by
  unfold Ck.s at h
  split at h <;> first | contradiction | skip
  rename_i heq
  cases heq
  try simp only [Bool.and_eq_true, decide_eq_true_eq, Bool.not_eq_true', and_assoc] at h
  obtain ⟨e0, h⟩ := h
  subst e0
  exact ⟨_, _, _, _, rfl, h⟩
theorem j_try {i : Nat} {y0 : Str} {a b : Ss} (h : c.s (.try i y0 a b) x = true) : ∃ body q n b0 suite p1 p, x = .Try body [.ExceptHandler (some (.Name y0 q)) (some n) (b0 :: suite) p1] [] [] p ∧ c.cm = true ∧ c.N[i]? = some n ∧ c.sc.names.lookup n = some .local ∧ c.glo y0 = true ∧ y0 ∈ c.Γ.hs ∧ c.ss a body = true ∧ ({ c with cm := false } : Ck).ss b (b0 :: suite) = true := by
  unfold Ck.s at h
  split at h <;> first | contradiction | skip
  rename_i heq
  cases heq
  try simp only [Bool.and_eq_true, decide_eq_true_eq, Bool.not_eq_true', and_assoc] at h
  obtain ⟨e0, h⟩ := h
  subst e0
  exact ⟨_, _, _, _, _, _, _, rfl, h⟩
end
end Pf

set_option Elab.async false
set_option linter.all false
set_option maxRecDepth 100000
/-! The statements are sound; defs. -/
namespace Pf
open PySem PySem.Spec PyProof.Rows L2

/-- what stands behind a name that an except clause tells -/
def ClsIs (mg : Str → Option Value) (y : Str) (c : Value) : Prop := mg y = some c ∨ (mg y = none ∧ bootBuiltins y = some c ∧ y ≠ "__name__")
theorem ClsIs.one {mg : Str → Option Value} {y : Str} {c d : Value} (h : ClsIs mg y c) (k : ClsIs mg y d) : c = d := by
  rcases h with h | ⟨h1, h2, _⟩ <;> rcases k with k | ⟨k1, k2, _⟩
  · exact Option.some.inj (h.symm.trans k)
  · rw [h] at k1; cases k1
  · rw [h1] at k; cases k
  · exact Option.some.inj (h2.symm.trans k2)
structure AtS (c : Ck) (X : Cx) (xp : XP) (W : WX) : Prop extends At c X xp W where
  ps : PassesOwn (model X.prog X.w) X.A X.env X.xe
  fr : c.cm = true → xp = none ∧ X.stack = X.env :: X.outer ∧ X.env.frame = some X.env.locals
  ex : c.cm = true → ∀ x f, c.Γ.at_ x = some f → ExCls X.prog X.w X.K X.mg X.base x f
  room : c.cm = true → ∃ k, 2 ≤ k ∧ Room k X.A
  hnd : ∀ y ∈ c.Γ.hs, ∃ cv, ClsIs X.mg y cv
section
variable {c : Ck} {X : Cx} {xp : XP} {W : WX}
theorem swapsE {e : Expr} {l : Nat} {env : Env} (h : noComp e = true) (o : Option Expr) : swapsWith e o l env = pure false := by
  cases e <;> first | rfl | cases h
theorem okStore_none {tg e : Expr} {env : Env} (h : okStore tg e = true) : swappedStores [tg] e env = pure none := by
  unfold okStore at h
  simp only [Bool.or_eq_true] at h
  rcases h with (h | h) | h
  · cases tg <;> first | rfl | cases h
  · cases e <;> first | (cases h; done) | (cases tg <;> rfl)
  · split at h
    · rename_i ts k p vs k2 p2
      unfold swappedStores
      by_cases h1 : (!(ts.length == 2 || ts.length == 3) || vs.length != ts.length || env.blockKind != .function) = true
      · simp only [h1, if_true]
      · have h1' : (!(ts.length == 2 || ts.length == 3) || vs.length != ts.length || env.blockKind != .function) = false := by simpa using h1
        have h2 : (ts.length == 2 || ts.length == 3) = true := by
          cases e : (ts.length == 2 || ts.length == 3) with
          | true => rfl
          | false => rw [e] at h1'; simp at h1'
        have hf : vs.all (foldedForSure 8) = true := by
          rw [h2] at h
          simpa using h
        simp only [h1', hf, Bool.false_eq_true, if_false, if_true]
        split
        · rfl
        · split
          · rfl
          · rfl
    · cases h
theorem okLc_of (A : At c X xp W) {n : Str} {q p : Pos} {scope : Scope} (h : okLc c n q p scope = true) : X.env.scope.kind = .function ∧ X.env.scope.names.lookup n = some .local ∧ (q.line == p.line) = true ∧ (scope.names.any fun (m, k) => m == n && (k == .local || k == .cell)) = false := by
  unfold okLc at h
  simp only [Bool.and_eq_true, decide_eq_true_eq, Bool.not_eq_true', and_assoc] at h
  rw [A.sc]
  refine ⟨?_, h.2.1, h.2.2.1, h.2.2.2⟩
  have := h.1
  cases e : c.sc.kind <;> rw [e] at this <;> first | rfl | cases this
theorem noSet_ok {e : Expr} {env : Env} (h : noSet e = true) : ∀ x, foldedSetIterable e env x = pure x := folded h
/-- x = [.. for ..] on one line -/
theorem cst_ownLc {i : Nat} {n : Str} {q p p0 : Pos} {B : List Addr} {elt tg iter : Expr} {ifs : List Expr} {scope : Scope} {own : List (Str × Nat)} {t : Tg} {items : Sto → Rs (List D)} {cond : Sto → Rs Bool} {fe : Sto → Rs D} (hc : X.calm = true) (hN : X.N.Nodup) (hn : X.N[i]? = some n) (hl : X.env.scope.names.lookup n = some .local)
    (hsw : swapsWith (.ListComp elt [⟨tg, iter, ifs, 0⟩] scope p) (some (.Name n q)) p0.line X.env = pure true) (hi : CI X xp W tg iter items) (ok : BlkOk X.N X.env.scope scope own)
    (hg : ∀ (s : Shared) (H : Hp) (C : Addr) (cl : List (Str × Addr)) (fp : List Addr), CG (X.blk s H scope (compEnvC scope cl C X.env) fp) xp tg t)
    (ht : ∀ (s : Shared) (H : Hp) (C : Addr) (cl : List (Str × Addr)) (fp : List Addr), CTs (X.blk s H scope (compEnvC scope cl C X.env) fp) xp W0 ifs cond)
    (he : ∀ (s : Shared) (H : Hp) (C : Addr) (cl : List (Str × Addr)) (fp : List Addr), CE (X.blk s H scope (compEnvC scope cl C X.env) fp) xp W0 elt fe)
    (hs : ∀ x, foldedSetIterable iter X.env x = pure x) (hts : ∀ i ∈ t.slots, i ∈ own.map (·.2)) :
    CSt X xp W B (.Assign [.Name n q] (.ListComp elt [⟨tg, iter, ifs, 0⟩] scope p) p0) (fun ρ => .ofR (lcF t (own.map (·.2)) items cond fe ρ) ρ fun ds => .nx (ρ.set i (some (.own ds)))) :=
  ps_imp (ps_setLc hc hN hn hl hsw hi ok hg ht he hs) fun T σ H ⟨ρ, O, fr, q⟩ => rd_lc hts ⟨ρ, O ++ B, fr.rel, (EndS.ofR0 q fr).imp fun ds H' _ s k p vs hp h1 hl h2 => k _ H' (p :: O) (stp_new hp s) (fr.new hp s h1 h2)⟩
theorem AtS.tr (A : AtS c X xp W) (W' : WX) (pn : List (Addr × Obj)) (xe : Value → Shared → Prop) (tk : Takes (X.tr pn xe) W') (ps : PassesOwn (model X.prog X.w) X.A X.env xe) (cm : c.cm = true) : AtS c (X.tr pn xe) xp W' where
  N := A.N
  sc := A.sc
  fa := A.fa
  cm := A.cm
  gl := A.gl
  fs := A.fs
  bs := A.bs
  nd := A.nd
  nore := A.nore
  hu := A.hu
  tk := tk
  su := fun h => by rw [cm] at h; cases h
  sb := A.sb
  at_ := A.at_
  ps := ps
  fr := A.fr
  ex := A.ex
  room := A.room
  hnd := A.hnd
theorem AtS.suite (A : AtS c X xp W) {a D0 dd : Addr} {oe : Obj} {y f : Str} (pn : List (Addr × Obj)) (hz : Zc (.ref D0) (some dd) oe) (hv : ∃ vs, oe.data = .fields vs) (gy : X.mg y = some (.ref D0)) (ay : c.Γ.at_ y = some f) (ask : Ask X.K D0 f) :
    AtS { c with cm := false } (Su X a oe pn) (some (a, dd, y)) W0 where
  N := A.N
  sc := A.sc
  fa := A.fa
  cm := fun h => by cases h
  gl := A.gl
  fs := fun h => by cases h
  bs := A.bs
  nd := A.nd
  nore := A.nore
  hu := A.hu
  tk := takes0
  su := fun _ => ⟨X, a, D0, dd, oe, pn, y, f, rfl, rfl, rfl, ay, ask, hz, hv, gy⟩
  sb := A.sb
  at_ := A.at_
  ps := PassesOwn.never
  fr := fun h => by cases h
  ex := fun h => by cases h
  room := fun h => by cases h
  hnd := A.hnd
end
theorem apE {f : Sto → Rs D} {i : Nat} : apF i f = fun ρ => apF i f ρ := rfl
theorem ss_nil {c : Ck} {xs : List Stmt} (h : c.ss .nil xs = true) : xs = [] := by
  cases xs with
  | nil => rfl
  | cons x xs => cases h
theorem ss_cons {c : Ck} {s : S} {ss : Ss} {xs : List Stmt} (h : c.ss (.cons s ss) xs = true) : ∃ y ys, xs = y :: ys ∧ c.s s y = true ∧ c.ss ss ys = true := by
  cases xs with
  | nil => cases h
  | cons x xs =>
    have h : (c.s s x && c.ss ss xs) = true := h
    simp only [Bool.and_eq_true] at h
    exact ⟨x, xs, rfl, h⟩
mutual
theorem sS : ∀ (s : S) (c : Ck) (x : Stmt) (X : Cx) (xp : XP) (W : WX) (B : List Addr), AtS c X xp W → c.s s x = true → CSt X xp W B x (exe c.Γ s)
  | .asg t e, c, x, X, xp, W, B, A, h => by
    obtain ⟨tg, y, p, rfl, h1, h2, h3, h4⟩ := j_asg h
    exact cst_asg (sE e c y X xp W A.toAt h4).1 (A.toAt.tg_of h3) (swapsE h1 _) (okStore_none h2) (by
      unfold Ck.tg at h3
      split at h3 <;> first | rfl | cases h3)
  | .own i es, c, x, X, xp, W, B, A, h => by
    obtain ⟨n, q, ys, p1, p, rfl, h1, h2⟩ := j_own h
    obtain ⟨g1, g2, g3⟩ := A.toAt.tgt_of h1
    refine ps_imp (cst_own (B := B) (cf_lst (sEs es c ys X xp W A.toAt h2)) A.nd g1 g2 g3 rfl) fun T σ H ⟨ρ, O, fr, q⟩ => ⟨ρ, O, fr, ?_⟩
    have q : EndS X.K X.mg xp W B T H O (.ofR (sems c.Γ es ρ) ρ fun ds => if ds.length ≤ LIM then .nx (ρ.set i (some (.own ds))) else .bad) := q
    show EndS X.K X.mg xp W B T H O (.ofR ((sems c.Γ es ρ).bind fun xs => if xs.length ≤ LIM then .ok xs else .bad) ρ fun ds => .nx (ρ.set i (some (.own ds))))
    cases e : sems c.Γ es ρ with
    | ok ds =>
      rw [e] at q
      have q : EndS X.K X.mg xp W B T H O (if ds.length ≤ LIM then .nx (ρ.set i (some (.own ds))) else .bad) := q
      obtain ⟨hl, q⟩ := endS_ite q
      show EndS X.K X.mg xp W B T H O (.ofR (if ds.length ≤ LIM then .ok ds else .bad) ρ fun ds => .nx (ρ.set i (some (.own ds))))
      rw [if_pos hl]
      exact q
    | ex z => rw [e] at q; exact q
    | bad => rw [e] at q; exact q
  | .ownLc i t vs it cond elt, c, x, X, xp, W, B, A, h => by
    obtain ⟨n, q, y, tg, iter, ifs, scope, p1, p, rfl, h8, h9, h0, h1, h2, h3, h4, h5, h6, h7⟩ := j_ownLc h
    obtain ⟨k1, k2, k3, k4⟩ := okLc_of A.toAt h9
    have blk := blkOk_by h3
    rw [← A.N, ← A.sc] at blk
    have hin : ∀ i ∈ t.slots, i ∈ (ownOf X.N vs).map (·.2) := fun i hi => by
      rw [own_snd]
      exact of_decide_eq_true (List.all_eq_true.mp h2 i hi)
    have st := cst_ownLc (B := B) (own := ownOf X.N vs) (A.cm h0) A.nd (by rw [A.N]; exact h8) k2 (sw_true k1 k2 k3 k4) (sI it c tg iter X xp W A.toAt h4) blk (fun s H C cl fp => (A.toAt.blk h0 scope s H C cl fp).tg_of h5)
      (fun s H C cl fp => sC cond _ ifs _ xp W0 (A.toAt.blk h0 scope s H C cl fp) h6) (fun s H C cl fp => (sE elt _ y _ xp W0 (A.toAt.blk h0 scope s H C cl fp) h7).1) (folded h1) hin (q := q) (p := p1) (p0 := p)
    rw [own_snd] at st
    exact st
  | .app i e, c, x, X, xp, W, B, A, h => by
    obtain ⟨n, q, p1, y, p2, p, rfl, h1, h2, h3, h4⟩ := j_app h
    obtain ⟨g1, g2, g3, g4⟩ := A.toAt.vis_of h3
    exact cst_append g1 g2 g3 g4 (sE e c y X xp W A.toAt h4).1 (by
      rw [star_cons h2]
      rfl) h1 (star_cons h2) rfl rfl
  | .par is es, c, x, X, xp, W, B, A, h => by
    unfold Ck.s at h
    cases h
  | .exp e, c, x, X, xp, W, B, A, h => by
    obtain ⟨y, p, rfl, h1, h2⟩ := j_exp h
    exact cst_expr (sE e c y X xp W A.toAt h2).1 (swapsE h1 _)
  | .ret e, c, x, X, xp, W, B, A, h => by
    obtain ⟨y, p, rfl, h1⟩ := j_ret h
    exact cst_ret (sE e c y X xp W A.toAt h1).1
  | .retN, c, x, X, xp, W, B, A, h => by
    obtain ⟨p, rfl⟩ := j_retN h
    exact cst_retN
  | .pass, c, x, X, xp, W, B, A, h => by
    obtain ⟨p, rfl⟩ := j_pass h
    exact cst_pass
  | .brk, c, x, X, xp, W, B, A, h => by
    obtain ⟨p, rfl⟩ := j_brk h
    exact cst_break
  | .cont, c, x, X, xp, W, B, A, h => by
    obtain ⟨p, rfl⟩ := j_cont h
    exact cst_cont
  | .ife d a b, c, x, X, xp, W, B, A, h => by
    obtain ⟨y, ya, yb, p, rfl, h1, h2, h3⟩ := j_ife h
    exact cst_if (sE d c y X xp W A.toAt h1).2.1 (sSs a c ya X xp W B A h2) (sSs b c yb X xp W B A h3)
  | .for t it b, c, x, X, xp, W, B, A, h => by
    obtain ⟨tg, iter, body, p, rfl, h0, h1, h2, h3, h4⟩ := j_for h
    exact cst_for A.ps (A.cm h0) (sI it c tg iter X xp W A.toAt h2) (A.toAt.tg_of h3) (sSs b c body X xp W B A h4) (folded h1)
  | .whl n d b, c, x, X, xp, W, B, A, h => by
    obtain ⟨y, body, p, rfl, h1, h2⟩ := j_whl h
    exact cst_while A.ps (sE d c y X xp W A.toAt h1).2.1 (sSs b c body X xp W B A h2)
  | .rai x0 f e, c, x, X, xp, W, B, A, h => by
    obtain ⟨q, y, p1, p, rfl, h1, h2, h3, h4, h5⟩ := j_rai h
    obtain ⟨k, hk, room⟩ := A.room h2
    obtain ⟨g1, g2⟩ := A.toAt.glo_of h3
    exact cst_raise (A.cm h2) A.tk (A.ex h2 x0 f h1) room hk g1 g2 (sE e c y X xp W A.toAt h5).1 (star_cons h4)
  | .try i y0 a b, c, x, X, xp, W, B, A, h => by
    obtain ⟨body, q, n, b0, suite, p1, p, rfl, h0, h1, h2, h3, h4, h5, h6⟩ := j_try h
    obtain ⟨rfl, f2, f3⟩ := A.fr h0
    obtain ⟨cv, hcv⟩ := A.hnd y0 h4
    obtain ⟨g1, g2⟩ := A.toAt.glo_of h3
    refine cst_tryAs (c := cv) (sub := fun x => c.Γ.sb x y0) f2 f3 A.nd (by rw [A.N]; exact h1) (by show X.env.scope.names.lookup n = _; rw [A.sc]; exact h2) ⟨g1, g2, hcv⟩ A.tk ⟨fun y b e => ?_, A.at_⟩ (fun W' pn xe tk ps => sSs a c body _ none W' B (A.tr W' pn xe tk ps h0) h5)
      (fun a' D0 dd oe y fl pn hz hv gy ay ask => sSs b { c with cm := false } (b0 :: suite) _ _ W0 B (A.suite pn hz hv gy ay ask) h6)
    obtain ⟨C, cw, k1, k2, _, k3, _⟩ := A.sb y y0 b e
    rw [ClsIs.one hcv k2]
    exact ⟨C, k1, k3⟩
theorem sSs : ∀ (s : Ss) (c : Ck) (xs : List Stmt) (X : Cx) (xp : XP) (W : WX) (B : List Addr), AtS c X xp W → c.ss s xs = true → CSs X xp W B xs (exes c.Γ s)
  | .nil, c, xs, X, xp, W, B, A, h => by
    obtain rfl := ss_nil h
    exact cst_nil
  | .cons s ss, c, xs, X, xp, W, B, A, h => by
    obtain ⟨y, ys, rfl, h1, h2⟩ := ss_cons h
    exact cst_cons (sS s c y X xp W B A h1) (sSs ss c ys X xp W B A h2)
  | .frz i ss, c, xs, X, xp, W, B, A, h => cst_frz (sSs ss c xs X xp W B A (by unfold Ck.ss at h; exact h))
end
end Pf

set_option Elab.async false
set_option linter.all false
set_option maxRecDepth 100000
/-! Defs as terms. -/
namespace Pf
open PySem PySem.Spec PyProof.Rows L2

/-- what a def of the body b and the locals N computes -/
def out (o : Out) : Rs D := match o with
  | .rt d => .ok d
  | .nx _ => .ok .none
  | .ex e _ => .ex e
  | _ => .bad
def enter (n : Nat) (ds : List D) : Sto := ds.map (fun d => some (.pd d)) ++ List.replicate (n - ds.length) none
def mDef (Γ : Gs) (n : Nat) (b : Ss) : List D → Rs D := fun ds => out (exes Γ b (enter n ds))
/-- the program as the defs of level k and below see it -/
structure Glo (P : Program) (w : World) (K : PySem.W.Frag) (mg : Str → Option Value) (base : Heap) (k : Nat) (Γ : Gs) : Prop where
  gl : ∀ i x d, (i, x, d) ∈ Γ.gl → ∃ u v, mg x = some u ∧ L2.RelV v u ∧ ∀ F, Dn K F v d
  fs : ∀ i x n m, (i, x, n, m) ∈ Γ.fs → ∃ (j : Nat) (f : Addr) (fd : FuncData) (ps : List Str), j ≤ k ∧ FnG P w K mg base j f fd ps (spF K mg n m) ∧ mg x = some (.ref f) ∧ PySem.W.keepIn K (.ref f) = true ∧ L2.Binds K fd ps []
  bs : ∀ x ∈ Γ.bs, mg x = none
  sb : ∀ x y b, Γ.sb x y = some b → SubIs K mg x y b
  at_ : ∀ y f, Γ.at_ y = some f → ∃ C, mg y = some (.ref C) ∧ Ask K C f
  ex : ∀ x f, Γ.at_ x = some f → ExCls P w K mg base x f
  hnd : ∀ y ∈ Γ.hs, ∃ cv, ClsIs mg y cv
  two : 2 ≤ k
section
variable {P : Program} {w : World} {K : PySem.W.Frag} {mg : Str → Option Value} {base : Heap} {k : Nat} {Γ : Gs}
theorem rel_enter {N : List Str} {H : Hp} {B : List Addr} {vs : List V} {ds : List D} (t : Thr H B) (a : DnAll K (msk H B) vs ds) (hl : ds.length ≤ N.length) : Fr K none B (start N vs) H (enter N.length ds) [] := by
  have len : vs.length = ds.length := dpAll_len a
  have no : ∀ (i : Nat) (xs : List D), (enter N.length ds)[i]? ≠ some (some (.own xs)) := fun i xs h => by
    unfold enter at h
    rcases List.mem_append.mp (List.mem_of_getElem? h) with z | z
    · obtain ⟨d, _, e⟩ := List.mem_map.mp z
      cases e
    · rw [List.mem_replicate] at z
      cases z.2
  refine ⟨⟨?_, fun i s h => ?_, fun i j xs ys v h1 => absurd h1 (no i xs), fun b hb => t b hb⟩, fun i xs b h => absurd h (no i xs)⟩
  · unfold L2.start enter
    simp [len]
  · unfold enter at h
    unfold L2.start
    by_cases hi : i < ds.length
    · rw [List.getElem?_append_left (by simpa using hi), List.getElem?_map] at h
      cases e : ds[i]? with
      | none => rw [e] at h; cases h
      | some d =>
        rw [e] at h
        obtain rfl : SV.pd d = s := by simpa using h
        obtain ⟨v, g1, g2⟩ := dpAll_get a e
        refine ⟨v, ?_, g2⟩
        rw [List.getElem?_append_left (by simpa [len] using hi), List.getElem?_map, g1]
        rfl
    · rw [List.getElem?_append_right (by simpa using hi), List.getElem?_replicate] at h
      split at h <;> cases h
theorem stp_same {H H' : Hp} {O : List Addr} (s : Stp H [] H' O) : Same H H' := fun b o e => msk_sub b o (s b o (by rw [msk_nil]; exact e))
theorem fnG_def {x qual : Str} {st : Stmt} {f : Addr} {fd : FuncData} {N ps : List Str} {b : Ss} (F : Fun K x qual st f fd) (S : FnScope N ps (defScope st)) (G : Glo P w K mg base k Γ)
    (chk : (Ck.mk Γ N (defScope st) true true).ss b (defBody st) = true) : FnG P w K mg base (k + 1) f fd ps (spF K mg ps.length (mDef Γ N.length b)) := by
  refine fnG_of F S (fun vs H Q E h => ?_) fun cdv A outer s H vs Q E room nore h => ?_
  · obtain ⟨O, ds, _, a, hl, _⟩ := h
    exact (dpAll_len a).trans hl
  · obtain ⟨B, ds, thr, a, hl, wish⟩ := h
    let X := cxOf (L2.CX P w) P w K mg base N qual (defScope st) f cdv A outer s H E
    have at_ : AtS (Ck.mk Γ N (defScope st) true true) X none (fun cls d _ H' => E cls d H') := {
      N := rfl
      sc := rfl
      fa := fun _ _ => rfl
      cm := fun _ => rfl
      gl := G.gl
      fs := fun _ i x n m hm => by
        obtain ⟨j, g, gd, qs, hj, FG, r⟩ := G.fs i x n m hm
        exact ⟨j, g, gd, qs, FG, room.mono hj, r⟩
      bs := G.bs
      nd := S.nd
      nore := nore
      hu := by
        have := room.un
        show (A.deeper (envOfC qual (defScope st) s.heap.objs.size f cdv)).units + 70 < cLine
        omega
      tk := takes_of rfl rfl rfl rfl
      su := fun h => by cases h
      sb := G.sb
      at_ := G.at_
      ps := PassesOwn.leaving
      fr := fun _ => ⟨rfl, rfl, rfl⟩
      ex := fun _ => G.ex
      room := fun _ => ⟨k, G.two, room⟩
      hnd := G.hnd }
    have len : ds.length ≤ N.length := by
      have := congrArg List.length S.pre
      rw [List.length_take] at this
      omega
    refine ⟨_, sSs b _ (defBody st) X none _ B at_ chk, enter N.length ds, [], rel_enter thr a len, ?_⟩
    have wish : match out (exes Γ b (enter N.length ds)) with
      | .ok d => ∀ H' v, Same H H' → Dn K (msk H' B) v d → Q v H'
      | .ex e => ∀ H' cls dd, Same H H' → ExAt K mg (msk H' B) e cls dd → E cls dd H'
      | .bad => False := wish
    show EndS K mg none (fun cls d _ H' => E cls d H') B _ H [] (exes Γ b (enter N.length ds))
    have less : ∀ (H' : Hp) (O' : List Addr), Same (msk H' (O' ++ B)) (msk H' B) := fun H' O' => msk_less fun b hb => List.mem_append_right _ hb
    cases e : exes Γ b (enter N.length ds) with
    | nx ρ => rw [e] at wish; exact fun σ' H' O' s _ => wish H' .non (stp_same s) .non
    | rt d => rw [e] at wish; exact fun v H' O' s _ hv => wish H' v (stp_same s) (dp_mono (less H' O') hv)
    | ex x ρ => rw [e] at wish; exact fun σ' H' O' cls dd s _ hx => wish H' cls dd (stp_same s) (hx.mono (less H' O'))
    | bk ρ => rw [e] at wish; exact wish.elim
    | ct ρ => rw [e] at wish; exact wish.elim
    | bad => rw [e] at wish; exact wish.elim
end
end Pf

set_option Elab.async false
set_option linter.all false
set_option maxRecDepth 100000
/-! The law's call. -/
namespace Pf
open PySem PySem.Spec PyProof.Rows L2

section
variable {P : Program} {w : World} {K : PySem.W.Frag} {mg mb : Str → Option Value} {k : Nat} {fa a : Addr} {fd : FuncData} {x : Str} {sp : Sp} {s1 : Shared} {vs : List Value} {ns : List Int}
/-- from an abstract heap that tracks the script at most -/
theorem law_from (H : Hp) (inK : K.In s1.heap) (top : s1.heap.Ns mainGlobals mg) (blt : s1.heap.Ns builtinsNs mb) (bltAll : ∀ x : Str, x ≠ "__name__" → mb x = bootBuiltins x) (free : s1.heap.NoLimit) (nogen : s1.gens = #[])
    (scr : s1.heap.get? a = some { cls := .type "list", data := .seq vs.toArray }) (room : Room k callerA)
    (F : ∀ base : Heap, K.In base → base.Ns mainGlobals mg → FnG P w K mg base k fa fd [x] sp) (hbind : ∀ (s : Shared) (u : Value), BindsTo s fd ⟨[u], []⟩ [(x, u)])
    (goal : sp [.ref a] H (fun v _ => v = .bl true) fun _ _ _ => False) (hO : Only H) (ok : HOk P w H s1.heap) (alone : ∀ b, H b ≠ none → b = a) (outK : H a ≠ none → K.lookup a = none) :
    codeAny (model P w) callerA (.call (.ref fa) ⟨[.ref a], []⟩) (fun r s' => r = .ok (.ret (.bool true)) ∧ OldK s1.heap s'.heap ∧ s'.os = s1.os ∧ AllBare s'.gens) s1 := by
  have notrk : ∀ {b : Addr} {o : Obj} {es : Array DictEntry} {ep : Nat}, s1.heap.get? b = some o → o.data = .dict es ep → H b = none := by
    intro b o es ep g d
    cases q : H b with
    | none => rfl
    | some u =>
      obtain rfl := alone b (by rw [q]; exact Option.some_ne_none _)
      rw [scr] at g
      cases g
      cases (d : Data.seq vs.toArray _ = Data.dict es ep)
  have lift : ∀ {b : Addr} {m : Str → Option Value}, s1.heap.Ns b m → (hidT s1.heap H).Ns b m := by
    rintro b m ⟨o, es, ep, g, d, r⟩
    exact ⟨o, es, ep, hidT_get g (notrk g d), d, r⟩
  have inK' : K.In (hidT s1.heap H) := by
    intro b o g
    refine hidT_get (inK b o g) ?_
    cases q : H b with
    | none => rfl
    | some u =>
      obtain rfl := alone b (by rw [q]; exact Option.some_ne_none _)
      rw [outK (by rw [q]; exact Option.some_ne_none _)] at g
      cases g
  obtain ⟨mc, l1, l2⟩ := free
  have md : Mod K mg (hidT s1.heap H) := { kin := inK', glob := lift top, blt := ⟨mb, lift blt, bltAll⟩, nolimit := ⟨mc, lift l1, l2⟩ }
  have ent : Env0 P w K mg (hidT s1.heap H) callerA [] s1 H := ⟨rfl, md, fun _ _ g => of_hidT g, Nat.le_of_eq (hidT_size _ _), trivial, fun b hb => (by cases hb), ok, .of_eq nogen⟩
  have runs := (F _ inK' (lift top)).run callerA [] s1 H ⟨[.ref a], []⟩ [.ref a] [.ref a] _ _ room rfl ent (hbind s1 (.ref a)) (.cons rfl .nil) goal
  refine codeAny_mono runs fun res s' out => ?_
  match res, out with
  | .error e, z =>
    obtain ⟨_, _, _, _, _, _, _, _, _, _, _, _, f⟩ := z
    exact f.elim
  | .ok .next, z => exact z.elim
  | .ok .brk, z => exact z.elim
  | .ok .cont, z => exact z.elim
  | .ok (.ret u), ⟨v, H', os, bare, un, ok', rv, z⟩ =>
    obtain rfl : v = .bl true := z
    obtain rfl : u = Value.bool true := rv
    refine ⟨rfl, OldK.of_keep fun b o g => ?_, os, bare⟩
    cases q : H b with
    | none => exact un.keep b o g q (by intro z; cases z) (by intro z; cases z)
    | some u =>
      rcases hO b with z | ⟨ob, xs, z⟩
      · rw [q] at z; cases z
      · have still := (ok' b _ (un.frzs b ob _ z)).1
        have was := (ok b _ z).1
        rw [g] at was
        cases was
        exact still
theorem law_callG (inK : K.In s1.heap) (top : s1.heap.Ns mainGlobals mg) (blt : s1.heap.Ns builtinsNs mb) (bltAll : ∀ x : Str, x ≠ "__name__" → mb x = bootBuiltins x) (free : s1.heap.NoLimit) (nogen : s1.gens = #[])
    (scr : s1.heap.get? a = some { cls := .type "list", data := .seq vs.toArray }) (isInts : IntsAre vs ns) (len : ns.length ≤ sizeLine) (room : Room k callerA)
    (F : ∀ base : Heap, K.In base → base.Ns mainGlobals mg → FnG P w K mg base k fa fd [x] sp) (hbind : ∀ (s : Shared) (u : Value), BindsTo s fd ⟨[u], []⟩ [(x, u)])
    (goal : ∀ H : Hp, RL K H a (ns.map V.int) → sp [.ref a] H (fun v _ => v = .bl true) fun _ _ _ => False) :
    codeAny (model P w) callerA (.call (.ref fa) ⟨[.ref a], []⟩) (fun r s' => r = .ok (.ret (.bool true)) ∧ OldK s1.heap s'.heap ∧ s'.os = s1.os ∧ AllBare s'.gens) s1 := by
  cases hk : K.lookup a with
  | some o =>
    have same := inK a o hk
    rw [scr] at same
    cases same
    have sz : vs.toArray.size ≤ sizeLine := by rw [List.size_toArray, isInts.length]; exact len
    refine law_from (fun _ => none) inK top blt bltAll free nogen scr room F hbind (goal _ (Or.inr ⟨vs.toArray, _, hk, sz, ?_⟩)) (fun _ => Or.inl rfl) ?_ ?_ fun z => (z rfl).elim
    · rw [List.toList_toArray]; exact vals_ints isInts
    · intro b u z; cases z
    · intro b z; exact (z rfl).elim
  | none =>
    have hO : Only (fun b => if b = a then some (HO.frz { cls := .type "list", data := .seq vs.toArray } (.lst (ns.map V.int))) else none : Hp) := by
      intro b
      by_cases hb : b = a
      · exact Or.inr ⟨_, _, if_pos hb⟩
      · exact Or.inl (if_neg hb)
    refine law_from _ inK top blt bltAll free nogen scr room F hbind (goal _ (Or.inl (Or.inr ⟨_, if_pos rfl⟩))) hO ?_ ?_ fun _ => hk
    · intro b u z
      by_cases hb : b = a
      · subst hb
        have z : some (HO.frz { cls := .type "list", data := .seq vs.toArray } (.lst (ns.map V.int))) = some u := (if_pos rfl).symm.trans z
        cases z
        exact ⟨scr, by rw [List.length_map]; exact len, vs, _, vals_ints isInts, scr⟩
      · cases (if_neg hb).symm.trans z
    · intro b z
      by_cases hb : b = a
      · exact hb
      · exact (z (if_neg hb)).elim
end
end Pf

set_option Elab.async false
set_option linter.all false
set_option maxRecDepth 100000
/-! From the written part to the law. -/
namespace Pf
open PySem PySem.Spec PyProof.Rows L2

def sbT (L : List (Str × Str × Bool)) : Str → Str → Option Bool := fun x y => match L.find? fun p => p.1 == x && p.2.1 == y with
  | some p => some p.2.2
  | none => none
def atT (L : List (Str × Str)) : Str → Option Str := fun x => match L.find? fun p => p.1 == x with
  | some p => some p.2
  | none => none
theorem sbT_mem {L : List (Str × Str × Bool)} {x y : Str} {b : Bool} (h : sbT L x y = some b) : (x, y, b) ∈ L := by
  unfold sbT at h
  split at h
  · rename_i p e
    have m := List.mem_of_find?_eq_some e
    have q := List.find?_some e
    simp only [Bool.and_eq_true, beq_iff_eq] at q
    obtain ⟨x', y', b'⟩ := p
    obtain ⟨rfl, rfl⟩ := q
    cases h
    exact m
  · cases h
theorem atT_mem {L : List (Str × Str)} {x f : Str} (h : atT L x = some f) : (x, f) ∈ L := by
  unfold atT at h
  split at h
  · rename_i p e
    have m := List.mem_of_find?_eq_some e
    have q := List.find?_some e
    simp only [beq_iff_eq] at q
    obtain ⟨x', f'⟩ := p
    obtain rfl := q
    cases h
    exact m
  · cases h
section
variable {P : Program} {w : World} {K : PySem.W.Frag} {mg : Str → Option Value} {base : Heap} {k : Nat} {Γ : Gs}
/-- one def more -/
theorem Glo.step {i : Nat} {x : Str} {n : Nat} {m : List D → Rs D} {f : Addr} {fd : FuncData} {ps : List Str} (G : Glo P w K mg base k Γ) (F : FnG P w K mg base (k + 1) f fd ps (spF K mg n m)) (hm : mg x = some (.ref f)) (hk : PySem.W.keepIn K (.ref f) = true) (hb : L2.Binds K fd ps []) :
    Glo P w K mg base (k + 1) { Γ with fs := Γ.fs ++ [(i, x, n, m)] } where
  gl := G.gl
  fs := fun i' y n' m' h => by
    rcases List.mem_append.mp h with h | h
    · obtain ⟨j, g, gd, qs, hj, r⟩ := G.fs i' y n' m' h
      exact ⟨j, g, gd, qs, Nat.le_succ_of_le hj, r⟩
    · rw [List.mem_singleton] at h
      cases h
      exact ⟨k + 1, f, fd, ps, Nat.le_refl _, F, hm, hk, hb⟩
  bs := G.bs
  sb := G.sb
  at_ := G.at_
  ex := G.ex
  hnd := G.hnd
  two := Nat.le_succ_of_le G.two
/-- ahead of all defs -/
theorem Glo.init {gl : List (Nat × Str × D)} {bs hs : List Str} {sb : List (Str × Str × Bool)} {at_ : List (Str × Str)} (h1 : ∀ p ∈ gl, ∃ u v, mg p.2.1 = some u ∧ L2.RelV v u ∧ ∀ F, Dn K F v p.2.2) (h2 : ∀ x ∈ bs, mg x = none) (h3 : ∀ p ∈ sb, SubIs K mg p.1 p.2.1 p.2.2)
    (h4 : ∀ p ∈ at_, (∃ C, mg p.1 = some (.ref C) ∧ Ask K C p.2) ∧ ExCls P w K mg base p.1 p.2) (h5 : ∀ y ∈ hs, ∃ cv, ClsIs mg y cv) : Glo P w K mg base 2 ⟨gl, [], bs, sbT sb, atT at_, hs⟩ where
  gl := fun i x d h => h1 (i, x, d) h
  fs := fun i x n m h => by cases h
  bs := h2
  sb := fun x y b h => h3 (x, y, b) (sbT_mem h)
  at_ := fun y f h => (h4 (y, f) (atT_mem h)).1
  ex := fun x f h => (h4 (x, f) (atT_mem h)).2
  hnd := h5
  two := Nat.le_refl _
theorem gl_str {x : Str} {s : Str} {t : Tok} (h : mg x = some (.str s t)) (a : asc s = true) (l : s.length ≤ LIM) : ∃ u v, mg x = some u ∧ L2.RelV v u ∧ ∀ F, Dn K F v (.str s) := ⟨_, .str s, h, ⟨t, rfl⟩, fun _ => .str a l⟩
theorem gl_int {x : Str} {i : Int} {t : Tok} (h : mg x = some (.int i t)) : ∃ u v, mg x = some u ∧ L2.RelV v u ∧ ∀ F, Dn K F v (.int i) := ⟨_, .int i, h, ⟨t, rfl⟩, fun _ => .int i⟩
/-- an own class: its base an own one without __init__ -/
theorem cls_own {x f base_ par msg qual : Str} {st : Stmt} {C fI : Addr} {fd : FuncData} {b : Bs} {j : Nat} {p1 p2 p3 p4 p5 p6 p7 p8 p9 p10 : Pos} (gC : mg x = some (.ref C)) (oc : Oc K b C f) (iC : PySem.W.findIn K (.ref C) "__init__" = some (some (.ref fI))) (tI : PySem.W.isFn K (.ref fI) = true)
    (F : Fun K "__init__" qual st fI fd) (S : FnScope ["self", par] ["self", par] (defScope st)) (B : BaseIs K mg b base_) (hs : (defScope st).names.lookup ("self" : Str) = some .local) (hp : (defScope st).names.lookup par = some .local) (hx : (defScope st).names.lookup base_ = some .globalImplicit)
    (hd : (par == ("__debug__" : Str)) = false) (hcd : (par == ("__classdict__" : Str)) = false)
    (call : ∀ env : Env, ∃ pl : Sem Bool, eval (.Call (.Attribute (.Name base_ p1) "__init__" p2) [.Name "self" p3, .Constant (.str msg) j p4] [] p5) env = (do
      let ov ← eval (.Name base_ p1) env
      standAt p2.atName
      let (g, first) ← holding [ov] (getMethod ov "__init__" pl)
      callWith p5 g first (backTo p5 (starEach [.Name "self" p3, .Constant (.str msg) j p4] env)) (backToKw p5 (keywordEach [] env))))
    (body : defBody st = [.Expr (.Call (.Attribute (.Name base_ p1) "__init__" p2) [.Name "self" p3, .Constant (.str msg) j p4] [] p5) p6, .Assign [.Attribute (.Name "self" p7) f p8] (.Name par p9) p10])
    (bI : L2.Binds K fd ["self", par] []) : ExCls P w K mg base x f :=
  ⟨b, C, fI, fd, ["self", par], gC, oc, iC, of_decide_eq_true (by simpa [PySem.W.isFn] using tI), fn_ini F S B hs hp hx hd hcd call body, bI⟩
theorem sub_own {x y : Str} {C D0 : Addr} {b : Bool} (hx : mg x = some (.ref C)) (hy : mg y = some (.ref D0)) (h1 : PySem.W.exmOne K (.ref C) (.ref D0) = some b) (h2 : PySem.W.kitOne K (.ref C) (.ref D0) = some b) : SubIs K mg x y b :=
  ⟨C, .ref D0, hx, .inl hy, ⟨.ref D0, rfl, fun u r => r⟩, h1, h2⟩
end
/-- what is known of a class object by itself -/
theorem clsIn_one {K : PySem.W.Frag} {C : Addr} {o : Obj} (h : K.lookup C = some o) : PySem.W.clsIn K C = PySem.W.clsIn [(C, o)] C := by
  unfold PySem.W.clsIn
  rw [h]
  simp [List.lookup]
theorem excIn_one {K : PySem.W.Frag} {C : Addr} {o : Obj} {tl : List Value} {n : String} (h : K.lookup C = some o) (e : (PySem.W.excInitIn [(C, o)] C tl n && PySem.W.excOver [(C, o)] C tl) = true) : PySem.W.excInitIn K C tl n = true ∧ PySem.W.excOver K C tl = true := by
  rw [Bool.and_eq_true] at e
  refine ⟨?_, ?_⟩
  · have e1 := e.1
    unfold PySem.W.excInitIn at e1 ⊢
    rw [h]
    simpa [List.lookup] using e1
  · have e2 := e.2
    unfold PySem.W.excOver at e2 ⊢
    rw [clsIn_one h]
    exact e2
theorem oc_mk {K : PySem.W.Frag} {b : Bs} {C : Addr} {f : Str} {o : Obj} (h : K.lookup C = some o) (e : (PySem.W.excInitIn [(C, o)] C b.tail b.new && PySem.W.excOver [(C, o)] C b.tail) = true) (hd : PySem.W.hasDictIn K C = true) (tk : PySem.W.takerIn K C f = some none)
    (sa : PySem.W.findIn K (.ref C) "__setattr__" = some (some (.builtin "object.__setattr__"))) (exC : PySem.W.subIn K (.ref C) (.type "BaseException") = some true) (tyC : PySem.W.typeIn K (.ref C) = some (.type "type")) (kC : PySem.W.keepIn K (.ref C) = true) : Oc K b C f :=
  ⟨(excIn_one h e).1, (excIn_one h e).2, hd, tk, sa, exC, tyC, kC⟩
theorem exm_one {K : PySem.W.Frag} {C D0 : Addr} {b : Bool} (h1 : PySem.W.subIn K (.ref D0) (.type "BaseException") = some true) (h2 : PySem.W.isClsIn K D0 = true) (h3 : PySem.W.typeIn K (.ref D0) = some (.type "type")) (h4 : PySem.W.subIn K (.ref C) (.ref D0) = some b) :
    PySem.W.exmOne K (.ref C) (.ref D0) = some b ∧ PySem.W.kitCls K (.ref C) (.ref D0) = some b := by
  have k : PySem.W.kitCls K (.ref C) (.ref D0) = some b := by
    show (if ((PySem.W.clsIn K D0).isSome && PySem.W.typeIn K (.ref D0) == some (.type "type")) = true then PySem.W.subIn K (.ref C) (.ref D0) else none) = some b
    have e : ((PySem.W.clsIn K D0).isSome && PySem.W.typeIn K (.ref D0) == some (.type "type")) = true := by
      rw [h3]
      have h2 : (PySem.W.clsIn K D0).isSome = true := h2
      rw [h2]
      rfl
    rw [if_pos e]
    exact h4
  refine ⟨?_, k⟩
  unfold PySem.W.exmOne
  have e : (PySem.W.subIn K (.ref D0) (.type "BaseException") == some true) = true := by rw [h1]; rfl
  rw [if_pos e]
  exact k
theorem sub_self {K : PySem.W.Frag} {mg : Str → Option Value} {x : Str} {C : Addr} (hx : mg x = some (.ref C)) (h1 : PySem.W.subIn K (.ref C) (.type "BaseException") = some true) (h2 : PySem.W.isClsIn K C = true) (h3 : PySem.W.typeIn K (.ref C) = some (.type "type"))
    (h4 : PySem.W.subIn K (.ref C) (.ref C) = some true) : SubIs K mg x x true :=
  sub_own hx hx (exm_one h1 h2 h3 h4).1 (by
    unfold PySem.W.kitOne
    rw [if_pos (beq_self_eq_true _)])
theorem sub_ne {K : PySem.W.Frag} {mg : Str → Option Value} {x y : Str} {C D0 : Addr} {b : Bool} (hx : mg x = some (.ref C)) (hy : mg y = some (.ref D0)) (h1 : PySem.W.subIn K (.ref D0) (.type "BaseException") = some true) (h2 : PySem.W.isClsIn K D0 = true) (h3 : PySem.W.typeIn K (.ref D0) = some (.type "type"))
    (h4 : PySem.W.subIn K (.ref C) (.ref D0) = some b) (ne : (Value.ref C == Value.ref D0) = false) : SubIs K mg x y b :=
  sub_own hx hy (exm_one h1 h2 h3 h4).1 (by
    unfold PySem.W.kitOne
    rw [ne, if_neg Bool.false_ne_true]
    exact (exm_one h1 h2 h3 h4).2)
/-- the law, from its def's promise -/
theorem walk_G {l : PySem.W.OpenLaw} {n k : Nat} {q : Program} {loose : List Str} {XP : (Str → Option Value) → Heap → Prop} {YP : World → Heap → Prop} {d : DefRec} {K : Params → PySem.W.Frag} {x : Str} {m : List D → Rs D}
    (hn : l.most = some n) (hn2 : n ≤ 1000000) (hdf : d.params.defaults = []) (room : Room k callerA) (hY : ∀ (w : World) (h : Heap), YP w h → (K w.params).In h)
    (F : ∀ (w : World) (mg : Str → Option Value) (fa : Addr) (h : Heap), (K w.params).In h → h.Ns mainGlobals mg → mg d.name = some (.ref fa) → ∃ fd : FuncData, (∀ (s : Shared) (u : Value), BindsTo s fd ⟨[u], []⟩ [(x, u)]) ∧
      ∀ base : Heap, (K w.params).In base → base.Ns mainGlobals mg → FnG l.prog w (K w.params) mg base k fa fd [x] (spF (K w.params) mg 1 m))
    (law : ∀ ns : List Int, ns.length ≤ n → m [.list (ns.map PyData.int)] = .ok (.bool true)) : PySem.W.WalkO q loose XP YP l.row.toRowW d [] (fun f vs => PySem.call f vs) := by
  refine Att.attach_call hn hdf fun w s₀ s₁ mg mb fa o pm cd doc a vs ns G Y ho hd hcd hmg hobj hints hlen hg => ?_
  obtain ⟨fd, hb, hF⟩ := F w mg fa _ (hY w _ Y) G.T.g hmg
  refine law_callG (hY w _ Y) G.T.g G.T.b G.T.builtins G.T.nolimit hg hobj hints (Nat.le_trans hlen (Nat.le_trans hn2 lim_line)) room hF hb fun H hS => ?_
  refine ⟨[], [.list (ns.map PyData.int)], fun a ha => (by cases ha), .cons (.lst (by rw [msk_nil]; exact hS) (by rw [List.length_map]; exact Nat.le_trans hlen hn2) (dpAll_ints ns)) .nil, rfl, ?_⟩
  rw [law ns hlen]
  intro H' v _ hv
  exact hv.isB
end Pf

set_option Elab.async false
set_option linter.all false
set_option maxRecDepth 100000
/-! Terms of the defs that the laws share (printed). -/
namespace T
open PySem Pf
-- is_integer 1
def is_integer : Ss := (.cons (.ret (.and (.isa (.ex (.var 0)) .int) (.not (.isa (.ex (.var 0)) .bool)))) .nil)
-- is_between 3
def is_between : Ss := (.cons (.ret (.and (.call 0 (.cons (.var 0) .nil)) (.ch .le .le (.ex (.var 1)) (.ex (.var 0)) (.ex (.var 2))))) .nil)
-- is_moment 1
def is_moment : Ss := (.cons (.ret (.call 1 (.cons (.var 0) (.cons (.int 0) (.cons (.gl 3) .nil))))) .nil)
-- is_name 2
def is_name : Ss := (.cons (.ret (.and (.isa (.ex (.var 0)) .str) (.and (.ch .le .le (.ex (.int 1)) (.ex (.len (.ex (.var 0)))) (.ex (.gl 2))) (.bi .alll (.cons (.lc (.nm 1) [1] (.val (.var 0)) .none (.cmp .inn (.ex (.var 1)) (.ex (.gl 0)))) .nil))))) .nil)
-- is_value 2
def is_value : Ss := (.cons (.ret (.and (.cmp .le (.ex (.len (.ex (.var 0)))) (.ex (.gl 2))) (.bi .alll (.cons (.lc (.nm 1) [1] (.val (.var 0)) .none (.cmp .inn (.ex (.var 1)) (.ex (.bin .add (.gl 0) (.gl 1))))) .nil)))) .nil)
-- split_query 2
def split_query : Ss := (.cons (.ret (.lc (.nm 1) [1] (.val (.mt .split (.var 0) (.cons (.str "&") .nil))) .none (.mt .partition (.var 1) (.cons (.str "=") .nil)))) .nil)
-- is_query 5
def is_query : Ss := (.cons (.asg (.nm 1) (.call 5 (.cons (.var 0) .nil))) (.cons (.ife (.or (.cmp .gt (.ex (.len (.ex (.var 1)))) (.ex (.gl 5))) (.cmp .ne (.ex (.lenks (.tp [2, 3, 4]) [2, 3, 4] (.val (.var 1)) .none (.var 2))) (.ex (.len (.ex (.var 1)))))) (.cons (.ret (.bl false)) .nil) .nil) (.cons (.ret (.bi .alll (.cons (.lc (.tp [2, 3, 4]) [2, 3, 4] (.val (.var 1)) .none (.and (.call 3 (.cons (.var 2) .nil)) (.and (.cmp .eq (.ex (.var 3)) (.ex (.str "="))) (.call 4 (.cons (.var 4) .nil))))) .nil))) .nil)))
-- is_address 6
def is_address : Ss := (.cons (.ife (.not (.isa (.ex (.var 0)) .str)) (.cons (.ret (.bl false)) .nil) .nil) (.cons (.asg (.tp [1, 2, 3]) (.mt .partition (.var 0) (.cons (.str "?") .nil))) (.cons (.asg (.nm 4) (.mt .split (.var 1) (.cons (.str "/") .nil))) (.cons (.ife (.or (.cmp .gt (.ex (.len (.ex (.var 4)))) (.ex (.bin .add (.gl 4) (.int 1)))) (.not (.bi .alll (.cons (.lc (.nm 5) [5] (.val (.var 4)) .none (.call 3 (.cons (.var 5) .nil))) .nil)))) (.cons (.ret (.bl false)) .nil) .nil) (.cons (.ret (.or (.cmp .eq (.ex (.var 2)) (.ex (.str ""))) (.call 6 (.cons (.var 3) .nil)))) .nil)))))
-- _law_numbers 8
def l_numbers : Ss := (.cons (.asg (.nm 3) (.bi .max2 (.cons (.var 0) (.cons (.bin .sub (.neg (.int 1)) (.var 0)) .nil)))) (.cons (.asg (.nm 4) (.var 3)) (.cons (.own 5 .nil) (.cons (.for (.nm 6) (.r1 (.len (.ex (.var 2)))) (.cons (.ife (.and (.cmp .ge (.ex (.var 3)) (.ex (.bin .pow (.int 10) (.int 18)))) (.cmp .gt (.ex (.var 4)) (.ex (.int 0)))) (.cons (.app 5 (.bin .mod (.var 4) (.ix (.var 2) (.var 6)))) (.cons (.asg (.nm 4) (.bin .fdiv (.var 4) (.ix (.var 2) (.var 6)))) .nil)) (.cons (.asg (.nm 7) (.bin .mod (.bin .pow (.bin .add (.bin .add (.bin .mod (.var 3) (.int 2147483629)) (.bin .mul (.int 7919) (.var 1))) (.int 1)) (.int 3)) (.int 2147483647))) (.cons (.asg (.nm 7) (.bin .mod (.bin .mul (.bin .add (.var 7) (.bin .mul (.int 104729) (.bin .add (.var 6) (.int 1)))) (.bin .add (.var 6) (.int 3))) (.int 2147483629))) (.cons (.asg (.nm 7) (.bin .mod (.bin .mul (.bin .mod (.bin .pow (.var 7) (.int 5)) (.int 2147483647)) (.int 48271)) (.int 2147483629))) (.cons (.app 5 (.bin .mod (.bin .fdiv (.var 7) (.int 16)) (.ix (.var 2) (.var 6)))) .nil))))) .nil)) (.frz 5 (.cons (.ret (.var 5)) .nil))))))
-- _law_odd 2
def l_odd : Ss := (.cons (.asg (.nm 1) (.lst (.cons .non (.cons (.bl true) (.cons (.bl false) (.cons (.str "") (.cons (.str "a") (.cons (.str "Ab") (.cons (.int 5) (.cons (.neg (.int 1)) (.cons (.int 1000) (.cons (.tup .nil) (.cons (.lst .nil) (.cons .dic0 (.cons (.tup (.cons (.str "a") .nil)) (.cons (.lst (.cons (.str "a") .nil)) (.cons (.tup (.cons (.int 0) (.cons (.str "a") .nil))) (.cons (.bin .pow (.int 10) (.int 30)) .nil)))))))))))))))))) (.cons (.ret (.ix (.bin .add (.var 1) (.lst (.cons (.str "a b") (.cons (.tup (.cons (.str "data") .nil)) (.cons (.str "abcdefghi") (.cons (.tup (.cons (.str "missing") (.cons (.int 0) .nil))) .nil)))))) (.bin .mod (.var 0) (.int 20)))) .nil))
-- _law_address 10
def l_address : Ss := (.cons (.asg (.tp [1, 2]) (.tup (.cons (.str "abcdefghijklmnopqrstuvwxyz") (.cons (.str "0123456789abcdefghijklmnopqrstuvwxyz") .nil)))) (.cons (.own 3 .nil) (.cons (.for (.nm 4) (.val (.sl (.var 0) (.some (.int 1)) (.some (.bin .add (.int 2) (.bin .mod (.ix (.var 0) (.int 0)) (.int 7)))))) (.cons (.asg (.nm 5) (.ix (.lst (.cons (.str "a") (.cons (.str "news") (.cons (.str "zz") (.cons (.str "abcdefgh") (.cons (.str "x") .nil)))))) (.bin .mod (.var 4) (.int 5)))) (.cons (.app 3 (.ife (.cmp .eq (.ex (.bin .mod (.var 4) (.int 2))) (.ex (.int 0))) (.var 5) (.sl (.sl (.var 1) (.some (.bin .mod (.var 4) (.int 26))) .none) .none (.some (.bin .add (.int 1) (.bin .mod (.bin .fdiv (.var 4) (.int 26)) (.int 8))))))) .nil))) (.cons (.asg (.nm 6) (.bin .add (.sl (.lst (.cons (.str "a") (.cons (.str "b") (.cons (.str "key") (.cons (.str "t") .nil))))) (.some (.bin .mod (.ix (.var 0) (.int 8)) (.int 4))) .none) (.sl (.lst (.cons (.str "a") (.cons (.str "b") (.cons (.str "key") (.cons (.str "t") .nil))))) .none (.some (.bin .mod (.ix (.var 0) (.int 8)) (.int 4)))))) (.cons (.asg (.nm 6) (.ife (.cmp .eq (.ex (.bin .mod (.ix (.var 0) (.int 9)) (.int 2))) (.ex (.int 1))) (.rev (.var 6)) (.var 6))) (.cons (.own 7 .nil) (.cons (.for (.nm 8) (.r1 (.bin .mod (.ix (.var 0) (.int 10)) (.int 5))) (.cons (.asg (.nm 4) (.ix (.var 0) (.bin .add (.int 11) (.var 8)))) (.cons (.asg (.nm 9) (.sl (.sl (.var 2) (.some (.bin .mod (.var 4) (.int 36))) .none) .none (.some (.bin .mod (.bin .fdiv (.var 4) (.int 36)) (.int 9))))) (.cons (.app 7 (.bin .add (.bin .add (.ix (.var 6) (.var 8)) (.str "=")) (.var 9))) .nil)))) (.frz 7 (.frz 3 (.cons (.ret (.bin .add (.mt .join (.str "/") (.cons (.var 3) .nil)) (.ife (.cmp .ne (.ex (.var 7)) (.ex (.lst .nil))) (.bin .add (.str "?") (.mt .join (.str "&") (.cons (.var 7) .nil))) (.str "")))) .nil))))))))))
-- _law_is_name 2
def l_is_name : Ss := (.cons (.ife (.or (.not (.isa (.ex (.var 0)) .str)) (.not (.ch .le .le (.ex (.int 1)) (.ex (.len (.ex (.var 0)))) (.ex (.int 8))))) (.cons (.ret (.bl false)) .nil) .nil) (.cons (.ret (.cmp .eq (.ex (.lc (.nm 1) [1] (.val (.var 0)) (.some (.not (.ch .le .le (.ex (.str "a")) (.ex (.var 1)) (.ex (.str "z"))))) (.var 1))) (.ex (.lst .nil)))) .nil))
-- _law_is_query 6
def l_is_query : Ss := (.cons (.asg (.nm 1) (.mt .split (.var 0) (.cons (.str "&") .nil))) (.cons (.own 2 .nil) (.cons (.for (.nm 3) (.val (.var 1)) (.cons (.asg (.nm 4) (.mt .split (.var 3) (.cons (.str "=") .nil))) (.cons (.ife (.or (.cmp .ne (.ex (.len (.ex (.var 4)))) (.ex (.int 2))) (.or (.not (.call 1096 (.cons (.ix (.var 4) (.int 0)) .nil))) (.cmp .gt (.ex (.len (.ex (.ix (.var 4) (.int 1))))) (.ex (.int 8))))) (.cons (.ret (.bl false)) .nil) .nil) (.cons (.ife (.cmp .ne (.ex (.lc (.nm 5) [5] (.val (.ix (.var 4) (.int 1))) (.some (.not (.or (.ch .le .le (.ex (.str "a")) (.ex (.var 5)) (.ex (.str "z"))) (.ch .le .le (.ex (.str "0")) (.ex (.var 5)) (.ex (.str "9")))))) (.var 5))) (.ex (.lst .nil))) (.cons (.ret (.bl false)) .nil) .nil) (.cons (.app 2 (.ix (.var 4) (.int 0))) .nil))))) (.cons (.ret (.and (.cmp .le (.ex (.len (.ex (.var 1)))) (.ex (.int 4))) (.cmp .eq (.ex (.lenset (.ov 2))) (.ex (.len (.ov 2)))))) .nil))))
-- _law_is_address 4
def l_is_address : Ss := (.cons (.ife (.not (.isa (.ex (.var 0)) .str)) (.cons (.ret (.bl false)) .nil) .nil) (.cons (.asg (.nm 1) (.mt .split (.var 0) (.cons (.str "?") .nil))) (.cons (.asg (.nm 2) (.mt .split (.ix (.var 1) (.int 0)) (.cons (.str "/") .nil))) (.cons (.ife (.or (.cmp .gt (.ex (.len (.ex (.var 2)))) (.ex (.int 7))) (.or (.cmp .gt (.ex (.len (.ex (.var 1)))) (.ex (.int 2))) (.cmp .ne (.ex (.lc (.nm 3) [3] (.val (.var 2)) (.some (.not (.call 1096 (.cons (.var 3) .nil)))) (.var 3))) (.ex (.lst .nil))))) (.cons (.ret (.bl false)) .nil) .nil) (.cons (.ret (.or (.cmp .eq (.ex (.len (.ex (.var 1)))) (.ex (.int 1))) (.call 1100 (.cons (.ix (.var 1) (.int 1)) .nil)))) .nil)))))
-- require_address 1
def require_address : Ss := (.cons (.ife (.not (.call 7 (.cons (.var 0) .nil))) (.cons (.rai "InvalidAddress" "value" (.var 0)) .nil) .nil) .nil)
-- host_of 1
def host_of : Ss := (.cons (.exp (.call 8 (.cons (.var 0) .nil))) (.cons (.ret (.ix (.mt .split (.ix (.mt .partition (.var 0) (.cons (.str "?") .nil)) (.int 0)) (.cons (.str "/") .nil)) (.int 0))) .nil))
-- segments_of 1
def segments_of : Ss := (.cons (.exp (.call 8 (.cons (.var 0) .nil))) (.cons (.ret (.sl (.mt .split (.ix (.mt .partition (.var 0) (.cons (.str "?") .nil)) (.int 0)) (.cons (.str "/") .nil)) (.some (.int 1)) .none)) .nil))
-- parameters_of 7
def parameters_of : Ss := (.cons (.exp (.call 8 (.cons (.var 0) .nil))) (.cons (.asg (.tp [1, 2, 3]) (.mt .partition (.var 0) (.cons (.str "?") .nil))) (.cons (.ret (.ife (.cmp .ne (.ex (.var 2)) (.ex (.str ""))) (.lc (.tp [4, 5, 6]) [4, 5, 6] (.val (.call 5 (.cons (.var 3) .nil))) .none (.tup (.cons (.var 4) (.cons (.var 6) .nil)))) (.lst .nil))) .nil)))
-- is_text 2
def is_text : Ss := (.cons (.ret (.and (.isa (.ex (.var 0)) .str) (.and (.cmp .le (.ex (.len (.ex (.var 0)))) (.ex (.gl 15))) (.bi .alll (.cons (.lc (.nm 1) [1] (.val (.var 0)) .none (.ch .le .le (.ex (.str " ")) (.ex (.var 1)) (.ex (.str "~")))) .nil))))) .nil)
-- is_template 1
def is_template : Ss := (.cons (.ret (.and (.call 46 (.cons (.var 0) .nil)) (.cmp .isn (.ex (.call 47 (.cons (.var 0) .nil))) (.ex .non)))) .nil)
-- is_script 2
def is_script : Ss := (.cons (.ret (.and (.isa (.ex (.var 0)) .tuple) (.and (.cmp .le (.ex (.len (.ex (.var 0)))) (.ex (.gl 17))) (.bi .alll (.cons (.lc (.nm 1) [1] (.val (.var 0)) .none (.call 49 (.cons (.var 1) .nil))) .nil))))) .nil)
-- is_page 2
def is_page : Ss := (.cons (.ret (.and (.isa (.ex (.var 0)) .tuple) (.and (.cmp .le (.ex (.len (.ex (.var 0)))) (.ex (.gl 16))) (.bi .alll (.cons (.lc (.nm 1) [1] (.val (.var 0)) .none (.call 51 (.cons (.var 1) .nil))) .nil))))) .nil)
-- _law_text 3
def l_text : Ss := (.cons (.asg (.nm 1) (.str " !#$&'()*+,-./0123456789:;<=>?@ABCDEFGHIJKLMNOPQRSTUVWXYZ[]^_`abcdefghijklmnopqrstuvwxyz{|}~")) (.cons (.asg (.nm 2) (.lst (.cons (.str "") (.cons (.str "x") (.cons (.str "hi there") (.cons (.str "a|b;c") (.cons (.str "100 ^") (.cons (.str "^e") (.cons (.str "^_ ^c") (.cons (.bin .mul (.str "~") (.int 40)) (.cons (.str " ") .nil))))))))))) (.cons (.ret (.ix (.bin .add (.var 2) (.lst (.cons (.sl (.sl (.var 1) (.some (.bin .mod (.var 0) (.int 93))) .none) .none (.some (.bin .add (.int 1) (.bin .mod (.var 0) (.int 40))))) .nil))) (.bin .mod (.var 0) (.int 10)))) .nil)))
-- _law_template 1
def l_template : Ss := (.cons (.ret (.ix (.lst (.cons (.str "") (.cons (.str "a/b") (.cons (.str "{x} deg") (.cons (.str "{x}{y}") (.cons (.str "api?c={city}") (.cons (.str "no braces") .nil))))))) (.bin .mod (.var 0) (.int 6)))) .nil)
-- _law_row 3
def l_row : Ss := (.cons (.asg (.nm 1) (.ix (.lst (.cons (.str "set") (.cons (.str "get") (.cons (.str "need") (.cons (.str "put") .nil))))) (.bin .mod (.ix (.var 0) (.int 0)) (.int 4)))) (.cons (.ife (.cmp .eq (.ex (.var 1)) (.ex (.str "put"))) (.cons (.ret (.tup (.cons (.var 1) (.cons (.call 1211 (.cons (.ix (.var 0) (.int 1)) .nil)) .nil)))) .nil) .nil) (.cons (.asg (.nm 2) (.ife (.cmp .eq (.ex (.var 1)) (.ex (.str "get"))) (.call 1211 (.cons (.ix (.var 0) (.int 1)) .nil)) (.call 1212 (.cons (.ix (.var 0) (.int 1)) .nil)))) (.cons (.ret (.tup (.cons (.var 1) (.cons (.ix (.lst (.cons (.str "x") (.cons (.str "y") (.cons (.str "city") .nil)))) (.bin .mod (.ix (.var 0) (.int 2)) (.int 3))) (.cons (.var 2) .nil))))) .nil))))
-- _law_part 4
def l_part : Ss := (.cons (.asg (.nm 1) (.ix (.lst (.cons (.str "text") (.cons (.str "link") (.cons (.str "embed") (.cons (.str "script") .nil))))) (.bin .mod (.ix (.var 0) (.int 0)) (.int 4)))) (.cons (.asg (.nm 2) (.ix (.lst (.cons (.str "a") (.cons (.str "b/c") (.cons (.str "news?x=1") .nil)))) (.bin .mod (.ix (.var 0) (.int 1)) (.int 3)))) (.cons (.ife (.cmp .eq (.ex (.var 1)) (.ex (.str "script"))) (.cons (.ret (.tup (.cons (.var 1) (.cons (.ti .tuple (.cons (.lc (.nm 3) [3] (.r1 (.bin .mod (.ix (.var 0) (.int 2)) (.int 4))) .none (.call 1177 (.cons (.sl (.var 0) (.some (.bin .add (.int 3) (.bin .mul (.int 3) (.var 3)))) .none) .nil))) .nil)) .nil)))) .nil) .nil) (.cons (.ife (.cmp .eq (.ex (.var 1)) (.ex (.str "embed"))) (.cons (.ret (.tup (.cons (.var 1) (.cons (.var 2) .nil)))) .nil) .nil) (.cons (.ret (.ife (.cmp .eq (.ex (.var 1)) (.ex (.str "link"))) (.tup (.cons (.var 1) (.cons (.var 2) (.cons (.call 1212 (.cons (.ix (.var 0) (.int 2)) .nil)) .nil)))) (.tup (.cons (.var 1) (.cons (.call 1212 (.cons (.ix (.var 0) (.int 2)) .nil)) .nil))))) .nil)))))
-- _law_content 3
def l_content : Ss := (.cons (.asg (.nm 1) (.ix (.lst (.cons (.str "page") (.cons (.str "data") (.cons (.str "moved") (.cons (.str "missing") (.cons (.str "page") (.cons (.str "page") .nil))))))) (.bin .mod (.ix (.var 0) (.int 0)) (.int 6)))) (.cons (.ife (.cmp .eq (.ex (.var 1)) (.ex (.str "page"))) (.cons (.ret (.tup (.cons (.var 1) (.cons (.ti .tuple (.cons (.lc (.nm 2) [2] (.r1 (.bin .mod (.ix (.var 0) (.int 1)) (.int 5))) .none (.call 1152 (.cons (.sl (.var 0) (.some (.bin .add (.int 2) (.bin .mul (.int 12) (.var 2)))) .none) .nil))) .nil)) .nil)))) .nil) .nil) (.cons (.ife (.cmp .eq (.ex (.var 1)) (.ex (.str "data"))) (.cons (.ret (.tup (.cons (.var 1) (.cons (.call 1212 (.cons (.ix (.var 0) (.int 2)) .nil)) .nil)))) .nil) .nil) (.cons (.ret (.ife (.cmp .eq (.ex (.var 1)) (.ex (.str "moved"))) (.tup (.cons (.var 1) (.cons (.ix (.lst (.cons (.str "a") (.cons (.str "b/c") (.cons (.str "news?x=1") .nil)))) (.bin .mod (.ix (.var 0) (.int 2)) (.int 3))) .nil))) (.tup (.cons (.var 1) .nil)))) .nil))))
-- require_content 1
def require_content : Ss := (.cons (.ife (.not (.call 53 (.cons (.var 0) .nil))) (.cons (.rai "InvalidContent" "value" (.var 0)) .nil) .nil) .nil)
-- parts_of 1
def parts_of : Ss := (.cons (.exp (.call 54 (.cons (.var 0) .nil))) (.cons (.ret (.ife (.cmp .eq (.ex (.ix (.var 0) (.int 0))) (.ex (.str "page"))) (.ti .list (.cons (.ix (.var 0) (.int 1)) .nil)) (.lst .nil))) .nil))
-- embeds_of 2
def embeds_of : Ss := (.cons (.ret (.lc (.nm 1) [1] (.val (.call 55 (.cons (.var 0) .nil))) (.some (.cmp .eq (.ex (.ix (.var 1) (.int 0))) (.ex (.str "embed")))) (.ix (.var 1) (.int 1)))) .nil)
-- links_of 2
def links_of : Ss := (.cons (.ret (.lc (.nm 1) [1] (.val (.call 55 (.cons (.var 0) .nil))) (.some (.cmp .eq (.ex (.ix (.var 1) (.int 0))) (.ex (.str "link")))) (.ix (.var 1) (.int 1)))) .nil)
-- words_of 2
def words_of : Ss := (.cons (.exp (.call 54 (.cons (.var 0) .nil))) (.cons (.ife (.cmp .eq (.ex (.ix (.var 0) (.int 0))) (.ex (.str "data"))) (.cons (.ret (.ix (.var 0) (.int 1))) .nil) .nil) (.cons (.ret (.mt .join (.str " ") (.cons (.lc (.nm 1) [1] (.val (.call 55 (.cons (.var 0) .nil))) (.some (.cmp .inn (.ex (.ix (.var 1) (.int 0))) (.ex (.tup (.cons (.str "text") (.cons (.str "link") .nil)))))) (.ix (.var 1) (.neg (.int 1)))) .nil))) .nil)))
-- is_capture 7
def is_capture : Ss := (.cons (.ife (.or (.not (.isa (.ex (.var 0)) .tuple)) (.cmp .ne (.ex (.len (.ex (.var 0)))) (.ex (.int 6)))) (.cons (.ret (.bl false)) .nil) .nil) (.cons (.asg (.tp [1, 2, 3, 4, 5, 6]) (.var 0)) (.cons (.ife (.or (.not (.call 3 (.cons (.var 1) .nil))) (.or (.not (.call 7 (.cons (.var 2) .nil))) (.or (.not (.call 2 (.cons (.var 3) .nil))) (.not (.call 53 (.cons (.var 4) .nil)))))) (.cons (.ret (.bl false)) .nil) .nil) (.cons (.ife (.and (.cmp .isn (.ex (.var 5)) (.ex .non)) (.not (.call 1 (.cons (.var 5) (.cons (.int 0) (.cons (.var 3) .nil)))))) (.cons (.ret (.bl false)) .nil) .nil) (.cons (.ret (.or (.cmp .is (.ex (.var 6)) (.ex .non)) (.call 1 (.cons (.var 6) (.cons (.int 0) (.cons (.gl 6) .nil)))))) .nil)))))
-- require_captures 3
def require_captures : Ss := (.cons (.ife (.not (.isa2 (.ex (.var 0)) .list .tuple)) (.cons (.rai "InvalidCapture" "index" .non) .nil) .nil) (.cons (.for (.tp [1, 2]) (.enum (.var 0)) (.cons (.ife (.or (.not (.call 22 (.cons (.var 2) .nil))) (.cmp .ne (.ex (.ix (.var 2) (.int 1))) (.ex (.ix (.ix (.var 0) (.int 0)) (.int 1))))) (.cons (.rai "InvalidCapture" "index" (.var 1)) .nil) .nil) .nil)) .nil))
-- _law_truth 6
def l_truth : Ss := (.cons (.asg (.nm 2) (.lst (.cons (.tup (.cons (.str "data") (.cons (.str "x") .nil))) (.cons (.tup (.cons (.str "data") (.cons (.str "y") .nil))) (.cons (.tup (.cons (.str "missing") .nil)) (.cons (.tup (.cons (.str "page") (.cons (.tup (.cons (.tup (.cons (.str "text") (.cons (.str "x") .nil))) .nil)) .nil))) .nil)))))) (.cons (.asg (.nm 3) (.bin .mod (.ix (.var 0) (.int 0)) (.int 4))) (.cons (.own 4 .nil) (.cons (.for (.nm 5) (.r1 (.bin .add (.var 1) (.int 1))) (.cons (.ife (.and (.cmp .gt (.ex (.var 5)) (.ex (.int 0))) (.cmp .eq (.ex (.bin .mod (.ix (.var 0) (.bin .add (.int 1) (.var 5))) (.int 3))) (.ex (.int 0)))) (.cons (.asg (.nm 3) (.bin .mod (.bin .add (.bin .add (.var 3) (.int 1)) (.bin .mod (.bin .fdiv (.ix (.var 0) (.bin .add (.int 1) (.var 5))) (.int 3)) (.int 3))) (.int 4))) .nil) .nil) (.cons (.app 4 (.ix (.var 2) (.var 3))) .nil))) (.frz 4 (.cons (.ret (.var 4)) .nil))))))
-- _law_count 3
def l_count : Ss := (.cons (.ret (.len (.ex (.lc (.nm 2) [2] (.r2 (.int 1) (.bin .add (.var 1) (.int 1))) (.some (.cmp .ne (.ex (.ix (.var 0) (.var 2))) (.ex (.ix (.var 0) (.bin .sub (.var 2) (.int 1)))))) (.var 2))))) .nil)
-- _law_true_capture 8
def l_true_capture : Ss := (.cons (.asg (.nm 3) (.bin .mod (.ix (.var 0) (.int 0)) (.len (.ex (.var 1))))) (.cons (.ownLc 4 (.nm 5) [5] (.r1 (.bin .add (.var 3) (.int 1))) (.some (.cmp .eq (.ex (.call 1051 (.cons (.var 1) (.cons (.var 5) .nil)))) (.ex (.call 1051 (.cons (.var 1) (.cons (.var 3) .nil)))))) (.var 5)) (.frz 4 (.cons (.asg (.nm 6) (.ix (.lst (.cons .non (.cons (.ix (.var 4) (.bin .mod (.ix (.var 0) (.int 1)) (.len (.ex (.var 4))))) (.cons (.ix (.var 4) (.int 0)) .nil)))) (.bin .mod (.ix (.var 0) (.int 2)) (.int 3)))) (.cons (.asg (.nm 7) (.ix (.lst (.cons .non (.cons (.bin .add (.var 2) (.call 1051 (.cons (.var 1) (.cons (.var 3) .nil)))) .nil))) (.bin .mod (.ix (.var 0) (.int 3)) (.int 2)))) (.cons (.ret (.tup (.cons (.ix (.lst (.cons (.str "east") (.cons (.str "west") .nil))) (.bin .mod (.ix (.var 0) (.int 4)) (.int 2))) (.cons (.str "news") (.cons (.var 3) (.cons (.ix (.var 1) (.var 3)) (.cons (.var 6) (.cons (.var 7) .nil)))))))) .nil))))))
-- _law_captures 8
def l_captures : Ss := (.cons (.par [2, 3] (.cons (.call 1219 (.cons (.var 0) (.cons (.var 1) .nil))) (.cons (.bin .mod (.ix (.var 0) (.int 40)) (.int 5)) .nil))) (.cons (.own 4 .nil) (.cons (.for (.nm 5) (.r1 (.bin .mod (.ix (.var 0) (.int 41)) (.int 5))) (.cons (.asg (.nm 6) (.call 1215 (.cons (.sl (.var 0) (.some (.bin .add (.int 42) (.bin .mul (.int 6) (.var 5)))) .none) (.cons (.var 2) (.cons (.var 3) .nil))))) (.cons (.ife (.cmp .eq (.ex (.bin .mod (.ix (.var 0) (.bin .add (.int 47) (.bin .mul (.int 6) (.var 5)))) (.int 7))) (.ex (.int 0))) (.cons (.asg (.nm 7) (.call 1215 (.cons (.sl (.var 0) (.some (.bin .add (.int 43) (.bin .mul (.int 6) (.var 5)))) .none) (.cons (.rev (.var 2)) (.cons (.bin .add (.var 3) (.int 1)) .nil))))) (.cons (.asg (.nm 6) (.ix (.lst (.cons (.var 7) (.cons (.bin .add (.bin .add (.sl (.var 6) .none (.some (.int 3))) (.tup (.cons (.ix (.var 7) (.int 3)) .nil))) (.sl (.var 6) (.some (.int 4)) .none)) (.cons (.bin .add (.sl (.var 6) .none (.some (.int 5))) (.tup (.cons (.bin .mod (.ix (.var 0) (.bin .add (.int 46) (.bin .mul (.int 6) (.var 5)))) (.int 6)) .nil))) .nil)))) (.bin .mod (.ix (.var 0) (.bin .add (.int 46) (.bin .mul (.int 6) (.var 5)))) (.int 3)))) .nil)) .nil) (.cons (.app 4 (.var 6)) .nil)))) (.frz 4 (.cons (.ret (.var 4)) .nil)))))
-- _law_is_int 3
def l_is_int : Ss := (.cons (.ret (.and (.isa (.ex (.var 0)) .int) (.and (.not (.isa (.ex (.var 0)) .bool)) (.ch .le .le (.ex (.var 1)) (.ex (.var 0)) (.ex (.var 2)))))) .nil)
-- format_row 1
def format_row : Ss := (.cons (.ret (.mt .join (.str " ") (.cons (.bin .add (.bin .add (.lst (.cons (.ix (.var 0) (.int 0)) .nil)) (.ti .list (.cons (.sl (.var 0) (.some (.int 1)) (.some (.neg (.int 1)))) .nil))) (.lst (.cons (.call 59 (.cons (.ix (.var 0) (.neg (.int 1))) .nil)) .nil))) .nil))) .nil)
-- format_number 1
def format_number : Ss := (.cons (.ret (.ife (.cmp .is (.ex (.var 0)) (.ex .non)) (.gl 20) (.ti .str (.cons (.var 0) .nil)))) .nil)
-- parse_row 2
def parse_row : Ss := (.cons (.asg (.nm 1) (.mt .split (.var 0) (.cons (.str " ") .nil))) (.cons (.ret (.ti .tuple (.cons (.bin .add (.sl (.var 1) .none (.some (.neg (.int 1)))) (.lst (.cons (.call 60 (.cons (.ix (.var 1) (.neg (.int 1))) .nil)) .nil))) .nil))) .nil))
-- parse_number 2
def parse_number : Ss := (.cons (.ife (.cmp .eq (.ex (.var 0)) (.ex (.gl 20))) (.cons (.ret .non) .nil) .nil) (.cons (.ife (.or (.cmp .eq (.ex (.var 0)) (.ex (.str ""))) (.or (.cmp .gt (.ex (.len (.ex (.var 0)))) (.ex (.gl 12))) (.not (.bi .alll (.cons (.lc (.nm 1) [1] (.val (.var 0)) .none (.cmp .inn (.ex (.var 1)) (.ex (.gl 1)))) .nil))))) (.cons (.ret (.var 0)) .nil) .nil) (.cons (.ret (.ti .int (.cons (.var 0) .nil))) .nil)))
-- parse_capture 8
def parse_capture : Ss := (.cons (.asg (.nm 1) (.ife (.isa (.ex (.var 0)) .str) (.mt .split (.var 0) (.cons (.str " ") .nil)) (.lst .nil))) (.cons (.ife (.cmp .lt (.ex (.len (.ex (.var 1)))) (.ex (.int 6))) (.cons (.rai "InvalidText" "line" .non) .nil) .nil) (.cons (.asg (.nm 2) (.call 68 (.cons (.mt .join (.str " ") (.cons (.sl (.var 1) (.some (.int 5)) .none) .nil)) .nil))) (.cons (.asg (.tp [3, 4, 5]) (.lc (.nm 6) [6] (.val (.sl (.var 1) (.some (.int 2)) (.some (.int 5)))) .none (.call 69 (.cons (.var 6) .nil)))) (.cons (.asg (.nm 7) (.tup (.cons (.ix (.var 1) (.int 0)) (.cons (.ix (.var 1) (.int 1)) (.cons (.var 3) (.cons (.var 2) (.cons (.var 4) (.cons (.var 5) .nil)))))))) (.cons (.ife (.or (.not (.call 22 (.cons (.var 7) .nil))) (.cmp .ne (.ex (.call 65 (.cons (.var 7) .nil))) (.ex (.var 0)))) (.cons (.rai "InvalidText" "line" .non) .nil) .nil) (.cons (.ret (.var 7)) .nil)))))))
-- is_change 1
def is_change : Ss := (.cons (.ret (.and (.isa (.ex (.var 0)) .tuple) (.and (.cmp .eq (.ex (.len (.ex (.var 0)))) (.ex (.int 2))) (.and (.call 2 (.cons (.ix (.var 0) (.int 0)) .nil)) (.call 53 (.cons (.ix (.var 0) (.int 1)) .nil)))))) .nil)
-- require_history 1
def require_history : Ss := (.cons (.ife (.not (.call 72 (.cons (.var 0) .nil))) (.cons (.rai "InvalidHistory" "value" (.var 0)) .nil) .nil) .nil)
-- count_until 3
def count_until : Ss := (.cons (.ret (.len (.ex (.lc (.nm 2) [2] (.val (.ix (.var 0) (.int 1))) (.some (.ch .lt .le (.ex (.int 0)) (.ex (.ix (.var 2) (.int 0))) (.ex (.var 1)))) (.var 2))))) .nil)
-- content_at 2
def content_at : Ss := (.cons (.exp (.call 73 (.cons (.var 0) .nil))) (.cons (.ife (.not (.call 2 (.cons (.var 1) .nil))) (.cons (.rai "InvalidMoment" "value" (.var 1)) .nil) .nil) (.cons (.ret (.ix (.ix (.ix (.var 0) (.int 1)) (.call 74 (.cons (.var 0) (.cons (.var 1) .nil)))) (.int 1))) .nil)))
-- _law_history 4
def l_history : Ss := (.cons (.own 2 (.cons (.tup (.cons (.int 0) (.cons (.ix (.var 0) (.int 0)) .nil))) .nil)) (.cons (.for (.nm 3) (.r2 (.int 1) (.len (.ex (.var 0)))) (.cons (.ife (.cmp .ne (.ex (.ix (.var 0) (.var 3))) (.ex (.ix (.var 0) (.bin .sub (.var 3) (.int 1))))) (.cons (.app 2 (.tup (.cons (.var 3) (.cons (.ix (.var 0) (.var 3)) .nil)))) .nil) .nil) .nil)) (.frz 2 (.cons (.ret (.tup (.cons (.var 1) (.cons (.var 2) .nil)))) .nil))))
-- agrees_with 9
def agrees_with : Ss := (.cons (.asg (.tp [2, 3, 4, 5, 6, 7]) (.var 1)) (.cons (.ife (.cmp .ne (.ex (.call 75 (.cons (.var 0) (.cons (.var 4) .nil)))) (.ex (.var 5))) (.cons (.ret (.bl false)) .nil) .nil) (.cons (.asg (.nm 8) (.call 74 (.cons (.var 0) (.cons (.var 4) .nil)))) (.cons (.ife (.and (.cmp .isn (.ex (.var 6)) (.ex .non)) (.cmp .ne (.ex (.call 74 (.cons (.var 0) (.cons (.var 6) .nil)))) (.ex (.var 8)))) (.cons (.ret (.bl false)) .nil) .nil) (.cons (.ret (.or (.cmp .is (.ex (.var 7)) (.ex .non)) (.cmp .eq (.ex (.bin .add (.ix (.var 0) (.int 0)) (.var 8))) (.ex (.var 7))))) .nil)))))
-- agrees 3
def agrees : Ss := (.cons (.exp (.call 73 (.cons (.var 0) .nil))) (.cons (.exp (.call 23 (.cons (.var 1) .nil))) (.cons (.ret (.bi .alll (.cons (.lc (.nm 2) [2] (.val (.var 1)) .none (.call 76 (.cons (.var 0) (.cons (.var 2) .nil)))) .nil))) .nil)))
-- stretch_of 1
def stretch_of : Ss := (.cons (.ret (.tup (.cons (.ife (.cmp .is (.ex (.ix (.var 0) (.int 4))) (.ex .non)) (.ix (.var 0) (.int 2)) (.ix (.var 0) (.int 4))) (.cons (.ix (.var 0) (.int 2)) .nil)))) .nil)
-- solve 3
def solve : Ss := (.cons (.asg (.nm 1) (.call 15 (.cons (.var 0) .nil))) (.cons (.asg (.nm 2) (.ife (.cmp .is (.ex (.var 1)) (.ex .non)) .non (.call 20 (.cons (.var 1) .nil)))) (.cons (.ret (.ife (.cmp .is (.ex (.var 2)) (.ex .non)) .non (.tup (.cons (.var 1) (.cons (.var 2) .nil))))) .nil)))
-- fresh_contents 4
def fresh_contents : Ss := (.cons (.asg (.nm 1) (.call 79 (.cons (.var 0) .nil))) (.cons (.own 2 .nil) (.cons (.for (.nm 3) (.r1 (.bin .add (.len (.ex (.var 1))) (.int 2))) (.cons (.ife (.cmp .nin (.ex (.tup (.cons (.str "data") (.cons (.ti .str (.cons (.var 3) .nil)) .nil)))) (.ex (.var 1))) (.cons (.app 2 (.tup (.cons (.str "data") (.cons (.ti .str (.cons (.var 3) .nil)) .nil)))) .nil) .nil) .nil)) (.frz 2 (.cons (.ret (.sl (.var 2) .none (.some (.int 2)))) .nil)))))
-- is_consistent 1
def is_consistent : Ss := (.cons (.exp (.call 23 (.cons (.var 0) .nil))) (.cons (.ret (.cmp .isn (.ex (.call 21 (.cons (.var 0) .nil))) (.ex .non))) .nil))
-- require_consistent 1
def require_consistent : Ss := (.cons (.ife (.cmp .is (.ex (.call 21 (.cons (.var 0) .nil))) (.ex .non)) (.cons (.rai "Contradiction" "address" (.ix (.ix (.var 0) (.int 0)) (.int 1))) .nil) .nil) .nil)
-- find_history 3
def find_history : Ss := (.cons (.exp (.call 23 (.cons (.var 0) .nil))) (.cons (.exp (.call 83 (.cons (.var 0) .nil))) (.cons (.asg (.tp [1, 2]) (.call 21 (.cons (.var 0) .nil))) (.cons (.ret (.tup (.cons (.call 86 (.cons (.var 1) (.cons (.var 2) .nil))) (.cons (.call 85 (.cons (.var 0) (.cons (.var 1) (.cons (.var 2) .nil)))) .nil)))) .nil))))
-- _law_agrees 10
def l_agrees : Ss := (.cons (.own 2 .nil) (.cons (.for (.tp [3, 4, 5, 6, 7, 8]) (.val (.var 1)) (.cons (.ife (.cmp .ne (.ex (.ix (.var 0) (.var 5))) (.ex (.var 6))) (.cons (.ret (.bl false)) .nil) .nil) (.cons (.ife (.and (.cmp .isn (.ex (.var 7)) (.ex .non)) (.cmp .ne (.ex (.lc (.nm 9) [9] (.val (.sl (.var 0) (.some (.var 7)) (.some (.var 5)))) (.some (.cmp .ne (.ex (.var 9)) (.ex (.var 6)))) (.var 9))) (.ex (.lst .nil)))) (.cons (.ret (.bl false)) .nil) .nil) (.cons (.ife (.cmp .isn (.ex (.var 8)) (.ex .non)) (.cons (.app 2 (.bin .sub (.var 8) (.call 1051 (.cons (.var 0) (.cons (.var 5) .nil))))) .nil) .nil) .nil)))) (.frz 2 (.cons (.ret (.or (.cmp .eq (.ex (.var 2)) (.ex (.lst .nil))) (.and (.cmp .eq (.ex (.bi .min1 (.cons (.var 2) .nil))) (.ex (.bi .max1 (.cons (.var 2) .nil)))) (.cmp .ge (.ex (.bi .min1 (.cons (.var 2) .nil))) (.ex (.int 0)))))) .nil))))
-- _law_histories 11
def l_histories : Ss := (.cons (.own 2 (.cons (.tup (.cons (.str "data") (.cons (.str "f") .nil))) (.cons (.tup (.cons (.str "data") (.cons (.str "g") .nil))) .nil))) (.cons (.for (.nm 3) (.val (.var 0)) (.cons (.ife (.cmp .nin (.ex (.ix (.var 3) (.int 3))) (.ov 2)) (.cons (.app 2 (.ix (.var 3) (.int 3))) .nil) .nil) .nil)) (.cons (.asg (.nm 4) (.lst (.cons (.lst .nil) .nil))) (.cons (.for (.nm 5) (.r1 (.bin .add (.var 1) (.int 1))) (.cons (.ownLc 6 (.nm 3) [3] (.val (.var 0)) (.some (.cmp .eq (.ex (.ix (.var 3) (.int 2))) (.ex (.var 5)))) (.ix (.var 3) (.int 3))) (.frz 6 (.frz 2 (.cons (.asg (.nm 7) (.ife (.cmp .eq (.ex (.var 6)) (.ex (.lst .nil))) (.var 2) (.sl (.var 6) .none (.some (.int 1))))) (.cons (.asg (.nm 8) (.lst .nil)) (.cons (.for (.nm 9) (.val (.var 4)) (.cons (.asg (.nm 8) (.bin .add (.var 8) (.lc (.nm 10) [10] (.val (.var 7)) .none (.bin .add (.var 9) (.lst (.cons (.var 10) .nil)))))) .nil)) (.cons (.asg (.nm 4) (.var 8)) .nil)))))))) (.cons (.ret (.lc (.nm 9) [9] (.val (.var 4)) (.some (.call 1005 (.cons (.var 9) (.cons (.var 0) .nil)))) (.var 9))) .nil)))))
-- assumption 2
def assumption : Ss := (.cons (.ret (.tup (.cons (.str "assumed") (.cons (.str "assumed") (.cons (.var 1) (.cons (.var 0) (.cons .non (.cons .non .nil)))))))) .nil)
-- require_moment 1
def require_moment : Ss := (.cons (.ife (.not (.call 2 (.cons (.var 0) .nil))) (.cons (.rai "InvalidMoment" "value" (.var 0)) .nil) .nil) .nil)
-- find_history_with 7
def find_history_with : Ss := (.cons (.exp (.call 23 (.cons (.var 0) .nil))) (.cons (.exp (.call 54 (.cons (.var 1) .nil))) (.cons (.exp (.call 82 (.cons (.var 2) .nil))) (.cons (.exp (.call 83 (.cons (.var 0) .nil))) (.cons (.asg (.nm 3) (.bin .add (.ti .list (.cons (.var 0) .nil)) (.lst (.cons (.call 78 (.cons (.var 1) (.cons (.var 2) .nil))) .nil)))) (.cons (.asg (.nm 4) (.call 21 (.cons (.var 3) .nil))) (.cons (.ife (.cmp .is (.ex (.var 4)) (.ex .non)) (.cons (.ret .non) .nil) .nil) (.cons (.asg (.tp [5, 6]) (.var 4)) (.cons (.ret (.tup (.cons (.call 86 (.cons (.var 5) (.cons (.var 6) .nil))) (.cons (.call 85 (.cons (.var 3) (.cons (.var 5) (.cons (.var 6) .nil)))) .nil)))) .nil)))))))))
-- _law_menu 4
def l_menu : Ss := (.cons (.asg (.nm 1) (.lst (.cons (.tup (.cons (.str "data") (.cons (.str "x") .nil))) (.cons (.tup (.cons (.str "data") (.cons (.str "y") .nil))) (.cons (.tup (.cons (.str "missing") .nil)) (.cons (.tup (.cons (.str "page") (.cons (.tup (.cons (.tup (.cons (.str "text") (.cons (.str "x") .nil))) .nil)) .nil))) .nil)))))) (.cons (.ret (.lc (.nm 2) [2] (.val (.var 1)) (.some (.cmp .inn (.ex (.var 2)) (.ex (.lc (.nm 3) [3] (.val (.var 0)) .none (.ix (.var 3) (.int 3)))))) (.var 2))) .nil))
-- is_possible 3
def is_possible : Ss := (.cons (.ret (.cmp .isn (.ex (.call 21 (.cons (.bin .add (.ti .list (.cons (.var 0) .nil)) (.lst (.cons (.call 78 (.cons (.var 1) (.cons (.var 2) .nil))) .nil))) .nil))) (.ex .non))) .nil)
-- state_of 5
def state_of : Ss := (.cons (.ife (.not (.call 84 (.cons (.var 0) (.cons (.var 1) (.cons (.var 2) .nil))))) (.cons (.ret (.gl 23)) .nil) .nil) (.cons (.asg (.nm 3) (.bin .add (.sl (.call 80 (.cons (.bin .add (.ti .list (.cons (.var 0) .nil)) (.lst (.cons (.call 78 (.cons (.var 1) (.cons (.var 2) .nil))) .nil))) .nil)) .none (.some (.int 1))) (.call 79 (.cons (.var 0) .nil)))) (.cons (.ife (.bi .anyy (.cons (.lc (.nm 4) [4] (.val (.var 3)) .none (.and (.cmp .ne (.ex (.var 4)) (.ex (.var 1))) (.call 84 (.cons (.var 0) (.cons (.var 4) (.cons (.var 2) .nil)))))) .nil)) (.cons (.ret (.gl 22)) .nil) .nil) (.cons (.ret (.gl 21)) .nil))))
-- state 3
def state : Ss := (.cons (.exp (.call 23 (.cons (.var 0) .nil))) (.cons (.exp (.call 54 (.cons (.var 1) .nil))) (.cons (.exp (.call 82 (.cons (.var 2) .nil))) (.cons (.exp (.call 83 (.cons (.var 0) .nil))) (.cons (.ret (.call 89 (.cons (.var 0) (.cons (.var 1) (.cons (.var 2) .nil))))) .nil)))))
-- possible_contents 4
def possible_contents : Ss := (.cons (.exp (.call 23 (.cons (.var 0) .nil))) (.cons (.exp (.call 82 (.cons (.var 1) .nil))) (.cons (.exp (.call 83 (.cons (.var 0) .nil))) (.cons (.ownLc 2 (.nm 3) [3] (.val (.call 79 (.cons (.var 0) .nil))) (.some (.call 84 (.cons (.var 0) (.cons (.var 3) (.cons (.var 1) .nil))))) (.var 3)) (.frz 2 (.cons (.ret (.tup (.cons (.var 2) (.cons (.call 84 (.cons (.var 0) (.cons (.ix (.call 80 (.cons (.var 0) .nil)) (.int 0)) (.cons (.var 1) .nil)))) .nil)))) .nil))))))
-- _law_fits 5
def l_fits : Ss := (.cons (.for (.nm 4) (.val (.var 0)) (.cons (.ife (.and (.cmp .eq (.ex (.ix (.var 4) (.int 2))) (.ex (.var 1))) (.cmp .ne (.ex (.ix (.var 4) (.int 3))) (.ex (.var 2)))) (.cons (.ret (.bl false)) .nil) .nil) (.cons (.ife (.and (.cmp .eq (.ex (.ix (.var 4) (.int 2))) (.ex (.var 1))) (.and (.cmp .isn (.ex (.ix (.var 4) (.int 5))) (.ex .non)) (.cmp .ne (.ex (.ix (.var 4) (.int 5))) (.ex (.var 3))))) (.cons (.ret (.bl false)) .nil) .nil) .nil))) (.cons (.ret (.bl true)) .nil))
-- _law_fixed 3
def l_fixed : Ss := (.cons (.for (.nm 2) (.val (.var 0)) (.cons (.ife (.and (.cmp .isn (.ex (.ix (.var 2) (.int 4))) (.ex .non)) (.ch .lt .le (.ex (.ix (.var 2) (.int 4))) (.ex (.var 1)) (.ex (.ix (.var 2) (.int 2))))) (.cons (.ret (.bl true)) .nil) .nil) .nil)) (.cons (.ret (.bl false)) .nil))
-- _law_moves 3
def l_moves : Ss := (.cons (.ret (.cmp .ne (.ex (.lc (.nm 2) [2] (.val (.var 1)) (.some (.and (.cmp .ne (.ex (.ix (.var 2) (.int 0))) (.ex (.ix (.var 0) (.int 0)))) (.cmp .eq (.ex (.ix (.var 2) (.int 1))) (.ex (.bin .add (.ix (.var 0) (.int 1)) (.int 1)))))) (.var 2))) (.ex (.lst .nil)))) .nil)
-- stretches 3
def stretches : Ss := (.cons (.exp (.call 23 (.cons (.var 0) .nil))) (.cons (.exp (.call 54 (.cons (.var 1) .nil))) (.cons (.exp (.call 83 (.cons (.var 0) .nil))) (.cons (.ret (.call 92 (.cons (.lc (.nm 2) [2] (.r1 (.bin .add (.gl 3) (.int 1))) .none (.call 89 (.cons (.var 0) (.cons (.var 1) (.cons (.var 2) .nil))))) .nil))) .nil))))
-- may_have 5
def may_have : Ss := (.cons (.ret (.cmp .isn (.ex (.call 21 (.cons (.bin .add (.ti .list (.cons (.var 0) .nil)) (.lst (.cons (.call 78 (.cons (.var 2) (.cons (.var 1) .nil))) (.cons (.call 78 (.cons (.var 4) (.cons (.var 3) .nil))) .nil)))) .nil))) (.ex .non))) .nil)
-- overlaps 6
def overlaps : Ss := (.cons (.asg (.tp [2, 3]) (.call 13 (.cons (.var 0) .nil))) (.cons (.asg (.tp [4, 5]) (.call 13 (.cons (.var 1) .nil))) (.cons (.ret (.and (.cmp .ne (.ex (.ix (.var 0) (.int 3))) (.ex (.ix (.var 1) (.int 3)))) (.and (.cmp .le (.ex (.var 2)) (.ex (.var 5))) (.cmp .le (.ex (.var 4)) (.ex (.var 3)))))) .nil)))
-- overlap_in 3
def overlap_in : Ss := (.cons (.for (.nm 1) (.r1 (.len (.ex (.var 0)))) (.cons (.for (.nm 2) (.r1 (.var 1)) (.cons (.ife (.call 105 (.cons (.ix (.var 0) (.var 2)) (.cons (.ix (.var 0) (.var 1)) .nil))) (.cons (.ret (.tup (.cons (.gl 28) (.cons (.var 2) (.cons (.var 1) .nil))))) .nil) .nil) .nil)) .nil)) (.cons (.ret .non) .nil))
-- allowed 4
def allowed : Ss := (.cons (.ret (.lc (.nm 2) [2] (.val (.var 1)) (.some (.bi .alll (.cons (.lc (.nm 3) [3] (.val (.var 0)) .none (.cmp .eq (.ex (.var 3)) (.ex (.var 2)))) .nil))) (.var 2))) .nil)
-- first_entry 1
def first_entry : Ss := (.cons (.ret (.ife (.cmp .eq (.ex (.var 0)) (.ex (.lst .nil))) (.int 0) (.call 107 (.cons (.var 0) (.cons (.sl (.var 0) .none (.some (.int 1))) .nil))))) .nil)
-- next_entry 5
def next_entry : Ss := (.cons (.ife (.isa (.ex (.var 0)) .list) (.cons (.ret (.call 107 (.cons (.var 2) (.cons (.call 17 (.cons (.var 0) (.cons (.var 1) .nil))) .nil)))) .nil) .nil) (.cons (.asg (.nm 3) (.bin .add (.var 0) (.bi .min1 (.cons (.var 1) .nil)))) (.cons (.ret (.ife (.cmp .eq (.ex (.var 2)) (.ex (.lst .nil))) (.var 3) (.call 107 (.cons (.var 2) (.cons (.lc (.nm 4) [4] (.val (.sl (.var 2) .none (.some (.int 1)))) (.some (.cmp .ge (.ex (.var 4)) (.ex (.var 3)))) (.var 4)) .nil))))) .nil)))
-- is_table 5
def is_table : Ss := (.cons (.ife (.or (.not (.isa (.ex (.var 1)) .list)) (.or (.not (.ch .le .le (.ex (.int 1)) (.ex (.len (.ex (.var 1)))) (.ex (.len (.ex (.var 0)))))) (.not (.bi .alll (.cons (.lc (.nm 2) [2] (.val (.var 1)) .none (.call 111 (.cons (.var 2) .nil))) .nil))))) (.cons (.ret (.bl false)) .nil) .nil) (.cons (.asg (.nm 3) (.call 18 (.cons (.var 0) .nil))) (.cons (.ife (.not (.call 112 (.cons (.ix (.var 1) (.int 0)) (.cons (.call 108 (.cons (.ix (.ix (.var 0) (.int 0)) (.int 3)) .nil)) .nil)))) (.cons (.ret (.bl false)) .nil) .nil) (.cons (.for (.nm 4) (.r2 (.int 1) (.len (.ex (.var 1)))) (.cons (.ife (.not (.call 112 (.cons (.ix (.var 1) (.var 4)) (.cons (.call 109 (.cons (.ix (.var 1) (.bin .sub (.var 4) (.int 1))) (.cons (.ix (.var 3) (.var 4)) (.cons (.ix (.ix (.var 0) (.var 4)) (.int 3)) .nil)))) .nil)))) (.cons (.ret (.bl false)) .nil) .nil) .nil)) (.cons (.ret (.cmp .eq (.ex (.ix (.var 1) (.neg (.int 1)))) (.ex (.lst .nil)))) .nil)))))
-- assume 4
def assume : Ss := (.cons (.asg (.nm 3) (.ife (.cmp .eq (.ex (.len (.ex (.var 0)))) (.ex (.int 0))) (.gl 30) (.ix (.ix (.var 0) (.int 0)) (.int 1)))) (.cons (.ret (.bin .add (.ti .list (.cons (.var 0) .nil)) (.lst (.cons (.tup (.cons (.gl 30) (.cons (.var 3) (.cons (.var 2) (.cons (.var 1) (.cons .non (.cons .non .nil))))))) .nil)))) .nil))
-- require_question 3
def require_question : Ss := (.cons (.exp (.call 23 (.cons (.var 0) .nil))) (.cons (.exp (.call 54 (.cons (.var 1) .nil))) (.cons (.exp (.call 82 (.cons (.var 2) .nil))) (.cons (.exp (.call 83 (.cons (.var 0) .nil))) .nil))))
-- rivals 4
def rivals : Ss := (.cons (.asg (.nm 2) (.sl (.lc (.nm 3) [3] (.val (.call 80 (.cons (.var 0) .nil))) (.some (.cmp .ne (.ex (.var 3)) (.ex (.var 1)))) (.var 3)) .none (.some (.int 1)))) (.cons (.ret (.bin .add (.lc (.nm 3) [3] (.val (.call 79 (.cons (.var 0) .nil))) (.some (.cmp .ne (.ex (.var 3)) (.ex (.var 1)))) (.var 3)) (.var 2))) .nil))
-- explain_state 9
def explain_state : Ss := (.cons (.exp (.call 116 (.cons (.var 0) (.cons (.var 1) (.cons (.var 2) .nil))))) (.cons (.asg (.nm 3) (.call 89 (.cons (.var 0) (.cons (.var 1) (.cons (.var 2) .nil))))) (.cons (.ife (.cmp .eq (.ex (.var 3)) (.ex (.gl 23))) (.cons (.asg (.nm 4) (.call 87 (.cons (.var 0) .nil))) (.cons (.ret (.tup (.cons (.var 3) (.cons (.var 4) (.cons (.call 87 (.cons (.var 0) .nil)) (.cons (.lst (.cons (.tup (.cons (.var 1) (.cons (.call 110 (.cons (.call 115 (.cons (.var 0) (.cons (.var 1) (.cons (.var 2) .nil)))) .nil)) .nil))) .nil)) .nil)))))) .nil)) .nil) (.cons (.asg (.nm 5) (.call 88 (.cons (.var 0) (.cons (.var 1) (.cons (.var 2) .nil))))) (.cons (.asg (.nm 6) (.call 117 (.cons (.var 0) (.cons (.var 1) .nil)))) (.cons (.ife (.cmp .eq (.ex (.var 3)) (.ex (.gl 21))) (.cons (.ret (.tup (.cons (.var 3) (.cons (.var 5) (.cons .non (.cons (.lc (.nm 7) [7] (.val (.var 6)) .none (.tup (.cons (.var 7) (.cons (.call 110 (.cons (.call 115 (.cons (.var 0) (.cons (.var 7) (.cons (.var 2) .nil)))) .nil)) .nil)))) .nil)))))) .nil) .nil) (.cons (.asg (.nm 8) (.ix (.lc (.nm 7) [7] (.val (.var 6)) (.some (.call 84 (.cons (.var 0) (.cons (.var 7) (.cons (.var 2) .nil))))) (.var 7)) (.int 0))) (.cons (.ret (.tup (.cons (.var 3) (.cons (.var 5) (.cons (.call 88 (.cons (.var 0) (.cons (.var 8) (.cons (.var 2) .nil)))) (.cons (.lst .nil) .nil)))))) .nil))))))))
-- is_agreeing 2
def is_agreeing : Ss := (.cons (.ret (.and (.call 72 (.cons (.var 1) .nil)) (.call 77 (.cons (.var 1) (.cons (.var 0) .nil))))) .nil)
-- is_refuted 3
def is_refuted : Ss := (.cons (.ife (.or (.not (.isa (.ex (.var 2)) .tuple)) (.or (.cmp .ne (.ex (.len (.ex (.var 2)))) (.ex (.int 2))) (.not (.call 53 (.cons (.ix (.var 2) (.int 0)) .nil))))) (.cons (.ret (.bl false)) .nil) .nil) (.cons (.ret (.call 114 (.cons (.call 115 (.cons (.var 0) (.cons (.ix (.var 2) (.int 0)) (.cons (.var 1) .nil)))) (.cons (.ix (.var 2) (.int 1)) .nil)))) .nil))
-- check_sure 7
def check_sure : Ss := (.cons (.asg (.tp [3, 4]) (.var 2)) (.cons (.asg (.nm 5) (.call 79 (.cons (.var 0) .nil))) (.cons (.ife (.or (.cmp .isn (.ex (.var 3)) (.ex .non)) (.not (.bi .alll (.cons (.lc (.nm 6) [6] (.val (.var 5)) (.some (.cmp .ne (.ex (.var 6)) (.ex (.var 1)))) (.cmp .inn (.ex (.var 6)) (.ex (.var 4)))) .nil)))) (.cons (.ret (.bl false)) .nil) .nil) (.cons (.ret (.bi .anyy (.cons (.lc (.nm 6) [6] (.val (.var 4)) .none (.and (.cmp .ne (.ex (.var 6)) (.ex (.var 1))) (.cmp .nin (.ex (.var 6)) (.ex (.var 5))))) .nil))) .nil))))
-- check_state 10
def check_state : Ss := (.cons (.exp (.call 116 (.cons (.var 0) (.cons (.var 1) (.cons (.var 2) .nil))))) (.cons (.ife (.or (.not (.isa (.ex (.var 3)) .tuple)) (.or (.cmp .ne (.ex (.len (.ex (.var 3)))) (.ex (.int 4))) (.cmp .nin (.ex (.ix (.var 3) (.int 0))) (.ex (.tup (.cons (.gl 21) (.cons (.gl 22) (.cons (.gl 23) .nil)))))))) (.cons (.ret (.bl false)) .nil) .nil) (.cons (.asg (.tp [4, 5, 6, 7]) (.var 3)) (.cons (.ife (.or (.not (.call 119 (.cons (.var 0) (.cons (.var 5) .nil)))) (.not (.isa (.ex (.var 7)) .list))) (.cons (.ret (.bl false)) .nil) .nil) (.cons (.ife (.not (.bi .alll (.cons (.lc (.nm 8) [8] (.val (.var 7)) .none (.call 120 (.cons (.var 0) (.cons (.var 2) (.cons (.var 8) .nil))))) .nil))) (.cons (.ret (.bl false)) .nil) .nil) (.cons (.ife (.and (.cmp .ne (.ex (.var 4)) (.ex (.gl 23))) (.cmp .ne (.ex (.call 75 (.cons (.var 5) (.cons (.var 2) .nil)))) (.ex (.var 1)))) (.cons (.ret (.bl false)) .nil) .nil) (.cons (.ownLc 9 (.nm 8) [8] (.val (.var 7)) .none (.ix (.var 8) (.int 0))) (.frz 9 (.cons (.ife (.cmp .eq (.ex (.var 4)) (.ex (.gl 21))) (.cons (.ret (.call 121 (.cons (.var 0) (.cons (.var 1) (.cons (.tup (.cons (.var 6) (.cons (.var 9) .nil))) .nil))))) .nil) .nil) (.cons (.ife (.or (.not (.call 119 (.cons (.var 0) (.cons (.var 6) .nil)))) (.cmp .eq (.ex (.call 75 (.cons (.var 6) (.cons (.var 2) .nil)))) (.ex (.var 1)))) (.cons (.ret (.bl false)) .nil) .nil) (.cons (.ret (.or (.cmp .eq (.ex (.var 4)) (.ex (.gl 22))) (.cmp .inn (.ex (.var 1)) (.ex (.var 9))))) .nil)))))))))))
-- _law_stretch 1
def l_stretch : Ss := (.cons (.ret (.tup (.cons (.ife (.cmp .is (.ex (.ix (.var 0) (.int 4))) (.ex .non)) (.ix (.var 0) (.int 2)) (.ix (.var 0) (.int 4))) (.cons (.ix (.var 0) (.int 2)) .nil)))) .nil)
-- _law_in 2
def l_in : Ss := (.cons (.ret (.ife (.isa (.ex (.var 0)) .list) (.cmp .inn (.ex (.var 1)) (.ex (.var 0))) (.cmp .ge (.ex (.var 1)) (.ex (.var 0))))) .nil)
-- _law_is_refutation 8
def l_is_refutation : Ss := (.cons (.ife (.or (.not (.isa (.ex (.var 1)) .tuple)) (.cmp .nin (.ex (.len (.ex (.var 1)))) (.ex (.lst (.cons (.int 2) (.cons (.int 3) .nil)))))) (.cons (.ret (.bl false)) .nil) .nil) (.cons (.ife (.cmp .eq (.ex (.len (.ex (.var 1)))) (.ex (.int 2))) (.cons (.for (.nm 2) (.val (.call 1017 (.cons (.var 0) .nil))) (.cons (.ife (.cmp .ne (.ex (.lc (.nm 3) [3] (.val (.ix (.var 2) (.int 2))) (.some (.cmp .ne (.ex (.ix (.var 3) (.int 3))) (.ex (.ix (.ix (.ix (.var 2) (.int 2)) (.int 0)) (.int 3))))) (.var 3))) (.ex (.lst .nil))) (.cons (.ret (.bl false)) .nil) .nil) .nil)) (.cons (.ret (.and (.cmp .eq (.ex (.ix (.var 1) (.int 0))) (.ex (.str "versions"))) (.call 1105 (.cons (.var 0) (.cons (.ix (.var 1) (.int 1)) .nil))))) .nil)) .nil) (.cons (.for (.nm 4) (.val (.sl (.var 1) (.some (.int 1)) .none)) (.cons (.ife (.or (.not (.isa (.ex (.var 4)) .int)) (.or (.isa (.ex (.var 4)) .bool) (.not (.ch .le .lt (.ex (.int 0)) (.ex (.var 4)) (.ex (.len (.ex (.var 0)))))))) (.cons (.ret (.bl false)) .nil) .nil) .nil)) (.cons (.par [3, 5] (.cons (.ix (.var 0) (.ix (.var 1) (.int 1))) (.cons (.ix (.var 0) (.ix (.var 1) (.int 2))) .nil))) (.cons (.par [6, 7] (.cons (.call 1207 (.cons (.var 3) .nil)) (.cons (.call 1207 (.cons (.var 5) .nil)) .nil))) (.cons (.ret (.and (.cmp .eq (.ex (.ix (.var 1) (.int 0))) (.ex (.str "overlap"))) (.and (.cmp .ne (.ex (.ix (.var 3) (.int 3))) (.ex (.ix (.var 5) (.int 3)))) (.and (.cmp .le (.ex (.ix (.var 6) (.int 0))) (.ex (.ix (.var 7) (.int 1)))) (.cmp .le (.ex (.ix (.var 7) (.int 0))) (.ex (.ix (.var 6) (.int 1)))))))) .nil))))))
-- _law_assume 4
def l_assume : Ss := (.cons (.asg (.nm 3) (.ife (.cmp .ne (.ex (.var 0)) (.ex (.lst .nil))) (.ix (.ix (.var 0) (.int 0)) (.int 1)) (.str "assumed"))) (.cons (.ret (.bin .add (.var 0) (.lst (.cons (.tup (.cons (.str "assumed") (.cons (.var 3) (.cons (.var 2) (.cons (.var 1) (.cons .non (.cons .non .nil))))))) .nil)))) .nil))
-- _wall 1
def _wall : Ss := (.cons (.whl 100000 (.bl true) (.cons .pass .nil)) .nil)
-- capture_key 1
def capture_key : Ss := (.cons (.ret (.tup (.cons (.ix (.var 0) (.int 1)) (.cons (.ix (.var 0) (.int 2)) (.cons (.call 65 (.cons (.var 0) .nil)) .nil))))) .nil)
-- _law_address 1
def l_address' : Ss := (.cons (.ret (.ix (.lst (.cons (.str "home") (.cons (.str "pic") (.cons (.str "old/x") (.cons (.str "api?c=1&t=5") .nil))))) (.var 0))) .nil)
-- _law_menu 5
def l_menu' : Ss := (.cons (.asg (.nm 1) (.tup (.cons (.tup (.cons (.str "get") (.cons (.str "t") (.cons (.str "api?t=7&c=1") .nil)))) (.cons (.tup (.cons (.str "put") (.cons (.str "{t} ok") .nil))) .nil)))) (.cons (.own 2 (.cons (.tup (.cons (.str "page") (.cons (.tup (.cons (.tup (.cons (.str "text") (.cons (.str "hi all") .nil))) (.cons (.tup (.cons (.str "embed") (.cons (.str "pic") .nil))) (.cons (.tup (.cons (.str "link") (.cons (.str "old/x") (.cons (.str "more") .nil)))) .nil)))) .nil))) (.cons (.tup (.cons (.str "missing") .nil)) .nil))) (.cons (.app 2 (.tup (.cons (.str "page") (.cons (.tup (.cons (.tup (.cons (.str "embed") (.cons (.str "old/x") .nil))) (.cons (.tup (.cons (.str "embed") (.cons (.str "pic") .nil))) (.cons (.tup (.cons (.str "text") (.cons (.str "x|y;^") .nil))) .nil)))) .nil)))) (.cons (.app 2 (.tup (.cons (.str "page") (.cons (.tup (.cons (.tup (.cons (.str "script") (.cons (.var 1) .nil))) (.cons (.tup (.cons (.str "text") (.cons (.str "end") .nil))) .nil))) .nil)))) (.cons (.asg (.nm 3) (.lst (.cons (.tup (.cons (.str "data") (.cons (.str "sun") .nil))) (.cons (.tup (.cons (.str "data") (.cons (.str "moon") .nil))) (.cons (.tup (.cons (.str "missing") .nil)) (.cons (.tup (.cons (.str "moved") (.cons (.str "old/x") .nil))) .nil)))))) (.cons (.asg (.nm 4) (.lst (.cons (.tup (.cons (.str "moved") (.cons (.str "pic") .nil))) (.cons (.tup (.cons (.str "page") (.cons (.tup (.cons (.tup (.cons (.str "text") (.cons (.str "old sun") .nil))) (.cons (.tup (.cons (.str "embed") (.cons (.str "home") .nil))) .nil))) .nil))) (.cons (.tup (.cons (.str "data") (.cons (.str "sun") .nil))) (.cons (.tup (.cons (.str "moved") (.cons (.str "home") .nil))) .nil)))))) (.frz 2 (.cons (.ret (.ix (.lst (.cons (.var 2) (.cons (.var 3) (.cons (.var 4) (.cons (.lst (.cons (.tup (.cons (.str "data") (.cons (.str "21") .nil))) (.cons (.tup (.cons (.str "data") (.cons (.str "") .nil))) (.cons (.tup (.cons (.str "page") (.cons (.tup .nil) .nil))) (.cons (.tup (.cons (.str "missing") .nil)) .nil))))) .nil))))) (.var 0))) .nil))))))))
-- _law_truth 6
def l_truth' : Ss := (.cons (.asg (.nm 3) (.bin .mod (.ix (.var 0) (.int 0)) (.int 4))) (.cons (.own 4 .nil) (.cons (.for (.nm 5) (.r1 (.bin .add (.var 2) (.int 1))) (.cons (.ife (.and (.cmp .gt (.ex (.var 5)) (.ex (.int 0))) (.cmp .eq (.ex (.bin .mod (.ix (.var 0) (.bin .add (.int 1) (.var 5))) (.int 3))) (.ex (.int 0)))) (.cons (.asg (.nm 3) (.bin .mod (.bin .add (.bin .add (.var 3) (.int 1)) (.bin .mod (.bin .fdiv (.ix (.var 0) (.bin .add (.int 1) (.var 5))) (.int 3)) (.int 3))) (.int 4))) .nil) .nil) (.cons (.app 4 (.ix (.var 1) (.var 3))) .nil))) (.frz 4 (.cons (.ret (.var 4)) .nil)))))
-- _law_true_capture 9
def l_true_capture' : Ss := (.cons (.asg (.nm 4) (.bin .mod (.ix (.var 0) (.int 0)) (.len (.ex (.var 2))))) (.cons (.ownLc 5 (.nm 6) [6] (.r1 (.bin .add (.var 4) (.int 1))) (.some (.cmp .eq (.ex (.call 1051 (.cons (.var 2) (.cons (.var 6) .nil)))) (.ex (.call 1051 (.cons (.var 2) (.cons (.var 4) .nil)))))) (.var 6)) (.frz 5 (.cons (.asg (.nm 7) (.ix (.lst (.cons .non (.cons (.ix (.var 5) (.bin .mod (.ix (.var 0) (.int 1)) (.len (.ex (.var 5))))) (.cons (.ix (.var 5) (.int 0)) .nil)))) (.bin .mod (.ix (.var 0) (.int 2)) (.int 3)))) (.cons (.asg (.nm 8) (.ix (.lst (.cons .non (.cons (.bin .add (.var 3) (.call 1051 (.cons (.var 2) (.cons (.var 4) .nil)))) .nil))) (.bin .mod (.ix (.var 0) (.int 3)) (.int 2)))) (.cons (.ret (.tup (.cons (.ix (.lst (.cons (.str "east") (.cons (.str "west") (.cons (.str "an") .nil)))) (.bin .mod (.ix (.var 0) (.int 4)) (.int 3))) (.cons (.var 1) (.cons (.var 4) (.cons (.ix (.var 2) (.var 4)) (.cons (.var 7) (.cons (.var 8) .nil)))))))) .nil))))))
-- _law_captures 9
def l_captures' : Ss := (.cons (.par [3, 4] (.cons (.call 1219 (.cons (.var 0) (.cons (.call 1126 (.cons (.var 1) .nil)) (.cons (.var 2) .nil)))) (.cons (.bin .mod (.ix (.var 0) (.int 31)) (.int 5)) .nil))) (.cons (.own 5 .nil) (.cons (.for (.nm 6) (.r1 (.bin .mod (.ix (.var 0) (.int 32)) (.int 4))) (.cons (.asg (.nm 7) (.call 1215 (.cons (.sl (.var 0) (.some (.bin .add (.int 33) (.bin .mul (.int 6) (.var 6)))) .none) (.cons (.call 1000 (.cons (.var 1) .nil)) (.cons (.var 3) (.cons (.var 4) .nil)))))) (.cons (.ife (.cmp .eq (.ex (.bin .mod (.ix (.var 0) (.bin .add (.int 38) (.bin .mul (.int 6) (.var 6)))) (.int 9))) (.ex (.int 0))) (.cons (.asg (.nm 8) (.ix (.call 1126 (.cons (.var 1) .nil)) (.bin .mod (.ix (.var 0) (.bin .add (.int 37) (.bin .mul (.int 6) (.var 6)))) (.int 4)))) (.cons (.asg (.nm 7) (.ix (.lst (.cons (.bin .add (.bin .add (.sl (.var 7) .none (.some (.int 3))) (.tup (.cons (.var 8) .nil))) (.sl (.var 7) (.some (.int 4)) .none)) (.cons (.bin .add (.sl (.var 7) .none (.some (.int 5))) (.tup (.cons (.bin .mod (.ix (.var 0) (.bin .add (.int 37) (.bin .mul (.int 6) (.var 6)))) (.int 6)) .nil))) .nil))) (.bin .mod (.ix (.var 0) (.bin .add (.int 36) (.bin .mul (.int 6) (.var 6)))) (.int 2)))) .nil)) .nil) (.cons (.app 5 (.var 7)) .nil)))) (.frz 5 (.cons (.ret (.var 5)) .nil)))))
-- _law_site 4
def l_site : Ss := (.cons (.asg (.nm 2) (.lst .nil)) (.cons (.for (.nm 3) (.r1 (.int 4)) (.cons (.asg (.nm 2) (.bin .add (.var 2) (.call 1031 (.cons (.sl (.var 0) (.some (.bin .mul (.int 60) (.var 3))) .none) (.cons (.var 3) (.cons (.var 1) .nil)))))) .nil)) (.cons (.ret (.var 2)) .nil)))
-- _law_part_text 2
def l_part_text : Ss := (.cons (.ife (.cmp .eq (.ex (.ix (.var 0) (.int 0))) (.ex (.str "script"))) (.cons (.ret (.mt .join (.str " ; ") (.cons (.bin .add (.lst (.cons (.str "script") .nil)) (.lc (.nm 1) [1] (.val (.ix (.var 0) (.int 1))) .none (.mt .join (.str " ") (.cons (.bin .add (.ti .list (.cons (.sl (.var 1) .none (.some (.neg (.int 1)))) .nil)) (.lst (.cons (.call 1057 (.cons (.ix (.var 1) (.neg (.int 1))) .nil)) .nil))) .nil)))) .nil))) .nil) .nil) (.cons (.ife (.cmp .eq (.ex (.ix (.var 0) (.int 0))) (.ex (.str "embed"))) (.cons (.ret (.bin .add (.str "embed ") (.ix (.var 0) (.int 1)))) .nil) .nil) (.cons (.ret (.mt .join (.str " ") (.cons (.bin .add (.ti .list (.cons (.sl (.var 0) .none (.some (.neg (.int 1)))) .nil)) (.lst (.cons (.call 1057 (.cons (.ix (.var 0) (.neg (.int 1))) .nil)) .nil))) .nil))) .nil)))
-- _law_content_text 2
def l_content_text : Ss := (.cons (.ife (.cmp .eq (.ex (.ix (.var 0) (.int 0))) (.ex (.str "page"))) (.cons (.ret (.mt .join (.str " | ") (.cons (.bin .add (.lst (.cons (.str "page") .nil)) (.lc (.nm 1) [1] (.val (.ix (.var 0) (.int 1))) .none (.call 1154 (.cons (.var 1) .nil)))) .nil))) .nil) .nil) (.cons (.ret (.ife (.cmp .eq (.ex (.ix (.var 0) (.int 0))) (.ex (.str "data"))) (.bin .add (.str "data ") (.call 1057 (.cons (.ix (.var 0) (.int 1)) .nil))) (.mt .join (.str " ") (.cons (.ti .list (.cons (.var 0) .nil)) .nil)))) .nil))
-- _law_capture_text 3
def l_capture_text : Ss := (.cons (.ownLc 1 (.nm 2) [2] (.val (.lst (.cons (.ix (.var 0) (.int 2)) (.cons (.ix (.var 0) (.int 4)) (.cons (.ix (.var 0) (.int 5)) .nil))))) .none (.ife (.cmp .is (.ex (.var 2)) (.ex .non)) (.str "-") (.ti .str (.cons (.var 2) .nil)))) (.frz 1 (.cons (.ret (.mt .join (.str " ") (.cons (.bin .add (.bin .add (.lst (.cons (.ix (.var 0) (.int 0)) (.cons (.ix (.var 0) (.int 1)) .nil))) (.var 1)) (.lst (.cons (.call 1045 (.cons (.ix (.var 0) (.int 3)) .nil)) .nil))) .nil))) .nil)))
-- _law_possible 3
def l_possible : Ss := (.cons (.ret (.call 1197 (.cons (.bin .add (.var 0) (.lst (.cons (.tup (.cons (.str "x") (.cons (.str "x") (.cons (.var 2) (.cons (.var 1) (.cons .non (.cons .non .nil))))))) .nil))) .nil))) .nil)
-- _law_known 3
def l_known : Ss := (.cons (.own 1 .nil) (.cons (.for (.nm 2) (.val (.var 0)) (.cons (.ife (.cmp .nin (.ex (.ix (.var 2) (.int 3))) (.ov 1)) (.cons (.app 1 (.ix (.var 2) (.int 3))) .nil) .nil) .nil)) (.frz 1 (.cons (.ret (.var 1)) .nil))))
-- _law_state 6
def l_state : Ss := (.cons (.ife (.not (.call 1163 (.cons (.var 0) (.cons (.var 1) (.cons (.var 2) .nil))))) (.cons (.ret (.str "excluded")) .nil) .nil) (.cons (.ownLc 3 (.nm 4) [4] (.val (.bin .add (.call 1110 (.cons (.var 0) .nil)) (.lst (.cons (.tup (.cons (.str "data") (.cons (.str "zz9") .nil))) .nil)))) (.some (.cmp .ne (.ex (.var 4)) (.ex (.var 1)))) (.var 4)) (.frz 3 (.cons (.ownLc 5 (.nm 4) [4] (.val (.var 3)) (.some (.call 1163 (.cons (.var 0) (.cons (.var 4) (.cons (.var 2) .nil))))) (.var 4)) (.frz 5 (.cons (.ret (.ife (.cmp .ne (.ex (.var 5)) (.ex (.lst .nil))) (.str "possible") (.str "sure"))) .nil))))))
-- choose 3
def choose : Ss := (.cons (.exp (.call 8 (.cons (.var 1) .nil))) (.cons (.exp (.call 82 (.cons (.var 2) .nil))) (.cons (.ret (.call 29 (.cons (.var 0) (.cons (.var 1) (.cons (.var 2) .nil))))) .nil)))
-- _law_addresses 0
def l_addresses : Ss := (.cons (.ret (.lst (.cons (.str "home") (.cons (.str "new") (.cons (.str "old") (.cons (.str "pic") (.cons (.str "api/t?c=x&t=1") .nil))))))) .nil)
-- _law_truth 7
def l_truth'' : Ss := (.cons (.asg (.nm 3) (.bin .mod (.ix (.var 0) (.int 0)) (.len (.ex (.var 1))))) (.cons (.own 4 .nil) (.cons (.for (.nm 5) (.r1 (.bin .add (.var 2) (.int 1))) (.cons (.ife (.and (.cmp .gt (.ex (.var 5)) (.ex (.int 0))) (.cmp .eq (.ex (.bin .mod (.ix (.var 0) (.bin .add (.int 1) (.var 5))) (.int 4))) (.ex (.int 0)))) (.cons (.asg (.nm 6) (.bin .add (.int 1) (.bin .mod (.bin .fdiv (.ix (.var 0) (.bin .add (.int 1) (.var 5))) (.int 4)) (.bin .sub (.len (.ex (.var 1))) (.int 1))))) (.cons (.asg (.nm 3) (.bin .mod (.bin .add (.var 3) (.var 6)) (.len (.ex (.var 1))))) .nil)) .nil) (.cons (.app 4 (.ix (.var 1) (.var 3))) .nil))) (.frz 4 (.cons (.ret (.var 4)) .nil)))))
-- _law_true_capture 9
def l_true_capture'' : Ss := (.cons (.asg (.nm 4) (.bin .mod (.ix (.var 0) (.int 0)) (.len (.ex (.var 1))))) (.cons (.ownLc 5 (.nm 6) [6] (.r1 (.bin .add (.var 4) (.int 1))) (.some (.cmp .eq (.ex (.call 1051 (.cons (.var 1) (.cons (.var 6) .nil)))) (.ex (.call 1051 (.cons (.var 1) (.cons (.var 4) .nil)))))) (.var 6)) (.frz 5 (.cons (.asg (.nm 7) (.ix (.lst (.cons .non (.cons (.ix (.var 5) (.bin .mod (.ix (.var 0) (.int 1)) (.len (.ex (.var 5))))) (.cons (.ix (.var 5) (.int 0)) .nil)))) (.bin .mod (.ix (.var 0) (.int 2)) (.int 3)))) (.cons (.asg (.nm 8) (.ix (.lst (.cons .non (.cons (.bin .add (.var 2) (.call 1051 (.cons (.var 1) (.cons (.var 4) .nil)))) .nil))) (.bin .mod (.ix (.var 0) (.int 3)) (.int 2)))) (.cons (.ret (.tup (.cons (.ix (.lst (.cons (.str "east") (.cons (.str "west") .nil))) (.bin .mod (.ix (.var 0) (.int 4)) (.int 2))) (.cons (.var 3) (.cons (.var 4) (.cons (.ix (.var 1) (.var 4)) (.cons (.var 7) (.cons (.var 8) .nil)))))))) .nil))))))
-- _law_web 7
def l_web : Ss := (.cons (.own 2 .nil) (.cons (.for (.tp [3, 4]) (.enum (.call 1002 .nil)) (.cons (.for (.nm 5) (.r1 (.bin .add (.ti .int (.cons (.cmp .eq (.ex (.var 3)) (.ex (.int 0))) .nil)) (.bin .mod (.ix (.var 0) (.bin .mul (.int 14) (.var 3))) (.int 3)))) (.cons (.asg (.nm 6) (.sl (.var 0) (.some (.bin .add (.bin .add (.bin .mul (.int 14) (.var 3)) (.int 1)) (.bin .mul (.int 4) (.var 5)))) .none)) (.cons (.app 2 (.call 1215 (.cons (.var 6) (.cons (.ix (.var 1) (.var 4)) (.cons (.bin .mod (.ix (.var 0) (.bin .add (.bin .mul (.int 14) (.var 3)) (.int 13))) (.int 4)) (.cons (.var 4) .nil)))))) .nil))) .nil)) (.frz 2 (.cons (.ret (.var 2)) .nil))))
-- check_pieces 3
def check_pieces : Ss := (.cons (.ife (.not (.isa (.ex (.var 0)) .list)) (.cons (.ret (.tup (.cons (.str "pieces") (.cons (.int 0) .nil)))) .nil) .nil) (.cons (.asg (.nm 2) (.call 132 (.cons (.var 0) (.cons (.var 1) .nil)))) (.cons (.ret (.ife (.ch .eq .eq (.ex (.var 2)) (.ex (.len (.ex (.var 0)))) (.ex (.len (.ex (.var 1))))) .non (.tup (.cons (.str "pieces") (.cons (.var 2) .nil))))) .nil)))
-- require_script 3
def require_script : Ss := (.cons (.ife (.or (.not (.isa (.ex (.var 0)) .tuple)) (.cmp .gt (.ex (.len (.ex (.var 0)))) (.ex (.gl 17)))) (.cons (.rai "InvalidScript" "index" .non) .nil) .nil) (.cons (.for (.tp [1, 2]) (.enum (.var 0)) (.cons (.ife (.not (.call 49 (.cons (.var 2) .nil))) (.cons (.rai "InvalidScript" "index" (.var 1)) .nil) .nil) .nil)) .nil))
-- render 2
def render : Ss := (.cons (.ret (.mt .join (.str " ") (.cons (.lc (.nm 1) [1] (.val (.ix (.var 0) (.int 2))) (.some (.cmp .ne (.ex (.ix (.var 1) (.int 0))) (.ex (.str "")))) (.ix (.var 1) (.int 0))) .nil))) .nil)
-- _law_script_pieces 8
def l_script_pieces : Ss := (.cons (.asg (.tp [5, 6]) (.ix (.var 0) (.var 1))) (.cons (.asg (.nm 7) (.call 1227 (.cons (.lst (.cons (.var 4) (.cons (.var 6) .nil))) .nil))) (.cons (.ife (.or (.cmp .is (.ex (.var 5)) (.ex .non)) (.cmp .ne (.ex (.ix (.ix (.var 5) (.int 3)) (.int 0))) (.ex (.str "data")))) (.cons (.ret (.lst (.cons (.tup (.cons (.str "") (.cons (.var 2) (.cons (.var 3) (.cons (.var 7) (.cons (.str "gap") .nil)))))) .nil))) .nil) .nil) (.cons (.ife (.cmp .ne (.ex (.ix (.ix (.var 5) (.int 3)) (.int 1))) (.ex (.str "21"))) (.cons (.ret (.lst .nil)) .nil) .nil) (.cons (.ret (.lst (.cons (.tup (.cons (.str "21 deg") (.cons (.var 2) (.cons (.var 3) (.cons (.var 7) (.cons (.str "put") .nil)))))) (.cons (.tup (.cons (.str "") (.cons (.var 2) (.cons (.var 3) (.cons (.var 7) (.cons (.str "gap") .nil)))))) .nil)))) .nil)))))
-- is_trap 5
def is_trap : Ss := (.cons (.asg (.nm 1) (.call 10 (.cons (.var 0) .nil))) (.cons (.for (.nm 2) (.r2 (.int 1) (.bin .add (.bin .fdiv (.len (.ex (.var 1))) (.int 3)) (.int 1))) (.cons (.for (.nm 3) (.r1 (.bin .add (.bin .sub (.len (.ex (.var 1))) (.bin .mul (.int 3) (.var 2))) (.int 1))) (.cons (.asg (.nm 4) (.sl (.var 1) (.some (.var 3)) (.some (.bin .add (.var 3) (.var 2))))) (.cons (.ife (.cmp .eq (.ex (.sl (.var 1) (.some (.var 3)) (.some (.bin .add (.var 3) (.bin .mul (.int 3) (.var 2)))))) (.ex (.bin .mul (.var 4) (.int 3)))) (.cons (.ret (.bl true)) .nil) .nil) .nil))) .nil)) (.cons (.ret (.bl false)) .nil)))
-- is_candidate 1
def is_candidate : Ss := (.cons (.ret (.and (.isa (.ex (.var 0)) .tuple) (.and (.cmp .eq (.ex (.len (.ex (.var 0)))) (.ex (.int 2))) (.and (.call 7 (.cons (.ix (.var 0) (.int 0)) .nil)) (.call 1 (.cons (.ix (.var 0) (.int 1)) (.cons (.int 1) (.cons (.gl 25) .nil)))))))) .nil)
-- require_candidates 4
def require_candidates : Ss := (.cons (.ife (.or (.not (.isa (.ex (.var 0)) .list)) (.cmp .gt (.ex (.len (.ex (.var 0)))) (.ex (.gl 24)))) (.cons (.rai "InvalidCandidates" "index" .non) .nil) .nil) (.cons (.own 1 .nil) (.cons (.for (.tp [2, 3]) (.enum (.var 0)) (.cons (.ife (.or (.not (.call 97 (.cons (.var 3) .nil))) (.cmp .inn (.ex (.ix (.var 3) (.int 0))) (.ov 1))) (.cons (.rai "InvalidCandidates" "index" (.var 2)) .nil) .nil) (.cons (.app 1 (.ix (.var 3) (.int 0))) .nil))) .nil)))
-- require_small 1
def require_small : Ss := (.cons (.ife (.not (.call 1 (.cons (.var 0) (.cons (.int 0) (.cons (.gl 27) .nil))))) (.cons (.rai "InvalidNumber" "value" (.var 0)) .nil) .nil) .nil)
-- fits 6
def fits : Ss := (.cons (.for (.tp [4, 5]) (.val (.var 0)) (.cons (.ife (.or (.cmp .eq (.ex (.var 5)) (.ex (.var 2))) (.and (.cmp .eq (.ex (.call 9 (.cons (.var 5) .nil))) (.ex (.call 9 (.cons (.var 2) .nil)))) (.cmp .lt (.ex (.bin .sub (.var 1) (.var 4))) (.ex (.var 3))))) (.cons (.ret (.bl false)) .nil) .nil) .nil)) (.cons (.ret (.bl true)) .nil))
-- _law_host 1
def l_host : Ss := (.cons (.ret (.ix (.mt .split (.ix (.mt .split (.var 0) (.cons (.str "?") .nil)) (.int 0)) (.cons (.str "/") .nil)) (.int 0))) .nil)
-- require_rates 2
def require_rates : Ss := (.cons (.for (.nm 1) (.val (.var 0)) (.cons (.ife (.or (.not (.call 7 (.cons (.var 1) .nil))) (.not (.call 1 (.cons (.ix (.var 0) (.var 1)) (.cons (.int 1) (.cons (.gl 26) .nil)))))) (.cons (.rai "InvalidAddress" "value" (.var 1)) .nil) .nil) .nil)) .nil)
-- worths 6
def worths : Ss := (.cons (.exp (.call 102 (.cons (.var 1) .nil))) (.cons (.exp (.call 82 (.cons (.var 2) .nil))) (.cons (.ownLc 3 (.nm 4) [4] (.val (.bi .sorted (.cons (.var 1) .nil))) .none (.tup (.cons (.var 4) (.cons (.bi .min2 (.cons (.bin .mul (.ix (.var 1) (.var 4)) (.call 103 (.cons (.var 0) (.cons (.var 4) (.cons (.var 2) .nil))))) (.cons (.gl 25) .nil))) .nil)))) (.frz 3 (.cons (.ret (.lc (.nm 5) [5] (.val (.var 3)) (.some (.cmp .gt (.ex (.ix (.var 5) (.int 1))) (.ex (.int 0)))) (.var 5))) .nil)))))
-- checksum 3
def checksum : Ss := (.cons (.ret (.bin .mod (.bi .sum (.cons (.lc (.tp [1, 2]) [1, 2] (.enum (.var 0)) .none (.bin .mul (.bi .ord (.cons (.var 2) .nil)) (.bin .add (.var 1) (.int 1)))) .nil)) (.gl 35))) .nil)
-- _law_check 4
def l_check : Ss := (.cons (.asg (.nm 1) (.int 0)) (.cons (.for (.tp [2, 3]) (.enum (.var 0)) (.cons (.asg (.nm 1) (.bin .mod (.bin .add (.var 1) (.bin .mul (.bi .ord (.cons (.var 3) .nil)) (.bin .add (.var 2) (.int 1)))) (.int 9973))) .nil)) (.cons (.ret (.var 1)) .nil)))
-- _law_capture 6
def l_capture : Ss := (.cons (.asg (.tp [2, 3]) (.var 0)) (.cons (.ife (.cmp .inn (.ex (.var 1)) (.ex (.var 3))) (.cons (.ret .non) .nil) .nil) (.cons (.asg (.nm 4) (.ix (.var 2) (.var 1))) (.cons (.asg (.nm 5) (.ix (.var 4) (.int 5))) (.cons (.ife (.isa (.ex (.var 5)) .int) (.cons (.ife (.cmp .inn (.ex (.var 5)) (.ex (.var 3))) (.cons (.ret .non) .nil) .nil) (.cons (.asg (.nm 5) (.ix (.ix (.var 2) (.var 5)) (.int 5))) .nil)) .nil) (.cons (.ret (.bin .add (.bin .add (.sl (.var 4) .none (.some (.int 3))) (.tup (.cons (.var 5) .nil))) (.sl (.var 4) (.some (.int 3)) (.some (.int 5))))) .nil))))))
-- _law_available 4
def l_available : Ss := (.cons (.ownLc 1 (.nm 2) [2] (.r1 (.len (.ex (.ix (.var 0) (.int 0))))) .none (.call 1029 (.cons (.var 0) (.cons (.var 2) .nil)))) (.frz 1 (.cons (.ret (.lc (.nm 3) [3] (.val (.var 1)) (.some (.cmp .isn (.ex (.var 3)) (.ex .non))) (.var 3))) .nil)))
-- _law_drawn_capture 6
def l_drawn_capture : Ss := (.cons (.asg (.nm 1) (.bin .mod (.ix (.var 0) (.int 0)) (.int 4))) (.cons (.asg (.nm 2) (.bin .mod (.ix (.var 0) (.int 2)) (.int 30))) (.cons (.asg (.nm 3) (.ix (.lst (.cons .non (.cons (.bin .mod (.ix (.var 0) (.int 3)) (.bin .add (.var 2) (.int 1))) .nil))) (.bin .mod (.ix (.var 0) (.int 4)) (.int 2)))) (.cons (.asg (.nm 4) (.ix (.lst (.cons .non (.cons (.bin .mod (.ix (.var 0) (.int 5)) (.int 9)) .nil))) (.bin .mod (.bin .fdiv (.ix (.var 0) (.int 5)) (.int 9)) (.int 2)))) (.cons (.asg (.nm 5) (.ix (.bin .add (.call 1126 (.cons (.var 1) .nil)) (.lst (.cons (.tup (.cons (.str "data") (.cons (.str "x y") .nil))) (.cons (.tup (.cons (.str "missing") .nil)) .nil)))) (.bin .mod (.ix (.var 0) (.int 1)) (.int 6)))) (.cons (.ret (.tup (.cons (.ix (.lst (.cons (.str "east") (.cons (.str "west") .nil))) (.bin .mod (.bin .fdiv (.ix (.var 0) (.int 4)) (.int 2)) (.int 2))) (.cons (.call 1000 (.cons (.var 1) .nil)) (.cons (.var 2) (.cons (.var 5) (.cons (.var 3) (.cons (.var 4) .nil)))))))) .nil))))))
-- is_rule 1
def is_rule : Ss := (.cons (.ife (.or (.not (.isa (.ex (.var 0)) .tuple)) (.or (.cmp .ne (.ex (.len (.ex (.var 0)))) (.ex (.int 3))) (.or (.not (.call 7 (.cons (.ix (.var 0) (.int 0)) .nil))) (.cmp .inn (.ex (.str "?")) (.ex (.ix (.var 0) (.int 0))))))) (.cons (.ret (.bl false)) .nil) .nil) (.cons (.ret (.and (.or (.cmp .is (.ex (.ix (.var 0) (.int 1))) (.ex .non)) (.call 3 (.cons (.ix (.var 0) (.int 1)) .nil))) (.call 2 (.cons (.ix (.var 0) (.int 2)) .nil)))) .nil))
-- require_rules 3
def require_rules : Ss := (.cons (.ife (.or (.not (.isa (.ex (.var 0)) .list)) (.cmp .gt (.ex (.len (.ex (.var 0)))) (.ex (.gl 36)))) (.cons (.rai "InvalidRules" "index" .non) .nil) .nil) (.cons (.for (.tp [1, 2]) (.enum (.var 0)) (.cons (.ife (.not (.call 138 (.cons (.var 2) .nil))) (.cons (.rai "InvalidRules" "index" (.var 1)) .nil) .nil) .nil)) .nil))
-- is_below 3
def is_below : Ss := (.cons (.asg (.nm 2) (.call 10 (.cons (.var 1) .nil))) (.cons (.ret (.and (.cmp .eq (.ex (.call 9 (.cons (.var 0) .nil))) (.ex (.call 9 (.cons (.var 1) .nil)))) (.cmp .eq (.ex (.sl (.call 10 (.cons (.var 0) .nil)) .none (.some (.len (.ex (.var 2)))))) (.ex (.var 2))))) .nil))
-- hides 7
def hides : Ss := (.cons (.asg (.tp [4, 5, 6]) (.var 0)) (.cons (.ret (.and (.cmp .inn (.ex (.var 5)) (.ex (.tup (.cons .non (.cons (.var 2) .nil))))) (.and (.cmp .le (.ex (.var 6)) (.ex (.var 3))) (.call 140 (.cons (.var 1) (.cons (.var 4) .nil)))))) .nil))
-- change_of 3
def change_of : Ss := (.cons (.ret (.ife (.cmp .is (.ex (.call 21 (.cons (.var 0) .nil))) (.ex .non)) (.gl 7) (.call 95 (.cons (.var 0) (.cons (.var 1) (.cons (.var 2) .nil)))))) .nil)
-- first_and_last 1
def first_and_last : Ss := (.cons (.ret (.ife (.cmp .ne (.ex (.var 0)) (.ex (.lst .nil))) (.tup (.cons (.ix (.var 0) (.int 0)) (.cons (.ix (.var 0) (.neg (.int 1))) .nil))) (.tup (.cons .non (.cons .non .nil))))) .nil)
-- is_argument 2
def is_argument : Ss := (.cons (.ife (.cmp .eq (.ex (.var 0)) (.ex (.str "n"))) (.cons (.ret (.call 3 (.cons (.var 1) .nil))) .nil) .nil) (.cons (.ret (.or (.cmp .ne (.ex (.var 0)) (.ex (.str "m"))) (.call 37 (.cons (.var 1) .nil)))) .nil))
-- join_words 1
def join_words : Ss := (.cons (.ret (.ife (.cmp .ne (.ex (.var 0)) (.ex (.lst .nil))) (.mt .join (.str " ") (.cons (.var 0) .nil)) (.gl 13))) .nil)
-- answer_count 1
def answer_count : Ss := (.cons (.ret (.ti .str (.cons (.len (.ex (.var 0))) .nil))) .nil)
-- _law_truths 3
def l_truths : Ss := (.cons (.ret (.lc (.nm 2) [2] (.r1 (.int 4)) .none (.call 1219 (.cons (.sl (.var 0) (.some (.bin .mul (.int 60) (.var 2))) .none) (.cons (.call 1126 (.cons (.var 2) .nil)) (.cons (.var 1) .nil)))))) .nil)
-- _law_sure 6
def l_sure : Ss := (.cons (.own 2 .nil) (.cons (.for (.nm 3) (.r1 (.int 4)) (.cons (.asg (.tp [4, 5]) (.call 30 (.cons (.var 0) (.cons (.call 1000 (.cons (.var 3) .nil)) (.cons (.var 1) .nil))))) (.cons (.ife (.cmp .eq (.ex (.var 5)) (.ex (.str "sure"))) (.cons (.app 2 (.tup (.cons (.call 1000 (.cons (.var 3) .nil)) (.cons (.ix (.var 4) (.int 3)) .nil)))) .nil) .nil) .nil))) (.frz 2 (.cons (.ret (.var 2)) .nil))))
-- _law_followed 6
def l_followed : Ss := (.cons (.par [3, 4] (.cons (.lst .nil) (.cons .non .nil))) (.cons (.try 5 "RedirectLoop" (.cons (.asg (.nm 3) (.call 31 (.cons (.var 0) (.cons (.var 1) (.cons (.var 2) .nil))))) .nil) (.cons (.asg (.nm 4) (.xat 5 "address")) .nil)) (.cons (.ret (.lst (.cons (.var 3) (.cons (.var 4) .nil)))) .nil)))
end T

set_option Elab.async false
set_option linter.all false
set_option maxRecDepth 100000
/-! Steps of the meaning, for proofs about what the defs compute. -/
namespace Pf
open PySem PySem.Spec L2

section
variable {Γ : Gs} {s : S} {ss a b : Ss} {ρ ρ' : Sto} {d : D} {e c : E} {i : Nat} {x : EX} {t : Tg} {it : I} {ds : List D}
theorem ex_nx (h : exe Γ s ρ = .nx ρ') : exes Γ (.cons s ss) ρ = exes Γ ss ρ' := by
  show (exe Γ s ρ).seq (exes Γ ss) = _
  rw [h]; rfl
theorem ex_rt (h : exe Γ s ρ = .rt d) : exes Γ (.cons s ss) ρ = .rt d := by
  show (exe Γ s ρ).seq (exes Γ ss) = _
  rw [h]; rfl
theorem ex_ex (h : exe Γ s ρ = .ex x ρ') : exes Γ (.cons s ss) ρ = .ex x ρ' := by
  show (exe Γ s ρ).seq (exes Γ ss) = _
  rw [h]; rfl
theorem asg_nm (h : sem Γ e ρ = .ok d) : exe Γ (.asg (.nm i) e) ρ = .nx (ρ.set i (some (.pd d))) := by
  show Out.ofR (sem Γ e ρ) ρ _ = _
  rw [h]; rfl
theorem asg_tp {is : List Nat} (h : sem Γ e ρ = .ok (.tuple ds)) (hl : ds.length = is.length) : exe Γ (.asg (.tp is) e) ρ = .nx (setAll is ds ρ) := by
  show Out.ofR (sem Γ e ρ) ρ (fun d => asgO (.tp is) d ρ) = _
  rw [h]
  show Out.ofR (if ds.length = is.length then Rs.ok (setAll is ds ρ) else .bad) ρ (fun ρ' => .nx ρ') = _
  rw [if_pos hl]; rfl
theorem ife_t (h : sem Γ c ρ = .ok (.bool true)) : exe Γ (.ife c a b) ρ = exes Γ a ρ := by
  show Out.ofR ((sem Γ c ρ).bind asB) ρ _ = _
  rw [h]; rfl
theorem ife_f (h : sem Γ c ρ = .ok (.bool false)) : exe Γ (.ife c a b) ρ = exes Γ b ρ := by
  show Out.ofR ((sem Γ c ρ).bind asB) ρ _ = _
  rw [h]; rfl
theorem ret_ok (h : sem Γ e ρ = .ok d) : exe Γ (.ret e) ρ = .rt d := by
  show Out.ofR (sem Γ e ρ) ρ _ = _
  rw [h]; rfl
theorem exp_ok (h : sem Γ e ρ = .ok d) : exe Γ (.exp e) ρ = .nx ρ := by
  show Out.ofR (sem Γ e ρ) ρ _ = _
  rw [h]; rfl
theorem exp_ex (h : sem Γ e ρ = .ex x) : exe Γ (.exp e) ρ = .ex x ρ := by
  show Out.ofR (sem Γ e ρ) ρ _ = _
  rw [h]; rfl
theorem for_ok {bd : Ss} (h : semi Γ it ρ = .ok ds) : exe Γ (.for t it bd) ρ = forL (fun d ρ' => (asgO t d ρ').seq (exes Γ bd)) ds ρ := by
  show Out.ofR (semi Γ it ρ) ρ _ = _
  rw [h]; rfl
end
/-- a loop that ends at the first item with p, else goes on -/
theorem forL_any {step : D → Sto → Out} {good : Sto → Prop} {p : D → Bool} {v : D} : ∀ {ds : List D}, (∀ d ∈ ds, ∀ ρ, good ρ → (p d = true → step d ρ = .rt v) ∧ (p d = false → ∃ ρ', good ρ' ∧ step d ρ = .nx ρ')) →
    ∀ ρ, good ρ → (ds.any p = true → forL step ds ρ = .rt v) ∧ (ds.any p = false → ∃ ρ', good ρ' ∧ forL step ds ρ = .nx ρ')
  | [], _, ρ, g => ⟨(fun h => by cases h), fun _ => ⟨ρ, g, rfl⟩⟩
  | d :: ds, h, ρ, g => by
    obtain ⟨h1, h2⟩ := h d (by simp) ρ g
    cases e : p d with
    | true =>
      refine ⟨fun _ => ?_, (fun q => by rw [List.any_cons, e] at q; cases q)⟩
      unfold forL
      rw [h1 e]
    | false =>
      obtain ⟨ρ', g', e2⟩ := h2 e
      have ih := forL_any (fun d' hd => h d' (List.mem_cons_of_mem _ hd)) ρ' g'
      rw [List.any_cons, e, Bool.false_or]
      unfold forL
      rw [e2]
      exact ih
/-- a loop all of whose turns go on -/
theorem forL_all {step : D → Sto → Out} {good : Sto → Prop} : ∀ {ds : List D}, (∀ d ∈ ds, ∀ ρ, good ρ → ∃ ρ', good ρ' ∧ step d ρ = .nx ρ') → ∀ ρ, good ρ → ∃ ρ', good ρ' ∧ forL step ds ρ = .nx ρ'
  | [], _, ρ, g => ⟨ρ, g, rfl⟩
  | d :: ds, h, ρ, g => by
    obtain ⟨ρ', g', e⟩ := h d (by simp) ρ g
    obtain ⟨ρ2, g2, e2⟩ := forL_all (fun d' hd => h d' (List.mem_cons_of_mem _ hd)) ρ' g'
    refine ⟨ρ2, g2, ?_⟩
    unfold forL
    rw [e]
    exact e2
/-! texts cut at one sign -/
theorem part_hit {p r : List Nat} {c : Nat} (h : c ∉ p) : miD .partition (.str (mk (p ++ (c :: r)))) [.str (mk [c])] = .ok (.tuple [.str (mk p), .str (mk [c]), .str (mk r)]) := by
  show (if ((mk [c]).length == 0) = false then Rs.ok _ else .bad) = _
  rw [if_pos (by rw [len_mk]; rfl)]
  have e : TL.par [c] [] (p ++ ([c] ++ r)) = some ([] ++ p, r) := TL.par_part1 h
  have e2 : partS (mk (p ++ (c :: r))) (mk [c]) = (mk p, mk [c], mk r) := by
    unfold partS
    show (match TL.par [c] [] (p ++ (c :: r)) with
      | some (p, q) => _
      | none => _) = _
    rw [show p ++ (c :: r) = p ++ ([c] ++ r) from rfl, e]
    rfl
  rw [e2]
theorem part_miss {p : List Nat} {c : Nat} (h : c ∉ p) : miD .partition (.str (mk p)) [.str (mk [c])] = .ok (.tuple [.str (mk p), .str Str.empty, .str Str.empty]) := by
  show (if ((mk [c]).length == 0) = false then Rs.ok _ else .bad) = _
  rw [if_pos (by rw [len_mk]; rfl)]
  have e : TL.par [c] [] p = none := TL.par_none1 h
  have e2 : partS (mk p) (mk [c]) = (mk p, Str.empty, Str.empty) := by
    unfold partS
    show (match TL.par [c] [] p with
      | some (p, q) => _
      | none => _) = _
    rw [e]
  rw [e2]
theorem split_join {ps : List (List Nat)} {c : Nat} (hn : ps ≠ []) (h : ∀ p ∈ ps, c ∉ p) (hl : (TL.joinL [c] ps).length + 1 ≤ LIM) : miD .split (.str (mk (TL.joinL [c] ps))) [.str (mk [c])] = .ok (.list (ps.map fun p => .str (mk p))) := by
  show (if ((mk [c]).length == 0) = false ∧ (mk (TL.joinL [c] ps)).length + 1 ≤ LIM then Rs.ok _ else .bad) = _
  rw [if_pos ⟨by rw [len_mk]; rfl, by rw [len_mk]; exact hl⟩]
  have e : TL.spl [c] 0 [] (TL.joinL [c] ps) = ps := TL.spl_join hn h
  show Rs.ok (PyData.list ((splitS (mk (TL.joinL [c] ps)) (mk [c])).map PyData.str)) = _
  unfold splitS
  show Rs.ok (PyData.list (((TL.spl [c] 0 [] (TL.joinL [c] ps)).map mk).map PyData.str)) = _
  rw [e, List.map_map]
  rfl
end Pf

set_option Elab.async false
set_option linter.all false
set_option maxRecDepth 100000
/-! Whole numbers; the digits that each law draws. -/
namespace Pf
open PySem PySem.Spec L2

theorem addI (i j : Int) : binD .add (.int i) (.int j) = .ok (.int (i + j)) := rfl
theorem subI (i j : Int) : binD .sub (.int i) (.int j) = .ok (.int (i - j)) := rfl
theorem mulI {i j : Int} (h : small64 i = true ∨ small64 j = true) : binD .mul (.int i) (.int j) = .ok (.int (i * j)) := by
  show (if small64 i = true ∨ small64 j = true then Rs.ok (PyData.int (i * j)) else Rs.bad) = _
  rw [if_pos h]
theorem modI {i j : Int} (h : 0 < j) : binD .mod (.int i) (.int j) = .ok (.int (i % j)) := by
  show (if 0 < j then Rs.ok (PyData.int (i % j)) else Rs.bad) = _
  rw [if_pos h]
theorem fdivI {i j : Int} (h : 0 < j) (h2 : j < 1073741824) : binD .fdiv (.int i) (.int j) = .ok (.int (i / j)) := by
  show (if 0 < j ∧ j < 1073741824 then Rs.ok (PyData.int (i / j)) else Rs.bad) = _
  rw [if_pos ⟨h, h2⟩]
theorem powI {i j : Int} (h : 0 ≤ j) (h2 : j ≤ 1000) (h3 : small64 i = true) : binD .pow (.int i) (.int j) = .ok (.int (i ^ j.toNat)) := by
  show (if 0 ≤ j ∧ j ≤ 1000 ∧ small64 i = true then Rs.ok (PyData.int (i ^ j.toNat)) else Rs.bad) = _
  rw [if_pos ⟨h, h2, h3⟩]
theorem small_of {i : Int} (h : -(2 ^ 64) < i) (h2 : i < 2 ^ 64) : small64 i = true := small64_iff.mpr ⟨h, h2⟩
section
variable {Γ : Gs} {ρ : Sto} {a b c : E} {x y z : D} {o : Bi}
theorem sem_bin (ha : sem Γ a ρ = .ok x) (hb : sem Γ b ρ = .ok y) (h : binD o x y = .ok z) : sem Γ (.bin o a b) ρ = .ok z := by
  show (sem Γ a ρ).bind (fun x => (sem Γ b ρ).bind fun y => pur (binD o x y)) = _
  rw [ha, Rs.bind_ok, hb, Rs.bind_ok, h]; rfl
theorem sem_ix (ha : sem Γ a ρ = .ok x) (hb : sem Γ b ρ = .ok y) (h : ixD x y = .ok z) : sem Γ (.ix a b) ρ = .ok z := by
  show (sem Γ a ρ).bind (fun x => (sem Γ b ρ).bind fun y => pur (ixD x y)) = _
  rw [ha, Rs.bind_ok, hb, Rs.bind_ok, h]; rfl
theorem sem_cmp {q : Cm} {k : Bool} (ha : sem Γ a ρ = .ok x) (hb : sem Γ b ρ = .ok y) (h : cmpB q x y = .ok k) : sem Γ (.cmp q (.ex a) (.ex b)) ρ = .ok (.bool k) := by
  show (sem Γ a ρ).bind (fun x => (sem Γ b ρ).bind fun y => pur (toB (cmpB q x y))) = _
  rw [ha, Rs.bind_ok, hb, Rs.bind_ok, h]; rfl
theorem sem_and {k l : Bool} (ha : sem Γ a ρ = .ok (.bool k)) (hb : k = true → sem Γ b ρ = .ok (.bool l)) (hl : k = false → l = false) : sem Γ (.and a b) ρ = .ok (.bool l) := by
  show ((sem Γ a ρ).bind asB).bind (fun k => if k = true then sem Γ b ρ else .ok (.bool false)) = _
  rw [ha]
  cases k with
  | true => exact hb rfl
  | false => rw [hl rfl]; rfl
theorem ix_at {xs : List Int} {k : Nat} {s : Int} (h : xs[k]? = some s) : ixD (.list (xs.map PyData.int)) (.int k) = .ok (.int s) := by
  have hk : k < xs.length := (List.getElem?_eq_some_iff.mp h).1
  show opt (atI (xs.map PyData.int) (k : Int)) id = _
  have e : atI (xs.map PyData.int) (k : Int) = some (.int s) := by
    unfold atI
    have e1 : ixN (xs.map PyData.int).length (k : Int) = some k := by
      unfold ixN
      simp [hk]
    rw [e1]
    show (xs.map PyData.int)[k]? = _
    rw [List.getElem?_map, h]
    rfl
  rw [e]
  rfl
end
theorem app_ok {Γ : Gs} {ρ : Sto} {i : Nat} {e : E} {xs : List D} {d : D} (ho : ρ[i]? = some (some (.own xs))) (h : sem Γ e ρ = .ok d) (hl : xs.length < LIM) : exe Γ (.app i e) ρ = .nx (ρ.set i (some (.own (xs ++ [d])))) := by
  show apF i (sem Γ e) ρ = _
  unfold apF
  have e1 : ownAt ρ i = .ok xs := by
    unfold ownAt
    rw [ho]
  rw [e1]
  show Out.ofR (sem Γ e ρ) ρ _ = _
  rw [h]
  show (if xs.length < LIM then Out.nx (ρ.set i (some (.own (xs ++ [d])))) else .bad) = _
  rw [if_pos hl]
/-- a loop by a word of the turns that are done -/
theorem forL_by {step : D → Sto → Out} (Pv : Nat → Sto → Prop) : ∀ {ds : List D} (n : Nat), (∀ i d ρ, ds[i]? = some d → Pv (n + i) ρ → ∃ ρ', Pv (n + i + 1) ρ' ∧ step d ρ = .nx ρ') → ∀ ρ, Pv n ρ → ∃ ρ', Pv (n + ds.length) ρ' ∧ forL step ds ρ = .nx ρ'
  | [], n, _, ρ, g => ⟨ρ, g, rfl⟩
  | d :: ds, n, h, ρ, g => by
    obtain ⟨ρ', g', e⟩ := h 0 d ρ rfl g
    obtain ⟨ρ2, g2, e2⟩ := forL_by Pv (ds := ds) (n + 1) (fun i d' ρ1 hd p => by
      have := h (i + 1) d' ρ1 (by simpa using hd) (by rw [show n + (i + 1) = n + 1 + i by omega]; exact p)
      rw [show n + (i + 1) + 1 = n + 1 + i + 1 by omega] at this
      exact this) ρ' g'
    refine ⟨ρ2, by rw [List.length_cons, show n + (ds.length + 1) = n + 1 + ds.length by omega]; exact g2, ?_⟩
    unfold forL
    rw [e]
    exact e2
/-! ### the digits of a cell -/
def numOne : Ss := (.cons (.asg (.nm 7) (.bin .mod (.bin .pow (.bin .add (.bin .add (.bin .mod (.var 3) (.int 2147483629)) (.bin .mul (.int 7919) (.var 1))) (.int 1)) (.int 3)) (.int 2147483647))) (.cons (.asg (.nm 7) (.bin .mod (.bin .mul (.bin .add (.var 7) (.bin .mul (.int 104729) (.bin .add (.var 6) (.int 1)))) (.bin .add (.var 6) (.int 3))) (.int 2147483629))) (.cons (.asg (.nm 7) (.bin .mod (.bin .mul (.bin .mod (.bin .pow (.var 7) (.int 5)) (.int 2147483647)) (.int 48271)) (.int 2147483629))) (.cons (.app 5 (.bin .mod (.bin .fdiv (.var 7) (.int 16)) (.ix (.var 2) (.var 6)))) .nil))))
def numBig : Ss := (.cons (.app 5 (.bin .mod (.var 4) (.ix (.var 2) (.var 6)))) (.cons (.asg (.nm 4) (.bin .fdiv (.var 4) (.ix (.var 2) (.var 6)))) .nil))
def numTest : E := (.and (.cmp .ge (.ex (.var 3)) (.ex (.bin .pow (.int 10) (.int 18)))) (.cmp .gt (.ex (.var 4)) (.ex (.int 0))))
def numT : Ss := (.cons (.asg (.nm 3) (.bi .max2 (.cons (.var 0) (.cons (.bin .sub (.neg (.int 1)) (.var 0)) .nil)))) (.cons (.asg (.nm 4) (.var 3)) (.cons (.own 5 .nil) (.cons (.for (.nm 6) (.r1 (.len (.ex (.var 2)))) (.cons (.ife numTest numBig numOne) .nil)) (.frz 5 (.cons (.ret (.var 5)) .nil))))))
section
variable {Γ : Gs} {cell salt number left : Int} {ss rs : List Int} {k : Nat} {s : Int} {y : Option SV}
def numSt (cell salt : Int) (ss : List Int) (number left : Int) (rs : List Int) (k : Nat) (y : Option SV) : Sto :=
  [some (.pd (.int cell)), some (.pd (.int salt)), some (.pd (.list (ss.map PyData.int))), some (.pd (.int number)), some (.pd (.int left)), some (.own (rs.map PyData.int)), some (.pd (.int k)), y]
theorem num_big (hs : ss[k]? = some s) (h0 : 0 < s) (h1 : s < 1073741824) (hl : rs.length < 1000) : exes Γ numBig (numSt cell salt ss number left rs k y) = .nx (numSt cell salt ss number (left / s) (rs ++ [left % s]) k y) := by
  have ix : ∀ ρ rest, ρ = (some (SV.pd (.int cell)) :: some (.pd (.int salt)) :: some (.pd (.list (ss.map PyData.int))) :: rest) → True := fun _ _ _ => trivial
  unfold numBig
  rw [ex_nx (ρ' := numSt cell salt ss number left (rs ++ [left % s]) k y) ((app_ok (xs := rs.map PyData.int) (d := .int (left % s)) rfl (sem_bin (x := .int left) (y := .int s) rfl (sem_ix (x := .list (ss.map PyData.int)) (y := .int k) rfl rfl (ix_at hs)) (modI h0)) (by rw [List.length_map]; show _ < 1000000; omega)).trans (by
      unfold numSt
      rw [List.map_append]
      rfl)),
    ex_nx (ρ' := numSt cell salt ss number (left / s) (rs ++ [left % s]) k y) ((asg_nm (d := .int (left / s)) (sem_bin (x := .int left) (y := .int s) rfl (sem_ix (x := .list (ss.map PyData.int)) (y := .int k) rfl rfl (ix_at hs)) (fdivI h0 h1))).trans rfl)]
  rfl
end
end Pf

set_option Elab.async false
set_option linter.all false
set_option maxRecDepth 100000
/-! The digits that each law draws: the loop. -/
namespace Pf
open PySem PySem.Spec L2
section
variable {Γ : Gs} {cell salt number left : Int} {ss rs : List Int} {k : Nat} {s : Int} {y : Option SV}
theorem mod_rng {a p : Int} (hp : 0 < p) : 0 ≤ a % p ∧ a % p < p := ⟨Int.emod_nonneg _ (by omega), Int.emod_lt_of_pos _ hp⟩
theorem num_one (hs : ss[k]? = some s) (h0 : 0 < s) (hl : rs.length < 1000) (hk : k < 1000) (salt0 : 0 ≤ salt) (salt1 : salt ≤ 1000000) : ∃ r, 0 ≤ r ∧ r < s ∧ ∃ y', exes Γ numOne (numSt cell salt ss number left rs k y) = .nx (numSt cell salt ss number left (rs ++ [r]) k y') := by
  let b1 : Int := number % 2147483629 + 7919 * salt + 1
  have r1 := mod_rng (a := number) (p := 2147483629) (by omega)
  let o1 : Int := b1 ^ 3 % 2147483647
  have r2 := mod_rng (a := b1 ^ 3) (p := 2147483647) (by omega)
  let o2 : Int := (o1 + 104729 * ((k : Int) + 1)) * ((k : Int) + 3) % 2147483629
  have r3 := mod_rng (a := (o1 + 104729 * ((k : Int) + 1)) * ((k : Int) + 3)) (p := 2147483629) (by omega)
  let o3 : Int := o2 ^ 5 % 2147483647 * 48271 % 2147483629
  let r : Int := o3 / 16 % s
  have r5 := mod_rng (a := o3 / 16) h0
  refine ⟨r, r5.1, r5.2, some (.pd (.int o3)), ?_⟩
  let s0 := numSt cell salt ss number left rs k y
  unfold numOne
  have e1 : sem Γ (.bin .mod (.bin .pow (.bin .add (.bin .add (.bin .mod (.var 3) (.int 2147483629)) (.bin .mul (.int 7919) (.var 1))) (.int 1)) (.int 3)) (.int 2147483647)) s0 = .ok (.int o1) :=
    sem_bin (x := .int (b1 ^ 3)) (y := .int 2147483647) (sem_bin (x := .int b1) (y := .int 3) (sem_bin (x := .int (number % 2147483629 + 7919 * salt)) (y := .int 1) (sem_bin (x := .int (number % 2147483629)) (y := .int (7919 * salt))
      (sem_bin (x := .int number) (y := .int 2147483629) rfl rfl (modI (by omega))) (sem_bin (x := .int 7919) (y := .int salt) rfl rfl (mulI (.inl (small_of (by omega) (by omega))))) rfl) rfl rfl) rfl (powI (by omega) (by omega) (small_of (by omega) (by omega)))) rfl (modI (by omega))
  rw [ex_nx (ρ' := numSt cell salt ss number left rs k (some (.pd (.int o1)))) ((asg_nm e1).trans rfl)]
  have e2 : sem Γ (.bin .mod (.bin .mul (.bin .add (.var 7) (.bin .mul (.int 104729) (.bin .add (.var 6) (.int 1)))) (.bin .add (.var 6) (.int 3))) (.int 2147483629)) (numSt cell salt ss number left rs k (some (.pd (.int o1)))) = .ok (.int o2) :=
    sem_bin (x := .int ((o1 + 104729 * ((k : Int) + 1)) * ((k : Int) + 3))) (y := .int 2147483629) (sem_bin (x := .int (o1 + 104729 * ((k : Int) + 1))) (y := .int ((k : Int) + 3)) (sem_bin (x := .int o1) (y := .int (104729 * ((k : Int) + 1))) rfl
      (sem_bin (x := .int 104729) (y := .int ((k : Int) + 1)) rfl (sem_bin (x := .int k) (y := .int 1) rfl rfl rfl) (mulI (.inl (small_of (by omega) (by omega))))) rfl) (sem_bin (x := .int k) (y := .int 3) rfl rfl rfl) (mulI (.inr (small_of (by omega) (by omega))))) rfl (modI (by omega))
  rw [ex_nx (ρ' := numSt cell salt ss number left rs k (some (.pd (.int o2)))) ((asg_nm e2).trans rfl)]
  have r4 := mod_rng (a := o2 ^ 5) (p := 2147483647) (by omega)
  have e3 : sem Γ (.bin .mod (.bin .mul (.bin .mod (.bin .pow (.var 7) (.int 5)) (.int 2147483647)) (.int 48271)) (.int 2147483629)) (numSt cell salt ss number left rs k (some (.pd (.int o2)))) = .ok (.int o3) :=
    sem_bin (x := .int (o2 ^ 5 % 2147483647 * 48271)) (y := .int 2147483629) (sem_bin (x := .int (o2 ^ 5 % 2147483647)) (y := .int 48271) (sem_bin (x := .int (o2 ^ 5)) (y := .int 2147483647) (sem_bin (x := .int o2) (y := .int 5) rfl rfl (powI (by omega) (by omega) (small_of (by show _ < o2; omega) (by show o2 < _; omega)))) rfl (modI (by omega))) rfl
      (mulI (.inr (small_of (by omega) (by omega))))) rfl (modI (by omega))
  rw [ex_nx (ρ' := numSt cell salt ss number left rs k (some (.pd (.int o3)))) ((asg_nm e3).trans rfl)]
  have e4 : sem Γ (.bin .mod (.bin .fdiv (.var 7) (.int 16)) (.ix (.var 2) (.var 6))) (numSt cell salt ss number left rs k (some (.pd (.int o3)))) = .ok (.int r) :=
    sem_bin (x := .int (o3 / 16)) (y := .int s) (sem_bin (x := .int o3) (y := .int 16) rfl rfl (fdivI (by omega) (by omega))) (sem_ix (x := .list (ss.map PyData.int)) (y := .int k) rfl rfl (ix_at hs)) (modI h0)
  rw [ex_nx (ρ' := numSt cell salt ss number left (rs ++ [r]) k (some (.pd (.int o3)))) ((app_ok (xs := rs.map PyData.int) (d := .int r) rfl e4 (by rw [List.length_map]; show _ < 1000000; omega)).trans (by
    unfold numSt
    rw [List.map_append]
    rfl))]
  rfl
theorem num_test : ∃ b, sem Γ numTest (numSt cell salt ss number left rs k y) = .ok (.bool b) := by
  have h1 : sem Γ (.cmp .ge (.ex (.var 3)) (.ex (.bin .pow (.int 10) (.int 18)))) (numSt cell salt ss number left rs k y) = .ok (.bool (decide ((10 : Int) ^ (18 : Int).toNat ≤ number))) :=
    sem_cmp (x := .int number) (y := .int ((10 : Int) ^ (18 : Int).toNat)) rfl (sem_bin (x := .int 10) (y := .int 18) rfl rfl (powI (by omega) (by omega) (small_of (by omega) (by omega)))) rfl
  have h2 : sem Γ (.cmp .gt (.ex (.var 4)) (.ex (.int 0))) (numSt cell salt ss number left rs k y) = .ok (.bool (decide ((0 : Int) < left))) := sem_cmp (x := .int left) (y := .int 0) rfl rfl rfl
  refine ⟨decide ((10 : Int) ^ (18 : Int).toNat ≤ number) && decide ((0 : Int) < left), ?_⟩
  unfold numTest
  exact sem_and h1 (fun e => by rw [h2, e]; rfl) (fun e => by rw [e]; rfl)
end
/-- the digits: as many as sizes, each within its size -/
theorem numbers_at {Γ : Gs} {cell salt : Int} {ss : List Int} (hs : ∀ s ∈ ss, 0 < s ∧ s < 1073741824) (hn : ss.length < 1000) (salt0 : 0 ≤ salt) (salt1 : salt ≤ 1000000) :
    ∃ rs : List Int, out (exes Γ numT (enter 8 [.int cell, .int salt, .list (ss.map PyData.int)])) = .ok (.list (rs.map PyData.int)) ∧ rs.length = ss.length ∧ ∀ (i : Nat) (r s : Int), rs[i]? = some r → ss[i]? = some s → 0 ≤ r ∧ r < s := by
  let number : Int := if -1 - cell > cell then -1 - cell else cell
  let Pv : Nat → Sto → Prop := fun i ρ => ∃ (left : Int) (rs : List Int) (w y : Option SV), ρ = [some (.pd (.int cell)), some (.pd (.int salt)), some (.pd (.list (ss.map PyData.int))), some (.pd (.int number)), some (.pd (.int left)), some (.own (rs.map PyData.int)), w, y] ∧ rs.length = i ∧ i ≤ ss.length ∧ ∀ (j : Nat) (r s : Int), rs[j]? = some r → ss[j]? = some s → 0 ≤ r ∧ r < s
  let step : D → Sto → Out := fun d ρ' => (asgO (.nm 6) d ρ').seq (exes Γ (.cons (.ife numTest numBig numOne) .nil))
  have turn : ∀ i d ρ, (rng 0 ss.length)[i]? = some d → Pv (0 + i) ρ → ∃ ρ', Pv (0 + i + 1) ρ' ∧ step d ρ = .nx ρ' := by
    rintro i d ρ hd ⟨left, rs, w, y, rfl, hr, hi, hb⟩
    rw [Nat.zero_add] at hr hi ⊢
    have hlt : i < ss.length := by
      have := (List.getElem?_eq_some_iff.mp hd).1
      simpa [rng] using this
    obtain rfl : PyData.int (i : Int) = d := by
      unfold rng at hd
      rw [List.getElem?_map, List.getElem?_range hlt] at hd
      have := Option.some.inj hd
      rw [← this]
      show PyData.int (i : Int) = PyData.int (0 + (i : Int))
      rw [Int.zero_add]
    have hsi : ss[i]? = some ss[i] := List.getElem?_eq_getElem hlt
    obtain ⟨s0, s1⟩ := hs ss[i] (List.getElem_mem hlt)
    have go : step (.int i) [some (.pd (.int cell)), some (.pd (.int salt)), some (.pd (.list (ss.map PyData.int))), some (.pd (.int number)), some (.pd (.int left)), some (.own (rs.map PyData.int)), w, y] = exes Γ (.cons (.ife numTest numBig numOne) .nil) (numSt cell salt ss number left rs i y) := rfl
    have more : ∀ r : Int, 0 ≤ r → r < ss[i] → ∀ (j : Nat) (q s : Int), (rs ++ [r])[j]? = some q → ss[j]? = some s → 0 ≤ q ∧ q < s := by
      intro r h0 h1 j q s e1 e2
      by_cases hj : j < rs.length
      · rw [List.getElem?_append_left hj] at e1
        exact hb j q s e1 e2
      · rw [List.getElem?_append_right (by omega)] at e1
        have : j = rs.length := by
          have := (List.getElem?_eq_some_iff.mp e1).1
          simp at this
          omega
        subst this
        simp at e1
        rw [hr, hsi] at e2
        obtain rfl := Option.some.inj e2
        subst e1
        exact ⟨h0, h1⟩
    obtain ⟨b, tb⟩ := num_test (Γ := Γ) (cell := cell) (salt := salt) (number := number) (left := left) (ss := ss) (rs := rs) (k := i) (y := y)
    rw [go]
    cases b with
    | true =>
      have m := mod_rng (a := left) s0
      refine ⟨numSt cell salt ss number (left / ss[i]) (rs ++ [left % ss[i]]) i y, ⟨left / ss[i], rs ++ [left % ss[i]], some (.pd (.int i)), y, rfl, by rw [List.length_append]; simp [hr], hlt, more _ m.1 m.2⟩, ?_⟩
      rw [ex_nx (ρ' := numSt cell salt ss number (left / ss[i]) (rs ++ [left % ss[i]]) i y) (by rw [ife_t tb]; exact num_big hsi s0 s1 (by omega))]
      rfl
    | false =>
      obtain ⟨r, h0, h1, y', e⟩ := num_one (Γ := Γ) (cell := cell) (number := number) (left := left) (y := y) (rs := rs) hsi s0 (by omega) (by omega) salt0 salt1
      refine ⟨numSt cell salt ss number left (rs ++ [r]) i y', ⟨left, rs ++ [r], some (.pd (.int i)), y', rfl, by rw [List.length_append]; simp [hr], hlt, more r h0 h1⟩, ?_⟩
      rw [ex_nx (ρ' := numSt cell salt ss number left (rs ++ [r]) i y') (by rw [ife_f tb]; exact e)]
      rfl
  obtain ⟨ρ', ⟨left, rs, w, y, rfl, hr, hi, hb⟩, e⟩ := forL_by Pv 0 turn [some (.pd (.int cell)), some (.pd (.int salt)), some (.pd (.list (ss.map PyData.int))), some (.pd (.int number)), some (.pd (.int number)), some (.own []), none, none] ⟨number, [], none, none, rfl, rfl, Nat.zero_le _, fun j r s h => by simp at h⟩
  have len : (rng 0 ss.length).length = ss.length := by simp [rng]
  rw [Nat.zero_add, len] at hr
  refine ⟨rs, ?_, hr, hb⟩
  let ρ0 : Sto := [some (.pd (.int cell)), some (.pd (.int salt)), some (.pd (.list (ss.map PyData.int))), none, none, none, none, none]
  show out (exes Γ numT ρ0) = _
  unfold numT
  rw [ex_nx (ρ' := [some (.pd (.int cell)), some (.pd (.int salt)), some (.pd (.list (ss.map PyData.int))), some (.pd (.int number)), none, none, none, none]) ((asg_nm (d := .int number) rfl).trans rfl),
    ex_nx (ρ' := [some (.pd (.int cell)), some (.pd (.int salt)), some (.pd (.list (ss.map PyData.int))), some (.pd (.int number)), some (.pd (.int number)), none, none, none]) ((asg_nm (d := .int number) rfl).trans rfl),
    ex_nx (ρ' := [some (.pd (.int cell)), some (.pd (.int salt)), some (.pd (.list (ss.map PyData.int))), some (.pd (.int number)), some (.pd (.int number)), some (.own []), none, none]) rfl,
    ex_nx (ρ' := [some (.pd (.int cell)), some (.pd (.int salt)), some (.pd (.list (ss.map PyData.int))), some (.pd (.int number)), some (.pd (.int left)), some (.own (rs.map PyData.int)), w, y]) ((for_ok (ds := rng 0 ss.length) (by
      show rng1 (.int (ss.map PyData.int).length) = _
      rw [List.length_map]
      show (if rngOk (ss.length : Int) = true then Rs.ok (rng 0 (ss.length : Int).toNat) else Rs.bad) = _
      rw [if_pos (rngOk_iff.mpr ⟨by omega, by omega⟩)]
      rfl)).trans e)]
  show out (exes Γ (.cons (.ret (.var 5)) .nil) (frz 5 [some (.pd (.int cell)), some (.pd (.int salt)), some (.pd (.list (ss.map PyData.int))), some (.pd (.int number)), some (.pd (.int left)), some (.own (rs.map PyData.int)), w, y])) = _
  have fz : frz 5 [some (.pd (.int cell)), some (.pd (.int salt)), some (.pd (.list (ss.map PyData.int))), some (.pd (.int number)), some (.pd (.int left)), some (.own (rs.map PyData.int)), w, y] =
      [some (.pd (.int cell)), some (.pd (.int salt)), some (.pd (.list (ss.map PyData.int))), some (.pd (.int number)), some (.pd (.int left)), some (.pd (.list (rs.map PyData.int))), w, y] := by
    show (if (rs.map PyData.int).length ≤ LIM then _ else _) = _
    rw [if_pos (by rw [List.length_map]; show _ ≤ 1000000; omega)]
    rfl
  rw [fz, ex_rt (ret_ok (d := .list (rs.map PyData.int)) rfl)]
  rfl
end Pf

set_option Elab.async false
set_option linter.all false
set_option maxRecDepth 100000
/-! Sets of data, written down: what a run over them is sure of. -/
namespace Ax
open PySem PySem.Spec L2 Pf

inductive A where
  | d (x : D)
  | int (lo hi : Int)
  | any
  | bool
  | str (n : Nat)
  | lst (a : A) (n : Nat)
  | tpl (a : A) (n : Nat)
  | ls (xs : List A)
  | tp (xs : List A)
  | alt (xs : List A)
  | q (p : Nat) (b : Bool) (a : A)
  | tm (k n : Nat) (a : A)
/-- what the numbers of predicates, functions and unknowns mean -/
structure Mg where
  pr : Nat → D → Bool
  fn : Nat → D → D
  th : Nat → D
mutual
def γ (m : Mg) : A → D → Prop
  | .d x, v => v = x
  | .int lo hi, v => ∃ i, v = .int i ∧ lo ≤ i ∧ i ≤ hi
  | .any, v => ∃ i, v = .int i
  | .bool, v => ∃ b, v = .bool b
  | .str n, v => ∃ x, v = .str x ∧ asc x = true ∧ x.length ≤ n
  | .lst a n, v => ∃ ds, v = .list ds ∧ ds.length ≤ n ∧ ∀ d ∈ ds, γ m a d
  | .tpl a n, v => ∃ ds, v = .tuple ds ∧ ds.length ≤ n ∧ ∀ d ∈ ds, γ m a d
  | .ls xs, v => ∃ ds, v = .list ds ∧ γs m xs ds
  | .tp xs, v => ∃ ds, v = .tuple ds ∧ γs m xs ds
  | .alt xs, v => γa m xs v
  | .q p b a, v => m.pr p v = b ∧ γ m a v
  | .tm k n a, v => v = m.fn k (m.th n) ∧ γ m a v
def γs (m : Mg) : List A → List D → Prop
  | [], [] => True
  | a :: as, d :: ds => γ m a d ∧ γs m as ds
  | _, _ => False
def γa (m : Mg) : List A → D → Prop
  | [], _ => False
  | a :: as, v => γ m a v ∨ γa m as v
end
section
variable {m : Mg}
theorem γa_iff {v : D} : ∀ {xs : List A}, γa m xs v ↔ ∃ a ∈ xs, γ m a v
  | [] => by unfold γa; simp
  | a :: as => by
    unfold γa
    rw [γa_iff (xs := as)]
    simp
theorem γs_len : ∀ {xs : List A} {ds : List D}, γs m xs ds → xs.length = ds.length
  | [], [], _ => rfl
  | [], _ :: _, h => by unfold γs at h; exact h.elim
  | _ :: _, [], h => by unfold γs at h; exact h.elim
  | _ :: as, _ :: ds, h => by
    unfold γs at h
    rw [List.length_cons, List.length_cons, γs_len h.2]
theorem γs_get : ∀ {xs : List A} {ds : List D}, γs m xs ds → ∀ {i : Nat} {a : A}, xs[i]? = some a → ∃ d, ds[i]? = some d ∧ γ m a d
  | [], [], _, i, a, e => by simp at e
  | [], _ :: _, h, _, _, _ => by unfold γs at h; exact h.elim
  | _ :: _, [], h, _, _, _ => by unfold γs at h; exact h.elim
  | b :: as, d :: ds, h, 0, a, e => by
    unfold γs at h
    simp only [List.getElem?_cons_zero, Option.some.injEq] at e
    subst e
    exact ⟨d, rfl, h.1⟩
  | b :: as, d :: ds, h, i + 1, a, e => by
    unfold γs at h
    exact γs_get h.2 (i := i) (by simpa using e)
theorem γs_app : ∀ {xs ys : List A} {ds es : List D}, γs m xs ds → γs m ys es → γs m (xs ++ ys) (ds ++ es)
  | [], _, [], _, _, h => h
  | [], _, _ :: _, _, h, _ => by unfold γs at h; exact h.elim
  | _ :: _, _, [], _, h, _ => by unfold γs at h; exact h.elim
  | _ :: as, ys, _ :: ds, es, h, k => by
    unfold γs at h
    show γs m (_ :: (as ++ ys)) (_ :: (ds ++ es))
    unfold γs
    exact ⟨h.1, γs_app h.2 k⟩
theorem γs_drop : ∀ {xs : List A} {ds : List D}, γs m xs ds → ∀ n : Nat, γs m (xs.drop n) (ds.drop n)
  | [], [], h, n => by simpa using h
  | [], _ :: _, h, _ => by unfold γs at h; exact h.elim
  | _ :: _, [], h, _ => by unfold γs at h; exact h.elim
  | _ :: _, _ :: _, h, 0 => h
  | _ :: as, _ :: ds, h, n + 1 => by
    unfold γs at h
    exact γs_drop h.2 n
theorem γs_take : ∀ {xs : List A} {ds : List D}, γs m xs ds → ∀ n : Nat, γs m (xs.take n) (ds.take n)
  | [], [], h, n => by simpa using h
  | [], _ :: _, h, _ => by unfold γs at h; exact h.elim
  | _ :: _, [], h, _ => by unfold γs at h; exact h.elim
  | _ :: _, _ :: _, h, 0 => by simp [γs]
  | a :: as, d :: ds, h, n + 1 => by
    unfold γs at h
    rw [List.take_succ_cons, List.take_succ_cons]
    unfold γs
    exact ⟨h.1, γs_take h.2 n⟩
theorem γs_cut {xs : List A} {ds : List D} (h : γs m xs ds) (lo hi : Option Int) : γs m (cut xs lo hi) (cut ds lo hi) := by
  unfold cut
  rw [γs_len h]
  exact γs_take (γs_drop h _) _
theorem γs_map_d : ∀ ds : List D, γs m (ds.map A.d) ds
  | [] => by simp [γs]
  | d :: ds => by
    rw [List.map_cons]
    unfold γs
    exact ⟨by unfold γ; rfl, γs_map_d ds⟩
theorem γs_mem : ∀ {xs : List A} {ds : List D}, γs m xs ds → ∀ d ∈ ds, ∃ a ∈ xs, γ m a d
  | [], [], _, d, hd => by cases hd
  | [], _ :: _, h, _, _ => by unfold γs at h; exact h.elim
  | _ :: _, [], h, _, _ => by unfold γs at h; exact h.elim
  | a :: as, e :: ds, h, d, hd => by
    unfold γs at h
    rcases List.mem_cons.mp hd with rfl | hd
    · exact ⟨a, by simp, h.1⟩
    · obtain ⟨b, hb, g⟩ := γs_mem h.2 d hd
      exact ⟨b, List.mem_cons_of_mem _ hb, g⟩
theorem γs_rep {a : A} {d : D} (h : γ m a d) : ∀ n : Nat, γs m (List.replicate n a) (List.replicate n d)
  | 0 => by simp [γs]
  | n + 1 => by
    rw [List.replicate_succ, List.replicate_succ]
    unfold γs
    exact ⟨h, γs_rep h n⟩
theorem γs_flat {xs : List A} {ds : List D} (h : γs m xs ds) : ∀ n : Nat, γs m (List.replicate n xs).flatten (List.replicate n ds).flatten
  | 0 => by simp [γs]
  | n + 1 => by
    rw [List.replicate_succ, List.replicate_succ, List.flatten_cons, List.flatten_cons]
    exact γs_app h (γs_flat h n)
end
/-! without names -/
def strip : A → A
  | .q _ _ a => strip a
  | .tm _ _ a => strip a
  | a => a
section
variable {m : Mg} {v : D}
theorem strip_ok : ∀ {a : A}, γ m a v → γ m (strip a) v
  | .q p b a, h => by unfold γ at h; exact strip_ok (a := a) h.2
  | .tm k n a, h => by unfold γ at h; exact strip_ok (a := a) h.2
  | .d _, h => h
  | .int _ _, h => h
  | .any, h => h
  | .bool, h => h
  | .str _, h => h
  | .lst _ _, h => h
  | .tpl _ _, h => h
  | .ls _, h => h
  | .tp _, h => h
  | .alt _, h => h
end
/-! members of a list or a tuple -/
inductive Sq where
  | ex (xs : List A)
  | bd (a : A) (n : Nat)
def γq (m : Mg) : Sq → List D → Prop
  | .ex xs, ds => γs m xs ds
  | .bd a n, ds => ds.length ≤ n ∧ ∀ d ∈ ds, γ m a d
def asL (a : A) : Option Sq := match strip a with
  | .d (.list ds) => some (.ex (ds.map .d))
  | .ls xs => some (.ex xs)
  | .lst a n => some (.bd a n)
  | _ => none
def asT (a : A) : Option Sq := match strip a with
  | .d (.tuple ds) => some (.ex (ds.map .d))
  | .tp xs => some (.ex xs)
  | .tpl a n => some (.bd a n)
  | _ => none
def concs : List A → Option (List D)
  | [] => some []
  | .d x :: r => match concs r with
    | some xs => some (x :: xs)
    | none => none
  | _ :: _ => none
def mkL : Sq → A
  | .ex xs => match concs xs with
    | some ds => .d (.list ds)
    | none => .ls xs
  | .bd a n => .lst a n
def mkT : Sq → A
  | .ex xs => match concs xs with
    | some ds => .d (.tuple ds)
    | none => .tp xs
  | .bd a n => .tpl a n
section
variable {m : Mg} {v : D}
theorem asL_ok {a : A} {s : Sq} (e : asL a = some s) (h : γ m a v) : ∃ ds, v = .list ds ∧ γq m s ds := by
  have h := strip_ok h
  unfold asL at e
  split at e
  · rename_i ds e2
    cases e
    rw [e2] at h
    unfold γ at h
    exact ⟨ds, h, γs_map_d ds⟩
  · rename_i xs e2
    cases e
    rw [e2] at h
    unfold γ at h
    exact h
  · rename_i b n e2
    cases e
    rw [e2] at h
    unfold γ at h
    exact h
  · cases e
theorem asT_ok {a : A} {s : Sq} (e : asT a = some s) (h : γ m a v) : ∃ ds, v = .tuple ds ∧ γq m s ds := by
  have h := strip_ok h
  unfold asT at e
  split at e
  · rename_i ds e2
    cases e
    rw [e2] at h
    unfold γ at h
    exact ⟨ds, h, γs_map_d ds⟩
  · rename_i xs e2
    cases e
    rw [e2] at h
    unfold γ at h
    exact h
  · rename_i b n e2
    cases e
    rw [e2] at h
    unfold γ at h
    exact h
  · cases e
theorem concs_ok : ∀ {xs : List A} {ds es : List D}, concs xs = some ds → γs m xs es → es = ds
  | [], ds, [], e, _ => by cases e; rfl
  | [], _, _ :: _, _, h => by unfold γs at h; exact h.elim
  | a :: r, ds, es, e, h => by
    unfold concs at e
    split at e
    · rename_i heq
      cases heq
    · rename_i x r' heq
      cases heq
      split at e
      · rename_i xs e2
        cases e
        match es, h with
        | y :: ys, h =>
          unfold γs at h
          obtain ⟨h1, h2⟩ := h
          unfold γ at h1
          rw [h1, concs_ok e2 h2]
        | [], h => unfold γs at h; exact h.elim
      · cases e
    · cases e
theorem mkL_ok {s : Sq} {ds : List D} (h : γq m s ds) : γ m (mkL s) (.list ds) := by
  unfold mkL
  split
  · rename_i xs
    split
    · rename_i es e
      unfold γ
      rw [concs_ok e h]
    · unfold γ
      exact ⟨ds, rfl, h⟩
  · unfold γ
    exact ⟨ds, rfl, h⟩
theorem mkT_ok {s : Sq} {ds : List D} (h : γq m s ds) : γ m (mkT s) (.tuple ds) := by
  unfold mkT
  split
  · rename_i xs
    split
    · rename_i es e
      unfold γ
      rw [concs_ok e h]
    · unfold γ
      exact ⟨ds, rfl, h⟩
  · unfold γ
    exact ⟨ds, rfl, h⟩
end
/-! numbers and texts -/
def int0 (a : A) : Option (Int × Int) := match strip a with
  | .d (.int i) => some (i, i)
  | .int lo hi => some (lo, hi)
  | _ => none
def str0 (a : A) : Option Nat := match strip a with
  | .d (.str x) => if asc x = true then some x.length else none
  | .str n => some n
  | _ => none
def intH : List A → Option (Int × Int)
  | [] => none
  | [a] => int0 a
  | a :: r => match int0 a, intH r with
    | some (l, h), some (l2, h2) => some (if l ≤ l2 then l else l2, if h ≤ h2 then h2 else h)
    | _, _ => none
def strH : List A → Option Nat
  | [] => none
  | [a] => str0 a
  | a :: r => match str0 a, strH r with
    | some n, some k => some (if n ≤ k then k else n)
    | _, _ => none
def asInt (a : A) : Option (Int × Int) := match strip a with
  | .alt xs => intH xs
  | b => int0 b
def asStr (a : A) : Option Nat := match strip a with
  | .alt xs => strH xs
  | b => str0 b
/-- an int of whatever size -/
def any0 (a : A) : Bool := match strip a with
  | .any => true
  | _ => (int0 a).isSome
/-- one set over all of these -/
def cov (xs : List A) : A := match intH xs with
  | some (lo, hi) => .int lo hi
  | none => match strH xs with
    | some n => .str n
    | none => if xs.all any0 then .any else .alt xs
section
variable {m : Mg} {v : D}
theorem int0_ok {a : A} {l h : Int} (e : int0 a = some (l, h)) (g : γ m a v) : ∃ i, v = .int i ∧ l ≤ i ∧ i ≤ h := by
  have g := strip_ok g
  unfold int0 at e
  split at e
  · rename_i i e2
    cases e
    rw [e2] at g
    unfold γ at g
    exact ⟨_, g, Int.le_refl _, Int.le_refl _⟩
  · rename_i e2
    cases e
    rw [e2] at g
    unfold γ at g
    exact g
  · cases e
theorem str0_ok {a : A} {n : Nat} (e : str0 a = some n) (g : γ m a v) : ∃ x, v = .str x ∧ asc x = true ∧ x.length ≤ n := by
  have g := strip_ok g
  unfold str0 at e
  split at e
  · rename_i x e2
    rw [e2] at g
    unfold γ at g
    split at e
    · cases e
      exact ⟨x, g, by assumption, Nat.le_refl _⟩
    · cases e
  · rename_i e2
    cases e
    rw [e2] at g
    unfold γ at g
    exact g
  · cases e
theorem intH_ok : ∀ {xs : List A} {l h : Int}, intH xs = some (l, h) → ∀ a ∈ xs, γ m a v → ∃ i, v = .int i ∧ l ≤ i ∧ i ≤ h
  | [], _, _, e, _, ha, _ => by cases ha
  | [b], l, h, e, a, ha, g => by
    rw [List.mem_singleton] at ha
    subst ha
    exact int0_ok e g
  | b :: c :: r, l, h, e, a, ha, g => by
    unfold intH at e
    split at e
    · rename_i l1 h1 l2 h2 e1 e2
      cases e
      rcases List.mem_cons.mp ha with rfl | ha
      · obtain ⟨i, rfl, p1, p2⟩ := int0_ok e1 g
        exact ⟨i, rfl, by split <;> omega, by split <;> omega⟩
      · obtain ⟨i, rfl, p1, p2⟩ := intH_ok e2 a ha g
        exact ⟨i, rfl, by split <;> omega, by split <;> omega⟩
    · cases e
theorem strH_ok : ∀ {xs : List A} {n : Nat}, strH xs = some n → ∀ a ∈ xs, γ m a v → ∃ x, v = .str x ∧ asc x = true ∧ x.length ≤ n
  | [], _, e, _, ha, _ => by cases ha
  | [b], n, e, a, ha, g => by
    rw [List.mem_singleton] at ha
    subst ha
    exact str0_ok e g
  | b :: c :: r, n, e, a, ha, g => by
    unfold strH at e
    split at e
    · rename_i n1 n2 e1 e2
      cases e
      rcases List.mem_cons.mp ha with rfl | ha
      · obtain ⟨x, rfl, p1, p2⟩ := str0_ok e1 g
        exact ⟨x, rfl, p1, by split <;> omega⟩
      · obtain ⟨x, rfl, p1, p2⟩ := strH_ok e2 a ha g
        exact ⟨x, rfl, p1, by split <;> omega⟩
    · cases e
theorem asInt_ok {a : A} {l h : Int} (e : asInt a = some (l, h)) (g : γ m a v) : ∃ i, v = .int i ∧ l ≤ i ∧ i ≤ h := by
  have g := strip_ok g
  unfold asInt at e
  split at e
  · rename_i xs e2
    rw [e2] at g
    unfold γ at g
    obtain ⟨b, hb, g⟩ := γa_iff.mp g
    exact intH_ok e b hb g
  · exact int0_ok e g
theorem asStr_ok {a : A} {n : Nat} (e : asStr a = some n) (g : γ m a v) : ∃ x, v = .str x ∧ asc x = true ∧ x.length ≤ n := by
  have g := strip_ok g
  unfold asStr at e
  split at e
  · rename_i xs e2
    rw [e2] at g
    unfold γ at g
    obtain ⟨b, hb, g⟩ := γa_iff.mp g
    exact strH_ok e b hb g
  · exact str0_ok e g
theorem any0_ok {a : A} (e : any0 a = true) (g : γ m a v) : ∃ i, v = .int i := by
  unfold any0 at e
  split at e
  · rename_i e2
    have g := strip_ok g
    rw [e2] at g
    unfold γ at g
    exact g
  · cases h : int0 a with
    | none => rw [h] at e; cases e
    | some p =>
      obtain ⟨i, h1, _⟩ := int0_ok (l := p.1) (h := p.2) h g
      exact ⟨i, h1⟩
theorem cov_ok {xs : List A} {a : A} (ha : a ∈ xs) (g : γ m a v) : γ m (cov xs) v := by
  unfold cov
  split
  · rename_i e
    unfold γ
    exact intH_ok e a ha g
  · split
    · rename_i e
      unfold γ
      exact strH_ok e a ha g
    · split
      · rename_i e
        unfold γ
        exact any0_ok (List.all_eq_true.mp e a ha) g
      · unfold γ
        exact γa_iff.mpr ⟨a, ha, g⟩
end
def bdOf : Sq → A × Nat
  | .ex xs => (cov xs, xs.length)
  | .bd a n => (a, n)
def sqApp : Sq → Sq → Sq
  | .ex xs, .ex ys => .ex (xs ++ ys)
  | .ex [], s => s
  | s, .ex [] => s
  | s, t => .bd (cov [(bdOf s).1, (bdOf t).1]) ((bdOf s).2 + (bdOf t).2)
section
variable {m : Mg}
theorem bdOf_ok {s : Sq} {ds : List D} (h : γq m s ds) : ds.length ≤ (bdOf s).2 ∧ ∀ d ∈ ds, γ m (bdOf s).1 d := by
  cases s with
  | ex xs => exact ⟨Nat.le_of_eq (γs_len h).symm, fun d hd => let ⟨a, ha, g⟩ := γs_mem h d hd; cov_ok ha g⟩
  | bd a n => exact h
theorem sqApp_ok {s t : Sq} {ds es : List D} (h : γq m s ds) (k : γq m t es) : γq m (sqApp s t) (ds ++ es) := by
  have gen : γq m (.bd (cov [(bdOf s).1, (bdOf t).1]) ((bdOf s).2 + (bdOf t).2)) (ds ++ es) := by
    obtain ⟨h1, h2⟩ := bdOf_ok h
    obtain ⟨k1, k2⟩ := bdOf_ok k
    refine ⟨by rw [List.length_append]; omega, fun d hd => ?_⟩
    rcases List.mem_append.mp hd with hd | hd
    · exact cov_ok (a := (bdOf s).1) (by simp) (h2 d hd)
    · exact cov_ok (a := (bdOf t).1) (by simp) (k2 d hd)
  unfold sqApp
  split
  · exact γs_app h k
  · have : ds = [] := List.length_eq_zero_iff.mp (γs_len h).symm
    subst this
    exact k
  · have : es = [] := List.length_eq_zero_iff.mp (γs_len k).symm
    subst this
    rw [List.append_nil]
    exact h
  · exact gen
theorem sq_len {s : Sq} {ds : List D} (h : γq m s ds) : ds.length ≤ (bdOf s).2 := (bdOf_ok h).1
end
end Ax

set_option Elab.async false
set_option linter.all false
set_option maxRecDepth 100000
/-! Operations on sets of data. -/
namespace Ax
open PySem PySem.Spec L2 Pf

def conc (a : A) : Option D := match strip a with
  | .d x => some x
  | _ => none
section
variable {m : Mg} {u v : D} {x y : A}
theorem conc_ok {a : A} {d : D} (e : conc a = some d) (g : γ m a v) : v = d := by
  have g := strip_ok g
  unfold conc at e
  split at e
  · rename_i z e2
    cases e
    rw [e2] at g
    unfold γ at g
    exact g
  · cases e
end
/-- an outcome that is one datum -/
def oneR (r : Rs D) : Option A := match r with
  | .ok z => some (.d z)
  | _ => none
theorem oneR_ok {m : Mg} {r : Rs D} {a : A} (e : oneR r = some a) : ∃ z, r = .ok z ∧ γ m a z := by
  unfold oneR at e
  split at e
  · cases e
    exact ⟨_, rfl, by unfold γ; rfl⟩
  · cases e
/-- an int of whatever size -/
def isI (a : A) : Bool := match strip a with
  | .any => true
  | _ => (asInt a).isSome
theorem isI_ok {m : Mg} {v : D} {a : A} (e : isI a = true) (g : γ m a v) : ∃ i, v = .int i := by
  unfold isI at e
  split at e
  · rename_i e2
    have g := strip_ok g
    rw [e2] at g
    unfold γ at g
    exact g
  · cases h : asInt a with
    | none => rw [h] at e; cases e
    | some p =>
      obtain ⟨i, h1, _⟩ := asInt_ok h g
      exact ⟨i, h1⟩
def addA (x y : A) : Option A := match asInt x, asInt y with
  | some (a, b), some (c, d) => some (.int (a + c) (b + d))
  | _, _ => if isI x && isI y then some .any else match asStr x, asStr y with
    | some n, some k => if n + k ≤ LIM then some (.str (n + k)) else none
    | _, _ => match asL x, asL y with
      | some s, some t => if (bdOf s).2 + (bdOf t).2 ≤ LIM then some (mkL (sqApp s t)) else none
      | _, _ => match asT x, asT y with
        | some (.ex (a :: r)), some t => if (bdOf (.ex (a :: r))).2 + (bdOf t).2 ≤ LIM then some (mkT (sqApp (.ex (a :: r)) t)) else none
        | _, _ => none
def subA (x y : A) : Option A := match asInt x, asInt y with
  | some (a, b), some (c, d) => some (.int (a - d) (b - c))
  | _, _ => if isI x && isI y then some .any else none
def sm (p : Int × Int) : Bool := decide (-1000000000 ≤ p.1) && decide (p.2 ≤ 1000000000)
def mulA (x y : A) : Option A := match asInt y with
  | some (c, d) => match asInt x with
    | some (a, b) => if 0 ≤ a ∧ 0 ≤ c ∧ sm (c, d) = true then some (.int (a * c) (b * d)) else if sm (c, d) = true then some .any else none
    | none => match asStr x with
      | some n => if 0 ≤ c ∧ d ≤ 1000000 ∧ n * d.toNat ≤ LIM then some (.str (n * d.toNat)) else none
      | none => match asL x with
        | some s => if -1000000 ≤ c ∧ d ≤ 1000000 ∧ (bdOf s).2 * d.toNat ≤ LIM then (match s with
          | .ex xs => if c = d then some (mkL (.ex (List.replicate c.toNat xs).flatten)) else some (mkL (.bd (bdOf s).1 ((bdOf s).2 * d.toNat)))
          | .bd a n => some (mkL (.bd a (n * d.toNat)))) else none
        | none => none
  | none => none
def fdivA (x y : A) : Option A := match asInt x, asInt y with
  | some (a, b), some (c, d) => if 0 ≤ a ∧ c = d ∧ 0 < c ∧ c < 1073741824 then some (.int (a / c) (b / c)) else none
  | _, some (c, d) => if isI x = true ∧ 0 < c ∧ d < 1073741824 then some .any else none
  | _, _ => none
def modA (x y : A) : Option A := match asInt y with
  | some (c, d) => if isI x = true ∧ 0 < c then some (.int 0 (d - 1)) else none
  | none => none
def binA (o : Bi) (x y : A) : Option A := match conc x, conc y with
  | some a, some b => oneR (binD o a b)
  | _, _ => match o with
    | .add => addA x y
    | .sub => subA x y
    | .mul => mulA x y
    | .fdiv => fdivA x y
    | .mod => modA x y
    | .pow => none
section
variable {m : Mg} {u v : D} {x y a : A}
theorem mem_flat {α : Type} {xs : List α} {n : Nat} {d : α} (h : d ∈ (List.replicate n xs).flatten) : d ∈ xs := by
  obtain ⟨l, hl, hd⟩ := List.mem_flatten.mp h
  rw [(List.mem_replicate.mp hl).2] at hd
  exact hd
theorem len_flat {α : Type} (xs : List α) : ∀ n : Nat, (List.replicate n xs).flatten.length = n * xs.length
  | 0 => by simp
  | n + 1 => by rw [List.replicate_succ, List.flatten_cons, List.length_append, len_flat xs n, Nat.add_mul, Nat.one_mul]; omega
theorem addA_ok (e : addA x y = some a) (g : γ m x u) (h : γ m y v) : ∃ z, binD .add u v = .ok z ∧ γ m a z := by
  unfold addA at e
  split at e
  · rename_i l1 h1 l2 h2 e1 e2
    cases e
    obtain ⟨i, rfl, p1, p2⟩ := asInt_ok e1 g
    obtain ⟨j, rfl, q1, q2⟩ := asInt_ok e2 h
    exact ⟨_, rfl, by unfold γ; exact ⟨_, rfl, by omega, by omega⟩⟩
  · split at e
    · rename_i c
      cases e
      rw [Bool.and_eq_true] at c
      obtain ⟨i, rfl⟩ := isI_ok c.1 g
      obtain ⟨j, rfl⟩ := isI_ok c.2 h
      exact ⟨_, rfl, by unfold γ; exact ⟨_, rfl⟩⟩
    · split at e
      · rename_i n k e1 e2
        split at e
        · cases e
          obtain ⟨s, rfl, p1, p2⟩ := asStr_ok e1 g
          obtain ⟨t, rfl, q1, q2⟩ := asStr_ok e2 h
          refine ⟨.str (s ++ t), ?_, ?_⟩
          · show (if s.length + t.length ≤ LIM then Rs.ok (PyData.str (s ++ t)) else .bad) = _
            rw [if_pos (by omega)]
          · unfold γ
            refine ⟨_, rfl, asc_app p1 q1, ?_⟩
            have : (s ++ t).length = s.length + t.length := by
              rw [len_cl, len_cl s, len_cl t, ← List.length_append]
              congr 1
              show (s.cps ++ t.cps).toList = _
              simp [cl]
            omega
        · cases e
      · split at e
        · rename_i s t e1 e2
          split at e
          · cases e
            obtain ⟨ds, rfl, p⟩ := asL_ok e1 g
            obtain ⟨es, rfl, q⟩ := asL_ok e2 h
            have l1 := sq_len p
            have l2 := sq_len q
            refine ⟨.list (ds ++ es), ?_, mkL_ok (sqApp_ok p q)⟩
            show (if ds.length + es.length ≤ LIM then Rs.ok (PyData.list (ds ++ es)) else .bad) = _
            rw [if_pos (by omega)]
          · cases e
        · split at e
          · rename_i b r t e1 e2
            split at e
            · cases e
              obtain ⟨ds, rfl, p⟩ := asT_ok e1 g
              obtain ⟨es, rfl, q⟩ := asT_ok e2 h
              have l1 := sq_len p
              have l2 := sq_len q
              refine ⟨.tuple (ds ++ es), ?_, mkT_ok (sqApp_ok p q)⟩
              have ne : ds.isEmpty = false := by
                have := γs_len p
                cases ds with
                | nil => cases this
                | cons d r => rfl
              show (if ds.isEmpty = false ∧ ds.length + es.length ≤ LIM then Rs.ok (PyData.tuple (ds ++ es)) else .bad) = _
              rw [if_pos ⟨ne, by omega⟩]
            · cases e
          · cases e
theorem subA_ok (e : subA x y = some a) (g : γ m x u) (h : γ m y v) : ∃ z, binD .sub u v = .ok z ∧ γ m a z := by
  unfold subA at e
  split at e
  · rename_i l1 h1 l2 h2 e1 e2
    cases e
    obtain ⟨i, rfl, p1, p2⟩ := asInt_ok e1 g
    obtain ⟨j, rfl, q1, q2⟩ := asInt_ok e2 h
    exact ⟨_, rfl, by unfold γ; exact ⟨_, rfl, by omega, by omega⟩⟩
  · split at e
    · rename_i c
      cases e
      rw [Bool.and_eq_true] at c
      obtain ⟨i, rfl⟩ := isI_ok c.1 g
      obtain ⟨j, rfl⟩ := isI_ok c.2 h
      exact ⟨_, rfl, by unfold γ; exact ⟨_, rfl⟩⟩
    · cases e
theorem sm_ok {p : Int × Int} {i : Int} (h : sm p = true) (h1 : p.1 ≤ i) (h2 : i ≤ p.2) : small64 i = true := by
  unfold sm at h
  simp only [Bool.and_eq_true, decide_eq_true_eq] at h
  exact small_of (by omega) (by omega)
theorem mulA_ok (e : mulA x y = some a) (g : γ m x u) (h : γ m y v) : ∃ z, binD .mul u v = .ok z ∧ γ m a z := by
  unfold mulA at e
  split at e
  · rename_i c d e2
    obtain ⟨j, rfl, q1, q2⟩ := asInt_ok e2 h
    split at e
    · rename_i b1 b2 e1
      obtain ⟨i, rfl, p1, p2⟩ := asInt_ok e1 g
      split at e
      · rename_i hh
        cases e
        obtain ⟨h0, h1, h2⟩ := hh
        refine ⟨_, mulI (.inr (sm_ok h2 q1 q2)), ?_⟩
        unfold γ
        refine ⟨_, rfl, Int.mul_le_mul p1 q1 h1 (by omega), Int.mul_le_mul p2 q2 (by omega) (by omega)⟩
      · split at e
        · rename_i h2
          cases e
          exact ⟨_, mulI (.inr (sm_ok h2 q1 q2)), by unfold γ; exact ⟨_, rfl⟩⟩
        · cases e
    · split at e
      · rename_i n e1
        split at e
        · rename_i hh
          cases e
          obtain ⟨s, rfl, p1, p2⟩ := asStr_ok e1 g
          obtain ⟨h0, h1, h2⟩ := hh
          have le : s.length * j.toNat ≤ n * d.toNat := Nat.mul_le_mul p2 (by omega)
          refine ⟨.str (mk (List.replicate j.toNat (cl s)).flatten), ?_, ?_⟩
          · show (if 0 ≤ j ∧ j ≤ 1000000 ∧ s.length * j.toNat ≤ LIM then Rs.ok (PyData.str (mk (List.replicate j.toNat (cl s)).flatten)) else .bad) = _
            rw [if_pos ⟨by omega, by omega, by omega⟩]
          · unfold γ
            refine ⟨_, rfl, asc_rep p1, ?_⟩
            rw [len_mk, len_flat, ← len_cl, Nat.mul_comm]
            exact le
        · cases e
      · split at e
        · rename_i s e1
          split at e
          · rename_i hh
            obtain ⟨ds, rfl, p⟩ := asL_ok e1 g
            obtain ⟨h0, h1, h2⟩ := hh
            have l1 := sq_len p
            have le : ds.length * j.toNat ≤ (bdOf s).2 * d.toNat := Nat.mul_le_mul l1 (by omega)
            refine ⟨.list (List.replicate j.toNat ds).flatten, ?_, ?_⟩
            · show (if -1000000 ≤ j ∧ j ≤ 1000000 ∧ ds.length * j.toNat ≤ LIM then Rs.ok (PyData.list (List.replicate j.toNat ds).flatten) else .bad) = _
              rw [if_pos ⟨by omega, by omega, by omega⟩]
            · have bd : γq m (.bd (bdOf s).1 ((bdOf s).2 * d.toNat)) (List.replicate j.toNat ds).flatten :=
                ⟨by rw [len_flat, Nat.mul_comm]; exact le, fun z hz => (bdOf_ok p).2 z (mem_flat hz)⟩
              split at e
              · rename_i xs
                split at e
                · rename_i hc
                  cases e
                  have : c = j := by omega
                  subst this
                  exact mkL_ok (γs_flat p _)
                · cases e
                  exact mkL_ok bd
              · cases e
                exact mkL_ok bd
          · cases e
        · cases e
  · cases e
theorem fdivA_ok (e : fdivA x y = some a) (g : γ m x u) (h : γ m y v) : ∃ z, binD .fdiv u v = .ok z ∧ γ m a z := by
  unfold fdivA at e
  split at e
  · rename_i l1 h1 c d e1 e2
    split at e
    · rename_i hh
      cases e
      obtain ⟨h0, rfl, h2, h3⟩ := hh
      obtain ⟨i, rfl, p1, p2⟩ := asInt_ok e1 g
      obtain ⟨j, rfl, q1, q2⟩ := asInt_ok e2 h
      obtain rfl : c = j := by omega
      refine ⟨_, fdivI h2 h3, ?_⟩
      unfold γ
      exact ⟨_, rfl, Int.ediv_le_ediv h2 p1, Int.ediv_le_ediv h2 p2⟩
    · cases e
  · rename_i c d e2 _
    split at e
    · rename_i hh
      cases e
      obtain ⟨h0, h1, h2⟩ := hh
      obtain ⟨i, rfl⟩ := isI_ok h0 g
      obtain ⟨j, rfl, q1, q2⟩ := asInt_ok e2 h
      exact ⟨_, fdivI (by omega) (by omega), by unfold γ; exact ⟨_, rfl⟩⟩
    · cases e
  · cases e
theorem modA_ok (e : modA x y = some a) (g : γ m x u) (h : γ m y v) : ∃ z, binD .mod u v = .ok z ∧ γ m a z := by
  unfold modA at e
  split at e
  · rename_i c d e2
    split at e
    · rename_i hh
      cases e
      obtain ⟨i, rfl⟩ := isI_ok hh.1 g
      obtain ⟨j, rfl, q1, q2⟩ := asInt_ok e2 h
      have j0 : 0 < j := by omega
      refine ⟨_, modI j0, ?_⟩
      unfold γ
      have := Int.emod_nonneg i (show j ≠ 0 by omega)
      have := Int.emod_lt_of_pos i j0
      exact ⟨_, rfl, by omega, by omega⟩
    · cases e
  · cases e
theorem binA_ok {o : Bi} (e : binA o x y = some a) (g : γ m x u) (h : γ m y v) : ∃ z, binD o u v = .ok z ∧ γ m a z := by
  unfold binA at e
  split at e
  · rename_i p q e1 e2
    rw [conc_ok e1 g, conc_ok e2 h]
    exact oneR_ok e
  · cases o with
    | add => exact addA_ok e g h
    | sub => exact subA_ok e g h
    | mul => exact mulA_ok e g h
    | fdiv => exact fdivA_ok e g h
    | mod => exact modA_ok e g h
    | pow => cases e
end
end Ax

set_option Elab.async false
set_option linter.all false
set_option maxRecDepth 100000
/-! Comparisons over sets of data. -/
namespace Ax
open PySem PySem.Spec L2 Pf

mutual
/-- no dict; how deep -/
def pl0 : A → Option Nat
  | .d x => if x.hasDict = true then none else some x.depth
  | .int _ _ => some 0
  | .any => some 0
  | .bool => some 0
  | .str _ => some 0
  | .lst a _ => (pl0 a).map (· + 1)
  | .tpl a _ => (pl0 a).map (· + 1)
  | .ls xs => (pls xs).map (· + 1)
  | .tp xs => (pls xs).map (· + 1)
  | .alt xs => pls xs
  | .q _ _ a => pl0 a
  | .tm _ _ a => pl0 a
def pls : List A → Option Nat
  | [] => some 0
  | a :: r => match pl0 a, pls r with
    | some n, some k => some (max n k)
    | _, _ => none
end
section
variable {m : Mg}
theorem all_dd : ∀ {ds : List D} {n : Nat}, (∀ d ∈ ds, d.hasDict = false ∧ d.depth ≤ n) → PyData.hasDictAll ds = false ∧ PyData.depthAll ds ≤ n
  | [], n, _ => ⟨by simp only [PyData.hasDictAll], by simp only [PyData.depthAll]; omega⟩
  | d :: ds, n, h => by
    obtain ⟨h1, h2⟩ := h d (by simp)
    obtain ⟨k1, k2⟩ := all_dd fun e he => h e (List.mem_cons_of_mem _ he)
    refine ⟨?_, ?_⟩
    · simp only [PyData.hasDictAll]
      rw [h1, k1]; rfl
    · simp only [PyData.depthAll]
      omega
mutual
theorem pl0_ok : ∀ {a : A} {n : Nat} {v : D}, pl0 a = some n → γ m a v → v.hasDict = false ∧ v.depth ≤ n
  | .d x, n, v, e, g => by
    unfold pl0 at e
    unfold γ at g
    subst g
    split at e
    · cases e
    · rename_i h
      cases e
      exact ⟨by simpa using h, Nat.le_refl _⟩
  | .int _ _, n, v, e, g => by
    unfold γ at g
    obtain ⟨i, rfl, _⟩ := g
    exact ⟨by simp only [PyData.hasDict], by simp only [PyData.depth]; omega⟩
  | .any, n, v, e, g => by
    unfold γ at g
    obtain ⟨i, rfl⟩ := g
    exact ⟨by simp only [PyData.hasDict], by simp only [PyData.depth]; omega⟩
  | .bool, n, v, e, g => by
    unfold γ at g
    obtain ⟨i, rfl⟩ := g
    exact ⟨by simp only [PyData.hasDict], by simp only [PyData.depth]; omega⟩
  | .str _, n, v, e, g => by
    unfold γ at g
    obtain ⟨i, rfl, _⟩ := g
    exact ⟨by simp only [PyData.hasDict], by simp only [PyData.depth]; omega⟩
  | .lst a _, n, v, e, g => by
    unfold γ at g
    obtain ⟨ds, rfl, _, g⟩ := g
    unfold pl0 at e
    obtain ⟨k, e1, rfl⟩ := Option.map_eq_some_iff.mp e
    obtain ⟨h1, h2⟩ := all_dd fun d hd => pl0_ok e1 (g d hd)
    exact ⟨by simp only [PyData.hasDict]; exact h1, by simp only [PyData.depth]; omega⟩
  | .tpl a _, n, v, e, g => by
    unfold γ at g
    obtain ⟨ds, rfl, _, g⟩ := g
    unfold pl0 at e
    obtain ⟨k, e1, rfl⟩ := Option.map_eq_some_iff.mp e
    obtain ⟨h1, h2⟩ := all_dd fun d hd => pl0_ok e1 (g d hd)
    exact ⟨by simp only [PyData.hasDict]; exact h1, by simp only [PyData.depth]; omega⟩
  | .ls xs, n, v, e, g => by
    unfold γ at g
    obtain ⟨ds, rfl, g⟩ := g
    unfold pl0 at e
    obtain ⟨k, e1, rfl⟩ := Option.map_eq_some_iff.mp e
    obtain ⟨h1, h2⟩ := pls_ok e1 g
    exact ⟨by simp only [PyData.hasDict]; exact h1, by simp only [PyData.depth]; omega⟩
  | .tp xs, n, v, e, g => by
    unfold γ at g
    obtain ⟨ds, rfl, g⟩ := g
    unfold pl0 at e
    obtain ⟨k, e1, rfl⟩ := Option.map_eq_some_iff.mp e
    obtain ⟨h1, h2⟩ := pls_ok e1 g
    exact ⟨by simp only [PyData.hasDict]; exact h1, by simp only [PyData.depth]; omega⟩
  | .alt xs, n, v, e, g => by
    unfold γ at g
    unfold pl0 at e
    exact pla_ok e g
  | .q _ _ a, n, v, e, g => by
    unfold γ at g
    unfold pl0 at e
    exact pl0_ok e g.2
  | .tm _ _ a, n, v, e, g => by
    unfold γ at g
    unfold pl0 at e
    exact pl0_ok e g.2
theorem pls_ok : ∀ {xs : List A} {n : Nat} {ds : List D}, pls xs = some n → γs m xs ds → PyData.hasDictAll ds = false ∧ PyData.depthAll ds ≤ n
  | [], n, [], e, g => ⟨by simp only [PyData.hasDictAll], by simp only [PyData.depthAll]; omega⟩
  | [], n, _ :: _, e, g => by unfold γs at g; exact g.elim
  | _ :: _, n, [], e, g => by unfold γs at g; exact g.elim
  | a :: r, n, d :: ds, e, g => by
    unfold γs at g
    unfold pls at e
    split at e
    · rename_i p q e1 e2
      cases e
      obtain ⟨h1, h2⟩ := pl0_ok e1 g.1
      obtain ⟨k1, k2⟩ := pls_ok e2 g.2
      refine ⟨?_, ?_⟩
      · simp only [PyData.hasDictAll]
        rw [h1, k1]; rfl
      · simp only [PyData.depthAll]
        omega
    · cases e
theorem pla_ok : ∀ {xs : List A} {n : Nat} {v : D}, pls xs = some n → γa m xs v → v.hasDict = false ∧ v.depth ≤ n
  | [], n, v, e, g => by unfold γa at g; exact g.elim
  | a :: r, n, v, e, g => by
    unfold γa at g
    unfold pls at e
    split at e
    · rename_i p q e1 e2
      cases e
      rcases g with g | g
      · obtain ⟨h1, h2⟩ := pl0_ok e1 g
        exact ⟨h1, by omega⟩
      · obtain ⟨h1, h2⟩ := pla_ok e2 g
        exact ⟨h1, by omega⟩
    · cases e
end
end
def plA (a : A) : Bool := match pl0 a with
  | some n => decide (n ≤ 64)
  | none => false
theorem plA_ok {m : Mg} {a : A} {v : D} (e : plA a = true) (g : γ m a v) : Pf.plain v = true := by
  unfold plA at e
  split at e
  · rename_i n e1
    have := of_decide_eq_true e
    obtain ⟨h1, h2⟩ := pl0_ok e1 g
    unfold Pf.plain
    rw [h1, decide_eq_true (show v.depth ≤ 64 by omega)]
    rfl
  · cases e
/-! kinds -/
def kn : D → Nat
  | .none => 0 | .bool _ => 1 | .int _ => 2 | .str _ => 3 | .list _ => 4 | .tuple _ => 5 | .dict _ => 6
def kdA (a : A) : Option Nat := match strip a with
  | .d x => some (kn x)
  | .int _ _ => some 2
  | .any => some 2
  | .bool => some 1
  | .str _ => some 3
  | .lst _ _ => some 4
  | .ls _ => some 4
  | .tpl _ _ => some 5
  | .tp _ => some 5
  | .alt xs => if (intH xs).isSome then some 2 else if (strH xs).isSome then some 3 else none
  | _ => none
theorem kdA_ok {m : Mg} {a : A} {v : D} {k : Nat} (e : kdA a = some k) (g : γ m a v) : kn v = k := by
  have g := strip_ok g
  unfold kdA at e
  split at e
  · rename_i e2; cases e; rw [e2] at g; unfold γ at g; subst g; rfl
  · rename_i e2; cases e; rw [e2] at g; unfold γ at g; obtain ⟨_, rfl, _⟩ := g; rfl
  · rename_i e2; cases e; rw [e2] at g; unfold γ at g; obtain ⟨_, rfl⟩ := g; rfl
  · rename_i e2; cases e; rw [e2] at g; unfold γ at g; obtain ⟨_, rfl⟩ := g; rfl
  · rename_i e2; cases e; rw [e2] at g; unfold γ at g; obtain ⟨_, rfl, _⟩ := g; rfl
  · rename_i e2; cases e; rw [e2] at g; unfold γ at g; obtain ⟨_, rfl, _⟩ := g; rfl
  · rename_i e2; cases e; rw [e2] at g; unfold γ at g; obtain ⟨_, rfl, _⟩ := g; rfl
  · rename_i e2; cases e; rw [e2] at g; unfold γ at g; obtain ⟨_, rfl, _⟩ := g; rfl
  · rename_i e2; cases e; rw [e2] at g; unfold γ at g; obtain ⟨_, rfl, _⟩ := g; rfl
  · rename_i xs e2
    rw [e2] at g
    unfold γ at g
    obtain ⟨b, hb, g⟩ := γa_iff.mp g
    split at e
    · rename_i h
      cases e
      cases hq : intH xs with
      | none => rw [hq] at h; cases h
      | some p => obtain ⟨i, rfl, _⟩ := intH_ok hq b hb g; rfl
    · split at e
      · rename_i h
        cases e
        cases hq : strH xs with
        | none => rw [hq] at h; cases h
        | some p => obtain ⟨i, rfl, _⟩ := strH_ok hq b hb g; rfl
      · cases e
  · cases e
theorem eqv_kn {u v : D} (h : kn u ≠ kn v) (h1 : ¬ (kn u = 1 ∧ kn v = 2)) (h2 : ¬ (kn u = 2 ∧ kn v = 1)) : PyData.eqv u v = false := by
  cases u <;> cases v <;> first | (simp only [PyData.eqv]; done) | (exact absurd rfl h) | (exact absurd ⟨rfl, rfl⟩ h1) | (exact absurd ⟨rfl, rfl⟩ h2)
/-- the unknown that a names -/
def tmOf : A → Option (Nat × Nat)
  | .tm k n _ => some (k, n)
  | .q _ _ a => tmOf a
  | _ => none
theorem tmOf_ok {m : Mg} {v : D} : ∀ {a : A} {p : Nat × Nat}, tmOf a = some p → γ m a v → v = m.fn p.1 (m.th p.2)
  | .tm k n a, p, e, g => by cases e; unfold γ at g; exact g.1
  | .q _ _ a, p, e, g => by unfold γ at g; exact tmOf_ok (a := a) e g.2
  | .d _, _, e, _ => by cases e
  | .int _ _, _, e, _ => by cases e
  | .any, _, e, _ => by cases e
  | .bool, _, e, _ => by cases e
  | .str _, _, e, _ => by cases e
  | .lst _ _, _, e, _ => by cases e
  | .tpl _ _, _, e, _ => by cases e
  | .ls _, _, e, _ => by cases e
  | .tp _, _, e, _ => by cases e
  | .alt _, _, e, _ => by cases e
mutual
theorem eqv_same : ∀ d : D, d.hasDict = false → PyData.eqv d d = true
  | .none, _ => by simp only [PyData.eqv]
  | .bool b, _ => by simp only [PyData.eqv]; exact beq_self_eq_true b
  | .int i, _ => by simp only [PyData.eqv]; exact beq_self_eq_true i
  | .str x, _ => by simp only [PyData.eqv]; exact beq_self_eq_true x
  | .list xs, h => by simp only [PyData.eqv]; exact eqv_sameAll xs (by simpa only [PyData.hasDict] using h)
  | .tuple xs, h => by simp only [PyData.eqv]; exact eqv_sameAll xs (by simpa only [PyData.hasDict] using h)
  | .dict _, h => by simp only [PyData.hasDict] at h; cases h
theorem eqv_sameAll : ∀ ds : List D, PyData.hasDictAll ds = false → PyData.eqvAll ds ds = true
  | [], _ => by simp only [PyData.eqvAll]
  | d :: ds, h => by
    simp only [PyData.hasDictAll, Bool.or_eq_false_iff] at h
    simp only [PyData.eqvAll]
    rw [eqv_same d h.1, eqv_sameAll ds h.2]
    rfl
end
/-! the answers that may be -/
def bth : List Bool := [true, false]
theorem bth_ok (b : Bool) : b ∈ bth := by cases b <;> simp [bth]
def eqA (x y : A) : Option (List Bool) := if plA x && plA y then
    some (if (tmOf x).isSome && tmOf x == tmOf y then [true] else match kdA x, kdA y with
      | some k, some l => if k ≠ l ∧ ¬ (k = 1 ∧ l = 2) ∧ ¬ (k = 2 ∧ l = 1) then [false] else (match asInt x, asInt y with
        | some (a, b), some (c, d) => if b < c ∨ d < a then [false] else bth
        | _, _ => bth)
      | _, _ => bth)
  else none
theorem eqA_ok {m : Mg} {x y : A} {u v : D} {bs : List Bool} (e : eqA x y = some bs) (g : γ m x u) (h : γ m y v) : ∃ b ∈ bs, eqD u v = .ok b := by
  unfold eqA at e
  split at e
  · rename_i hp
    cases e
    rw [Bool.and_eq_true] at hp
    have p1 := plA_ok hp.1 g
    have p2 := plA_ok hp.2 h
    have q : eqD u v = .ok (PyData.eqv u v) := by
      unfold eqD
      rw [if_pos ⟨p1, p2⟩]
    refine ⟨PyData.eqv u v, ?_, q⟩
    split
    · rename_i hq
      rw [Bool.and_eq_true, beq_iff_eq] at hq
      cases e1 : tmOf x with
      | none => rw [e1] at hq; cases hq.1
      | some p =>
        have e2 : tmOf y = some p := by rw [← hq.2, e1]
        have : u = v := (tmOf_ok e1 g).trans (tmOf_ok e2 h).symm
        subst this
        unfold Pf.plain at p1
        rw [Bool.and_eq_true] at p1
        rw [eqv_same u (by simpa using p1.1)]
        simp
    · split
      · rename_i k l e1 e2
        have k1 := kdA_ok e1 g
        have k2 := kdA_ok e2 h
        split
        · rename_i hk
          rw [eqv_kn (by rw [k1, k2]; exact hk.1) (by rw [k1, k2]; exact hk.2.1) (by rw [k1, k2]; exact hk.2.2)]
          simp
        · split
          · rename_i a b c d e3 e4
            obtain ⟨i, rfl, i1, i2⟩ := asInt_ok e3 g
            obtain ⟨j, rfl, j1, j2⟩ := asInt_ok e4 h
            split
            · simp only [PyData.eqv]
              have : (i == j) = false := beq_eq_false_iff_ne.mpr (by omega)
              rw [this]
              simp
            · exact bth_ok _
          · exact bth_ok _
      · exact bth_ok _
  · cases e
def ordA (lt : Bool) (x y : A) : Option (List Bool) := match asInt x, asInt y with
  | some (a, b), some (c, d) => some (if lt then (if b < c then [true] else if d ≤ a then [false] else bth) else (if b ≤ c then [true] else if d < a then [false] else bth))
  | _, _ => if isI x && isI y then some bth else none
theorem ordA_lt {m : Mg} {x y : A} {u v : D} {bs : List Bool} (e : ordA true x y = some bs) (g : γ m x u) (h : γ m y v) : ∃ i j, u = .int i ∧ v = .int j ∧ decide (i < j) ∈ bs := by
  unfold ordA at e
  split at e
  · rename_i a b c d e1 e2
    obtain ⟨i, rfl, i1, i2⟩ := asInt_ok e1 g
    obtain ⟨j, rfl, j1, j2⟩ := asInt_ok e2 h
    cases e
    refine ⟨i, j, rfl, rfl, ?_⟩
    rw [if_pos rfl]
    split
    · rw [decide_eq_true (by omega)]; simp
    · split
      · rw [decide_eq_false (by omega)]; simp
      · exact bth_ok _
  · split at e
    · rename_i c
      cases e
      rw [Bool.and_eq_true] at c
      obtain ⟨i, rfl⟩ := isI_ok c.1 g
      obtain ⟨j, rfl⟩ := isI_ok c.2 h
      exact ⟨i, j, rfl, rfl, bth_ok _⟩
    · cases e
theorem ordA_le {m : Mg} {x y : A} {u v : D} {bs : List Bool} (e : ordA false x y = some bs) (g : γ m x u) (h : γ m y v) : ∃ i j, u = .int i ∧ v = .int j ∧ decide (i ≤ j) ∈ bs := by
  unfold ordA at e
  split at e
  · rename_i a b c d e1 e2
    obtain ⟨i, rfl, i1, i2⟩ := asInt_ok e1 g
    obtain ⟨j, rfl, j1, j2⟩ := asInt_ok e2 h
    cases e
    refine ⟨i, j, rfl, rfl, ?_⟩
    rw [if_neg Bool.false_ne_true]
    split
    · rw [decide_eq_true (by omega)]; simp
    · split
      · rw [decide_eq_false (by omega)]; simp
      · exact bth_ok _
  · split at e
    · rename_i c
      cases e
      rw [Bool.and_eq_true] at c
      obtain ⟨i, rfl⟩ := isI_ok c.1 g
      obtain ⟨j, rfl⟩ := isI_ok c.2 h
      exact ⟨i, j, rfl, rfl, bth_ok _⟩
    · cases e
def isA_ (x y : A) : Option (List Bool) := match conc y with
  | some .none => some (match kdA x with
    | some k => [k == 0]
    | none => bth)
  | some (.bool b) => match strip x with
    | .d (.bool c) => some [decide (c = b)]
    | .bool => some bth
    | _ => none
  | _ => none
theorem isA_ok {m : Mg} {x y : A} {u v : D} {bs : List Bool} (e : isA_ x y = some bs) (g : γ m x u) (h : γ m y v) : ∃ b ∈ bs, isD u v = .ok b := by
  unfold isA_ at e
  split at e
  · rename_i e1
    cases e
    rw [conc_ok e1 h]
    have q : isD u .none = .ok (kn u == 0) := by cases u <;> rfl
    refine ⟨kn u == 0, ?_, q⟩
    split
    · rename_i k e2
      rw [kdA_ok e2 g]
      simp
    · exact bth_ok _
  · rename_i b e1
    rw [conc_ok e1 h]
    have g := strip_ok g
    split at e
    · rename_i c e2
      cases e
      rw [e2] at g
      unfold γ at g
      subst g
      exact ⟨_, by simp, rfl⟩
    · rename_i e2
      cases e
      rw [e2] at g
      unfold γ at g
      obtain ⟨c, rfl⟩ := g
      exact ⟨_, bth_ok _, rfl⟩
    · cases e
  · cases e
mutual
def flA : A → Bool
  | .d x => flatD x
  | .int _ _ => true
  | .any => true
  | .bool => true
  | .str _ => true
  | .alt xs => flAs xs
  | .q _ _ a => flA a
  | .tm _ _ a => flA a
  | _ => false
def flAs : List A → Bool
  | [] => true
  | a :: r => flA a && flAs r
end
mutual
theorem flA_ok {m : Mg} {v : D} : ∀ {a : A}, flA a = true → γ m a v → flatD v = true
  | .d x, e, g => by unfold γ at g; unfold flA at e; subst g; exact e
  | .int _ _, _, g => by unfold γ at g; obtain ⟨_, rfl, _⟩ := g; rfl
  | .any, _, g => by unfold γ at g; obtain ⟨_, rfl⟩ := g; rfl
  | .bool, _, g => by unfold γ at g; obtain ⟨_, rfl⟩ := g; rfl
  | .str _, _, g => by unfold γ at g; obtain ⟨_, rfl, _⟩ := g; rfl
  | .alt xs, e, g => by unfold γ at g; unfold flA at e; exact flAs_ok e g
  | .q _ _ a, e, g => by unfold γ at g; unfold flA at e; exact flA_ok e g.2
  | .tm _ _ a, e, g => by unfold γ at g; unfold flA at e; exact flA_ok e g.2
  | .lst _ _, e, _ => by unfold flA at e; cases e
  | .tpl _ _, e, _ => by unfold flA at e; cases e
  | .ls _, e, _ => by unfold flA at e; cases e
  | .tp _, e, _ => by unfold flA at e; cases e
theorem flAs_ok {m : Mg} {v : D} : ∀ {xs : List A}, flAs xs = true → γa m xs v → flatD v = true
  | [], _, g => by unfold γa at g; exact g.elim
  | a :: r, e, g => by
    unfold flAs at e
    rw [Bool.and_eq_true] at e
    unfold γa at g
    exact g.elim (flA_ok e.1) (flAs_ok e.2)
end
def inA (x y : A) : Option (List Bool) := match asStr y with
  | some _ => if (asStr x).isSome then some bth else none
  | none => match asL y with
    | some _ => if plA x && plA y then some bth else none
    | none => match asT y with
      | some s => if flA x && flA (bdOf s).1 then some bth else none
      | none => none
theorem inA_ok {m : Mg} {x y : A} {u v : D} {bs : List Bool} (e : inA x y = some bs) (g : γ m x u) (h : γ m y v) : ∃ b ∈ bs, inD u v = .ok b := by
  unfold inA at e
  split at e
  · rename_i n e1
    obtain ⟨t, rfl, _⟩ := asStr_ok e1 h
    split at e
    · rename_i hs
      cases e
      cases e2 : asStr x with
      | none => rw [e2] at hs; cases hs
      | some k =>
        obtain ⟨s, rfl, _⟩ := asStr_ok e2 g
        exact ⟨_, bth_ok _, rfl⟩
    · cases e
  · split at e
    · rename_i s e1
      obtain ⟨ds, rfl, _⟩ := asL_ok e1 h
      split at e
      · rename_i hp
        cases e
        rw [Bool.and_eq_true] at hp
        have p1 := plA_ok hp.1 g
        have p2 := plA_ok hp.2 h
        refine ⟨ds.any fun z => PyData.eqv z u, bth_ok _, ?_⟩
        have : inD u (.list ds) = if Pf.plain u = true ∧ Pf.plain (.list ds) = true then .ok (ds.any fun z => PyData.eqv z u) else .bad := by cases u <;> rfl
        rw [this, if_pos ⟨p1, p2⟩]
      · cases e
    · split at e
      · rename_i s e1
        obtain ⟨ds, rfl, p⟩ := asT_ok e1 h
        split at e
        · rename_i hp
          cases e
          rw [Bool.and_eq_true] at hp
          have p1 := flA_ok hp.1 g
          have p2 : ds.all flatD = true := List.all_eq_true.mpr fun d hd => flA_ok hp.2 ((bdOf_ok p).2 d hd)
          refine ⟨ds.any fun z => PyData.eqv z u, bth_ok _, ?_⟩
          have : inD u (.tuple ds) = if flatD u = true ∧ ds.all flatD = true then .ok (ds.any fun z => PyData.eqv z u) else .bad := by cases u <;> rfl
          rw [this, if_pos ⟨p1, p2⟩]
        · cases e
      · cases e
def nots (r : Option (List Bool)) : Option (List Bool) := r.map fun bs => bs.map (!·)
def strO (x y : A) : Option (List Bool) := match asStr x, asStr y with
  | some _, some _ => some bth
  | _, _ => none
def cmpA (o : Cm) (x y : A) : Option (List Bool) := match conc x, conc y with
  | some a, some b => match cmpB o a b with
    | .ok k => some [k]
    | _ => none
  | _, _ => match o with
    | .eq => eqA x y
    | .ne => nots (eqA x y)
    | .lt => match ordA true x y with
      | some bs => some bs
      | none => strO x y
    | .le => match ordA false x y with
      | some bs => some bs
      | none => strO x y
    | .gt => ordA true y x
    | .ge => ordA false y x
    | .is => isA_ x y
    | .isn => nots (isA_ x y)
    | .inn => inA x y
    | .nin => nots (inA x y)
theorem nots_ok {r : Option (List Bool)} {bs : List Bool} {w : Rs Bool} (e : nots r = some bs) (h : ∀ cs, r = some cs → ∃ b ∈ cs, w = .ok b) : ∃ b ∈ bs, (w.bind fun b => .ok (!b)) = .ok b := by
  unfold nots at e
  obtain ⟨cs, e1, rfl⟩ := Option.map_eq_some_iff.mp e
  obtain ⟨b, hb, rfl⟩ := h cs e1
  exact ⟨!b, List.mem_map.mpr ⟨b, hb, rfl⟩, rfl⟩
theorem cmpA_ok {m : Mg} {o : Cm} {x y : A} {u v : D} {bs : List Bool} (e : cmpA o x y = some bs) (g : γ m x u) (h : γ m y v) : ∃ b ∈ bs, cmpB o u v = .ok b := by
  unfold cmpA at e
  split at e
  · rename_i a b e1 e2
    rw [conc_ok e1 g, conc_ok e2 h]
    split at e
    · rename_i k e3
      cases e
      exact ⟨k, by simp, e3⟩
    · cases e
  · cases o with
    | eq => exact eqA_ok e g h
    | ne => exact nots_ok e fun cs z => eqA_ok z g h
    | lt =>
      have e : (match ordA true x y with
        | some bs => some bs
        | none => strO x y) = some bs := e
      split at e
      · rename_i cs e3
        cases e
        obtain ⟨i, j, rfl, rfl, q⟩ := ordA_lt e3 g h
        exact ⟨_, q, rfl⟩
      · unfold strO at e
        split at e
        · rename_i e1 e2
          cases e
          obtain ⟨s, rfl, _⟩ := asStr_ok e1 g
          obtain ⟨t, rfl, _⟩ := asStr_ok e2 h
          exact ⟨_, bth_ok _, rfl⟩
        · cases e
    | le =>
      have e : (match ordA false x y with
        | some bs => some bs
        | none => strO x y) = some bs := e
      split at e
      · rename_i cs e3
        cases e
        obtain ⟨i, j, rfl, rfl, q⟩ := ordA_le e3 g h
        exact ⟨_, q, rfl⟩
      · unfold strO at e
        split at e
        · rename_i e1 e2
          cases e
          obtain ⟨s, rfl, _⟩ := asStr_ok e1 g
          obtain ⟨t, rfl, _⟩ := asStr_ok e2 h
          exact ⟨_, bth_ok _, rfl⟩
        · cases e
    | gt =>
      obtain ⟨i, j, rfl, rfl, q⟩ := ordA_lt e h g
      exact ⟨_, q, rfl⟩
    | ge =>
      obtain ⟨i, j, rfl, rfl, q⟩ := ordA_le e h g
      exact ⟨_, q, rfl⟩
    | is => exact isA_ok e g h
    | isn => exact nots_ok e fun cs z => isA_ok z g h
    | inn => exact inA_ok e g h
    | nin => exact nots_ok e fun cs z => inA_ok z g h
end Ax

set_option Elab.async false
set_option linter.all false
set_option maxRecDepth 100000
/-! Items, slices, built-in functions, methods over sets of data. -/
namespace Ax
open PySem PySem.Spec L2 Pf

/-- the items at the places from lo on, n of them -/
def items (xs : List A) (lo : Int) : Nat → Option (List A)
  | 0 => some []
  | n + 1 => match atI xs lo, items xs (lo + 1) n with
    | some a, some r => some (a :: r)
    | _, _ => none
def altOf : List A → A
  | [a] => a
  | xs => .alt xs
def sqOf (x : A) : Option Sq := match asL x with
  | some s => some s
  | none => asT x
def ixA (x i : A) : Option A := match conc x, conc i with
  | some a, some b => oneR (ixD a b)
  | _, _ => match asInt i with
    | none => none
    | some (l, h) => match sqOf x with
      | some (.ex xs) => if h - l ≤ 1000 then (items xs l (h - l + 1).toNat).map altOf else none
      | some (.bd _ _) => none
      | none => match conc x with
        | some (.str s) => if asc s = true ∧ 0 ≤ l ∧ h < s.length then some (.str 1) else none
        | _ => none
section
variable {m : Mg} {u v : D} {x y a : A}
theorem items_ok {xs : List A} : ∀ {n : Nat} {lo : Int} {as : List A}, items xs lo n = some as → ∀ i, lo ≤ i → i < lo + n → ∃ b ∈ as, atI xs i = some b
  | 0, lo, as, e, i, h1, h2 => by omega
  | n + 1, lo, as, e, i, h1, h2 => by
    unfold items at e
    split at e
    · rename_i b r e1 e2
      cases e
      by_cases h : i = lo
      · subst h
        exact ⟨b, by simp, e1⟩
      · obtain ⟨c, hc, q⟩ := items_ok e2 i (by omega) (by omega)
        exact ⟨c, List.mem_cons_of_mem _ hc, q⟩
    · cases e
theorem altOf_ok {as : List A} {b : A} (hb : b ∈ as) (g : γ m b v) : γ m (altOf as) v := by
  unfold altOf
  split
  · rw [List.mem_singleton] at hb
    subst hb
    exact g
  · unfold γ
    exact γa_iff.mpr ⟨b, hb, g⟩
theorem atI_len {α β : Type} {xs : List α} {ys : List β} {i : Int} {b : α} (h : xs.length = ys.length) (e : atI xs i = some b) : ∃ j : Nat, xs[j]? = some b ∧ ∀ c, ys[j]? = some c → atI ys i = some c := by
  unfold atI at e
  cases q : ixN xs.length i with
  | none => rw [q] at e; cases e
  | some j =>
    rw [q] at e
    refine ⟨j, e, fun c hc => ?_⟩
    unfold atI
    rw [← h, q]
    exact hc
theorem γs_at {xs : List A} {ds : List D} {i : Int} {b : A} (g : γs m xs ds) (e : atI xs i = some b) : ∃ d, atI ds i = some d ∧ γ m b d := by
  obtain ⟨j, e1, k⟩ := atI_len (γs_len g) e
  obtain ⟨d, e2, g2⟩ := γs_get g e1
  exact ⟨d, k d e2, g2⟩
theorem sqOf_ok {s : Sq} (e : sqOf x = some s) (g : γ m x u) : ∃ ds, γq m s ds ∧ (u = .list ds ∨ u = .tuple ds) := by
  unfold sqOf at e
  split at e
  · rename_i t e1
    cases e
    obtain ⟨ds, h, p⟩ := asL_ok e1 g
    exact ⟨ds, p, .inl h⟩
  · obtain ⟨ds, h, p⟩ := asT_ok e g
    exact ⟨ds, p, .inr h⟩
theorem ixA_ok (e : ixA x y = some a) (g : γ m x u) (h : γ m y v) : ∃ z, ixD u v = .ok z ∧ γ m a z := by
  unfold ixA at e
  split at e
  · rename_i p q e1 e2
    rw [conc_ok e1 g, conc_ok e2 h]
    exact oneR_ok e
  · split at e
    · cases e
    · rename_i lo hi e1
      obtain ⟨i, rfl, i1, i2⟩ := asInt_ok e1 h
      split at e
      · rename_i xs e2
        split at e
        · obtain ⟨as, e3, rfl⟩ := Option.map_eq_some_iff.mp e
          obtain ⟨b, hb, e4⟩ := items_ok e3 i i1 (by omega)
          obtain ⟨ds, p, hu⟩ := sqOf_ok e2 g
          obtain ⟨d, e5, gd⟩ := γs_at p e4
          refine ⟨d, ?_, altOf_ok hb gd⟩
          rcases hu with rfl | rfl
          · show opt (atI ds i) id = _
            rw [e5]; rfl
          · show opt (atI ds i) id = _
            rw [e5]; rfl
        · cases e
      · cases e
      · split at e
        · rename_i s e2
          split at e
          · rename_i hh
            obtain ⟨ha, h0, h1⟩ := hh
            cases e
            rw [conc_ok e2 g]
            have hl : i.toNat < (cl s).length := by rw [← len_cl]; omega
            have e3 : atI (cl s) i = some (cl s)[i.toNat] := by
              unfold atI ixN
              rw [if_pos (by omega), if_pos (by rw [← len_cl]; omega)]
              simp [List.getElem?_eq_getElem hl]
            refine ⟨.str (mk [(cl s)[i.toNat]]), ?_, ?_⟩
            · show opt (atI (cl s) i) _ = _
              rw [e3]; rfl
            · unfold γ
              exact ⟨_, rfl, asc_one ha (List.getElem_mem hl), by rw [len_mk]; exact Nat.le_refl 1⟩
          · cases e
        · cases e
end
/-! slices -/
def exI : Option (Int × Int) → Option (Option Int)
  | none => some none
  | some (a, b) => if a = b then some (some a) else none
/-- how many at the most -/
def capN (n : Nat) : Option (Int × Int) → Nat
  | some (l, h) => if 0 ≤ l then (if h.toNat < n then h.toNat else n) else n
  | none => n
def inR : Option (Int × Int) → Option Int → Prop
  | none, o => o = none
  | some (l, h), o => ∃ i, o = some i ∧ l ≤ i ∧ i ≤ h
theorem exI_ok {r : Option (Int × Int)} {o q : Option Int} (e : exI r = some q) (h : inR r o) : o = q := by
  unfold exI at e
  split at e
  · cases e
    exact h
  · rename_i a b
    split at e
    · rename_i c
      cases e
      obtain ⟨i, rfl, h1, h2⟩ := h
      congr 1
      omega
    · cases e
theorem cut_cap {α : Type} {xs : List α} {n : Nat} {r : Option (Int × Int)} {lo hi : Option Int} (h : inR r hi) (hl : xs.length ≤ n) : (cut xs lo hi).length ≤ capN n r := by
  have base := cut_le xs lo hi
  unfold capN
  split
  · rename_i l h'
    obtain ⟨i, rfl, h1, h2⟩ := h
    split
    · rename_i l0
      have : (cut xs lo (some i)).length ≤ i.toNat := by
        unfold cut
        rw [List.length_take]
        have : HT.sIx xs.length xs.length (some i) ≤ i.toNat := by
          show (if i < 0 then (i + (xs.length : Int)).toNat else min i.toNat xs.length) ≤ _
          rw [if_neg (by omega)]
          omega
        omega
      split <;> omega
    · omega
  · omega
def slS (s : Sq) (lo hi : Option (Int × Int)) : Sq := match s with
  | .ex xs => match exI lo, exI hi with
    | some l, some h => .ex (cut xs l h)
    | _, _ => .bd (cov xs) (capN xs.length hi)
  | .bd a n => .bd a (capN n hi)
def slA (x : A) (lo hi : Option (Int × Int)) : Option A := match asL x with
  | some s => some (mkL (slS s lo hi))
  | none => match asT x with
    | some s => some (mkT (slS s lo hi))
    | none => match conc x, exI lo, exI hi with
      | some d, some l, some h => oneR (slD d l h)
      | _, _, _ => match asStr x with
        | some n => some (.str (capN n hi))
        | none => none
section
variable {m : Mg} {u v : D} {x y a : A}
theorem slS_ok {s : Sq} {ds : List D} {rl rh : Option (Int × Int)} {lo hi : Option Int} (g : γq m s ds) (hl : inR rl lo) (hh : inR rh hi) : γq m (slS s rl rh) (cut ds lo hi) := by
  unfold slS
  split
  · rename_i xs
    split
    · rename_i l h e1 e2
      rw [exI_ok e1 hl, exI_ok e2 hh]
      exact γs_cut g l h
    · refine ⟨cut_cap hh (Nat.le_of_eq (γs_len g).symm), fun d hd => ?_⟩
      obtain ⟨b, hb, gb⟩ := γs_mem g d (cut_mem hd)
      exact cov_ok hb gb
  · exact ⟨cut_cap hh g.1, fun d hd => g.2 d (cut_mem hd)⟩
theorem slA_ok {rl rh : Option (Int × Int)} {lo hi : Option Int} (e : slA x rl rh = some a) (g : γ m x u) (hl : inR rl lo) (hh : inR rh hi) : ∃ z, slD u lo hi = .ok z ∧ γ m a z := by
  unfold slA at e
  split at e
  · rename_i s e1
    cases e
    obtain ⟨ds, rfl, p⟩ := asL_ok e1 g
    exact ⟨_, rfl, mkL_ok (slS_ok p hl hh)⟩
  · split at e
    · rename_i s e1
      cases e
      obtain ⟨ds, rfl, p⟩ := asT_ok e1 g
      exact ⟨_, rfl, mkT_ok (slS_ok p hl hh)⟩
    · split at e
      · rename_i d l h e1 e2 e3
        rw [conc_ok e1 g, exI_ok e2 hl, exI_ok e3 hh]
        exact oneR_ok e
      · split at e
        · rename_i n e1
          cases e
          obtain ⟨s, rfl, p1, p2⟩ := asStr_ok e1 g
          refine ⟨.str (mk (cut (cl s) lo hi)), rfl, ?_⟩
          unfold γ
          exact ⟨_, rfl, asc_sub p1 fun c hc => cut_mem hc, by rw [len_mk]; exact cut_cap hh (by rw [← len_cl]; exact p2)⟩
        · cases e
end
def revA (x : A) : Option A := match asL x with
  | some (.ex xs) => some (mkL (.ex xs.reverse))
  | some (.bd a n) => some (mkL (.bd a n))
  | none => none
theorem γs_rev {m : Mg} : ∀ {xs : List A} {ds : List D}, γs m xs ds → γs m xs.reverse ds.reverse
  | [], [], h => h
  | [], _ :: _, h => by unfold γs at h; exact h.elim
  | _ :: _, [], h => by unfold γs at h; exact h.elim
  | a :: as, d :: ds, h => by
    unfold γs at h
    rw [List.reverse_cons, List.reverse_cons]
    refine γs_app (γs_rev h.2) ?_
    unfold γs
    exact ⟨h.1, by simp [γs]⟩
theorem revA_ok {m : Mg} {x a : A} {u : D} (e : revA x = some a) (g : γ m x u) : ∃ z, revD u = .ok z ∧ γ m a z := by
  unfold revA at e
  split at e
  · rename_i xs e1
    cases e
    obtain ⟨ds, rfl, p⟩ := asL_ok e1 g
    exact ⟨_, rfl, mkL_ok (s := .ex _) (γs_rev p)⟩
  · rename_i b n e1
    cases e
    obtain ⟨ds, rfl, p⟩ := asL_ok e1 g
    exact ⟨_, rfl, mkL_ok (s := .bd b n) ⟨by rw [List.length_reverse]; exact p.1, fun d hd => p.2 d (List.mem_reverse.mp hd)⟩⟩
  · cases e
def lenA (x : A) : Option A := match sqOf x with
  | some (.ex xs) => some (.d (.int xs.length))
  | some (.bd _ n) => some (.int 0 n)
  | none => match conc x with
    | some d => oneR (lenD d)
    | none => match asStr x with
      | some n => some (.int 0 n)
      | none => none
theorem lenA_ok {m : Mg} {x a : A} {u : D} (e : lenA x = some a) (g : γ m x u) : ∃ z, lenD u = .ok z ∧ γ m a z := by
  unfold lenA at e
  split at e
  · rename_i xs e1
    cases e
    obtain ⟨ds, p, hu⟩ := sqOf_ok e1 g
    have := γs_len p
    refine ⟨.int ds.length, by rcases hu with rfl | rfl <;> rfl, ?_⟩
    unfold γ
    rw [this]
  · rename_i b n e1
    cases e
    obtain ⟨ds, p, hu⟩ := sqOf_ok e1 g
    have := p.1
    refine ⟨.int ds.length, by rcases hu with rfl | rfl <;> rfl, ?_⟩
    unfold γ
    exact ⟨_, rfl, by omega, by omega⟩
  · split at e
    · rename_i d e1
      rw [conc_ok e1 g]
      exact oneR_ok e
    · split at e
      · rename_i n e1
        cases e
        obtain ⟨s, rfl, p1, p2⟩ := asStr_ok e1 g
        refine ⟨.int s.length, rfl, ?_⟩
        unfold γ
        exact ⟨_, rfl, by omega, by omega⟩
      · cases e
def negA (x : A) : Option A := match asInt x with
  | some (a, b) => some (.int (-b) (-a))
  | none => none
theorem negA_ok {m : Mg} {x a : A} {u : D} (e : negA x = some a) (g : γ m x u) : ∃ z, negD u = .ok z ∧ γ m a z := by
  unfold negA at e
  split at e
  · rename_i l h e1
    cases e
    obtain ⟨i, rfl, i1, i2⟩ := asInt_ok e1 g
    exact ⟨.int (-i), rfl, by unfold γ; exact ⟨_, rfl, by omega, by omega⟩⟩
  · cases e
/-! all data of a list of sets, if each is one -/
def concA : List A → Option (List D)
  | [] => some []
  | a :: r => match conc a, concA r with
    | some x, some xs => some (x :: xs)
    | _, _ => none
theorem concA_ok {m : Mg} : ∀ {xs : List A} {ds es : List D}, concA xs = some ds → γs m xs es → es = ds
  | [], ds, [], e, _ => by cases e; rfl
  | [], _, _ :: _, _, h => by unfold γs at h; exact h.elim
  | _ :: _, _, [], _, h => by unfold γs at h; exact h.elim
  | a :: r, ds, y :: ys, e, h => by
    unfold γs at h
    unfold concA at e
    split at e
    · rename_i x xs e1 e2
      cases e
      rw [conc_ok e1 h.1, concA_ok e2 h.2]
    · cases e
/-- the bools of a list -/
def isB (a : A) : Bool := match strip a with
  | .bool => true
  | .d (.bool _) => true
  | .alt xs => xs.all fun b => match b with
    | .bool => true
    | .d (.bool _) => true
    | _ => false
  | _ => false
theorem isB_ok {m : Mg} {a : A} {v : D} (e : isB a = true) (g : γ m a v) : ∃ b, v = .bool b := by
  have g := strip_ok g
  unfold isB at e
  split at e
  · rename_i e1; rw [e1] at g; unfold γ at g; exact g
  · rename_i b e1; rw [e1] at g; unfold γ at g; exact ⟨b, g⟩
  · rename_i xs e1
    rw [e1] at g
    unfold γ at g
    obtain ⟨c, hc, g⟩ := γa_iff.mp g
    have := List.all_eq_true.mp e c hc
    split at this
    · unfold γ at g; exact g
    · rename_i b; unfold γ at g; exact ⟨b, g⟩
    · cases this
  · cases e
theorem bools_ok : ∀ {ds : List D}, (∀ d ∈ ds, ∃ b, d = .bool b) → ∃ bs, boolsOf ds = some bs ∧ ds = bs.map PyData.bool
  | [], _ => ⟨[], rfl, rfl⟩
  | d :: ds, h => by
    obtain ⟨b, rfl⟩ := h d (by simp)
    obtain ⟨bs, e, rfl⟩ := bools_ok fun e he => h e (List.mem_cons_of_mem _ he)
    refine ⟨b :: bs, ?_, rfl⟩
    show (boolsOf (bs.map PyData.bool)).map (b :: ·) = _
    rw [e]; rfl
def allT (a : A) : Bool := match conc a with
  | some (.bool true) => true
  | _ => false
def biA (f : BI) (as : List A) : Option A := match concA as with
  | some ds => oneR (biD f ds)
  | none => match f, as with
    | .max2, [x, y] => match asInt x, asInt y with
      | some (a, b), some (c, d) => some (.int (if a ≤ c then c else a) (if b ≤ d then d else b))
      | _, _ => none
    | .min2, [x, y] => match asInt x, asInt y with
      | some (a, b), some (c, d) => some (.int (if a ≤ c then a else c) (if b ≤ d then b else d))
      | _, _ => none
    | .alll, [x] => match asL x with
      | some s => if allT (bdOf s).1 then some (.d (.bool true)) else if isB (bdOf s).1 then some .bool else none
      | none => none
    | .anyy, [x] => match asL x with
      | some s => if isB (bdOf s).1 then some .bool else none
      | none => none
    | _, _ => none
theorem biA_ok {m : Mg} {f : BI} {as : List A} {a : A} {ds : List D} (e : biA f as = some a) (g : γs m as ds) : ∃ z, biD f ds = .ok z ∧ γ m a z := by
  unfold biA at e
  split at e
  · rename_i es e1
    rw [concA_ok e1 g]
    exact oneR_ok e
  · split at e
    · rename_i x y
      match ds, g with
      | [u, v], g =>
        unfold γs at g
        obtain ⟨g1, g2⟩ := g
        unfold γs at g2
        split at e
        · rename_i a b c d e1 e2
          cases e
          obtain ⟨i, rfl, i1, i2⟩ := asInt_ok e1 g1
          obtain ⟨j, rfl, j1, j2⟩ := asInt_ok e2 g2.1
          refine ⟨_, rfl, ?_⟩
          unfold γ
          refine ⟨_, rfl, ?_, ?_⟩ <;> (repeat' split) <;> omega
        · cases e
      | [], g => simp [γs] at g
      | [_], g => simp [γs] at g
      | _ :: _ :: _ :: _, g => simp [γs] at g
    · rename_i x y
      match ds, g with
      | [u, v], g =>
        unfold γs at g
        obtain ⟨g1, g2⟩ := g
        unfold γs at g2
        split at e
        · rename_i a b c d e1 e2
          cases e
          obtain ⟨i, rfl, i1, i2⟩ := asInt_ok e1 g1
          obtain ⟨j, rfl, j1, j2⟩ := asInt_ok e2 g2.1
          refine ⟨_, rfl, ?_⟩
          unfold γ
          refine ⟨_, rfl, ?_, ?_⟩ <;> (repeat' split) <;> omega
        · cases e
      | [], g => simp [γs] at g
      | [_], g => simp [γs] at g
      | _ :: _ :: _ :: _, g => simp [γs] at g
    · rename_i x
      match ds, g with
      | [u], g =>
        unfold γs at g
        split at e
        · rename_i s e1
          obtain ⟨es, rfl, p⟩ := asL_ok e1 g.1
          have mem := (bdOf_ok p).2
          split at e
          · rename_i ht
            cases e
            have : ∀ d ∈ es, d = .bool true := fun d hd => by
              unfold allT at ht
              split at ht
              · rename_i e2
                exact conc_ok e2 (mem d hd)
              · cases ht
            refine ⟨.bool true, ?_, by unfold γ; rfl⟩
            obtain ⟨bs, e2, e3⟩ := bools_ok fun d hd => ⟨true, this d hd⟩
            have all : bs.all id = true := List.all_eq_true.mpr fun b hb => by
              have := this (.bool b) (by rw [e3]; exact List.mem_map.mpr ⟨b, hb, rfl⟩)
              cases this
              rfl
            show opt (boolsOf es) _ = _
            rw [e2]
            show Rs.ok (PyData.bool (bs.all id)) = _
            rw [all]
          · split at e
            · rename_i hb
              cases e
              obtain ⟨bs, e2, _⟩ := bools_ok fun d hd => isB_ok hb (mem d hd)
              refine ⟨.bool (bs.all id), ?_, by unfold γ; exact ⟨_, rfl⟩⟩
              show opt (boolsOf es) _ = _
              rw [e2]; rfl
            · cases e
        · cases e
      | [], g => simp [γs] at g
      | _ :: _ :: _, g => simp [γs] at g
    · rename_i x
      match ds, g with
      | [u], g =>
        unfold γs at g
        split at e
        · rename_i s e1
          obtain ⟨es, rfl, p⟩ := asL_ok e1 g.1
          have mem := (bdOf_ok p).2
          split at e
          · rename_i hb
            cases e
            obtain ⟨bs, e2, _⟩ := bools_ok fun d hd => isB_ok hb (mem d hd)
            refine ⟨.bool (bs.any id), ?_, by unfold γ; exact ⟨_, rfl⟩⟩
            show opt (boolsOf es) _ = _
            rw [e2]; rfl
          · cases e
        · cases e
      | [], g => simp [γs] at g
      | _ :: _ :: _, g => simp [γs] at g
    · cases e
def tiA (f : TyI) (as : List A) : Option A := match concA as with
  | some ds => oneR (tiD f ds)
  | none => match f, as with
    | .int, [x] => if isB x then some (.int 0 1) else match asInt x with
      | some (a, b) => some (.int a b)
      | none => none
    | .list, [x] => (sqOf x).map mkL
    | .tuple, [x] => (sqOf x).map mkT
    | .str, [x] => (asStr x).map .str
    | _, _ => none
theorem tiA_ok {m : Mg} {f : TyI} {as : List A} {a : A} {ds : List D} (e : tiA f as = some a) (g : γs m as ds) : ∃ z, tiD f ds = .ok z ∧ γ m a z := by
  unfold tiA at e
  split at e
  · rename_i es e1
    rw [concA_ok e1 g]
    exact oneR_ok e
  · split at e
    · rename_i x
      match ds, g with
      | [u], g =>
        unfold γs at g
        split at e
        · rename_i hb
          cases e
          obtain ⟨b, rfl⟩ := isB_ok hb g.1
          refine ⟨_, rfl, ?_⟩
          unfold γ
          exact ⟨_, rfl, by split <;> omega, by split <;> omega⟩
        · split at e
          · rename_i e1
            cases e
            obtain ⟨i, rfl, h⟩ := asInt_ok e1 g.1
            exact ⟨_, rfl, by unfold γ; exact ⟨_, rfl, h⟩⟩
          · cases e
      | [], g => simp [γs] at g
      | _ :: _ :: _, g => simp [γs] at g
    · rename_i x
      match ds, g with
      | [u], g =>
        unfold γs at g
        obtain ⟨s, e1, rfl⟩ := Option.map_eq_some_iff.mp e
        obtain ⟨es, p, hu⟩ := sqOf_ok e1 g.1
        exact ⟨.list es, by rcases hu with rfl | rfl <;> rfl, mkL_ok p⟩
      | [], g => simp [γs] at g
      | _ :: _ :: _, g => simp [γs] at g
    · rename_i x
      match ds, g with
      | [u], g =>
        unfold γs at g
        obtain ⟨s, e1, rfl⟩ := Option.map_eq_some_iff.mp e
        obtain ⟨es, p, hu⟩ := sqOf_ok e1 g.1
        exact ⟨.tuple es, by rcases hu with rfl | rfl <;> rfl, mkT_ok p⟩
      | [], g => simp [γs] at g
      | _ :: _ :: _, g => simp [γs] at g
    · rename_i x
      match ds, g with
      | [u], g =>
        unfold γs at g
        obtain ⟨n, e1, rfl⟩ := Option.map_eq_some_iff.mp e
        obtain ⟨s, rfl, h⟩ := asStr_ok e1 g.1
        exact ⟨.str s, rfl, by unfold γ; exact ⟨s, rfl, h⟩⟩
      | [], g => simp [γs] at g
      | _ :: _ :: _, g => simp [γs] at g
    · cases e
end Ax

set_option Elab.async false
set_option linter.all false
set_option maxRecDepth 100000
/-! Methods, kinds, sets over sets of data. -/
namespace Ax
open PySem PySem.Spec L2 Pf

section
variable {m : Mg} {u v : D} {x y a : A}
theorem joinL_le {S : List Nat} : ∀ ps : List (List Nat), (TL.joinL S ps).length ≤ (ps.map List.length).sum + ps.length * S.length
  | [] => Nat.zero_le _
  | [p] => by
    show p.length ≤ _
    simp
  | p :: q :: r => by
    have ih := joinL_le (S := S) (q :: r)
    show (p ++ (S ++ TL.joinL S (q :: r))).length ≤ _
    rw [List.length_append, List.length_append, List.map_cons, List.sum_cons, List.length_cons, Nat.add_mul, Nat.one_mul]
    omega
theorem sum_le {l : List Nat} {k : Nat} (h : ∀ n ∈ l, n ≤ k) : l.sum ≤ l.length * k := by
  induction l with
  | nil => simp
  | cons n l ih =>
    have h1 := h n (by simp)
    have h2 := ih fun p hp => h p (List.mem_cons_of_mem _ hp)
    rw [List.sum_cons, List.length_cons, Nat.add_mul, Nat.one_mul]
    omega
theorem strs_all : ∀ {ds : List D}, (∀ d ∈ ds, ∃ s, d = .str s) → ∃ ss, strsOf ds = some ss ∧ ds = ss.map PyData.str
  | [], _ => ⟨[], rfl, rfl⟩
  | d :: ds, h => by
    obtain ⟨s, rfl⟩ := h d (by simp)
    obtain ⟨ss, e, rfl⟩ := strs_all fun e he => h e (List.mem_cons_of_mem _ he)
    refine ⟨s :: ss, ?_, rfl⟩
    show (strsOf (ss.map PyData.str)).map (s :: ·) = _
    rw [e]; rfl
theorem part_len {a b : Str} : (partS a b).1.length ≤ a.length ∧ (partS a b).2.1.length ≤ b.length ∧ (partS a b).2.2.length ≤ a.length := by
  unfold partS
  split
  · rename_i p q e
    obtain ⟨h1, h2, h3, h4⟩ := par_some e
    rw [len_cl a]
    refine ⟨by rw [len_mk]; simpa using h3, Nat.le_refl _, by rw [len_mk]; exact h4⟩
  · exact ⟨Nat.le_refl _, Nat.zero_le _, Nat.zero_le _⟩
theorem split_len {a b : Str} : ∀ x ∈ splitS a b, x.length ≤ a.length := fun x hx => by
  obtain ⟨p, hp, rfl⟩ := List.mem_map.mp hx
  have := spl_len hp
  rw [len_mk, len_cl a]
  simpa using this
end
def sepOf (y : A) : Option Str := match conc y with
  | some (.str b) => if asc b = true ∧ (b.length == 0) = false ∧ b.length ≤ 1000 then some b else none
  | _ => none
theorem sepOf_ok {m : Mg} {y : A} {v : D} {b : Str} (e : sepOf y = some b) (g : γ m y v) : v = .str b ∧ asc b = true ∧ (b.length == 0) = false ∧ b.length ≤ 1000 := by
  unfold sepOf at e
  split at e
  · rename_i c e1
    split at e
    · rename_i h
      cases e
      exact ⟨conc_ok e1 g, h⟩
    · cases e
  · cases e
def miA (f : MI) (x : A) (as : List A) : Option A := match conc x, concA as with
  | some d, some ds => match d with
    | .str s => oneR (miD f (.str s) ds)
    | _ => none
  | _, _ => match f, as with
    | .split, [y] => match asStr x, sepOf y with
      | some n, some _ => if n + 1 ≤ LIM then some (.lst (.str n) (n + 1)) else none
      | _, _ => none
    | .partition, [y] => match asStr x, sepOf y with
      | some n, some b => if n ≤ LIM then some (.tp [.str n, .str b.length, .str n]) else none
      | _, _ => none
    | .join, [y] => match conc x, sqOf y with
      | some (.str a), some s => match asStr (bdOf s).1 with
        | some k => if asc a = true ∧ (bdOf s).2 * k + (bdOf s).2 * a.length ≤ LIM then some (.str ((bdOf s).2 * k + (bdOf s).2 * a.length)) else none
        | none => none
      | _, _ => none
    | .startswith, [y] => match asStr x, asStr y with
      | some _, some _ => some .bool
      | _, _ => none
    | .endswith, [y] => match asStr x, asStr y with
      | some _, some _ => some .bool
      | _, _ => none
    | _, _ => none
theorem miA_ok {m : Mg} {f : MI} {x a : A} {as : List A} {u : D} {ds : List D} (e : miA f x as = some a) (g : γ m x u) (h : γs m as ds) : ∃ s z, u = .str s ∧ miD f (.str s) ds = .ok z ∧ γ m a z := by
  unfold miA at e
  split at e
  · rename_i d es e1 e2
    rw [concA_ok e2 h]
    have := conc_ok e1 g
    subst this
    split at e
    · rename_i s
      obtain ⟨z, h1, h2⟩ := oneR_ok (m := m) e
      exact ⟨s, z, rfl, h1, h2⟩
    · cases e
  · split at e
    · rename_i y
      match ds, h with
      | [v], h =>
        unfold γs at h
        split at e
        · rename_i n b e1 e2
          split at e
          · rename_i hn
            cases e
            obtain ⟨s, rfl, p1, p2⟩ := asStr_ok e1 g
            obtain ⟨rfl, q1, q2, q3⟩ := sepOf_ok e2 h.1
            refine ⟨s, .list ((splitS s b).map .str), rfl, ?_, ?_⟩
            · show (if (b.length == 0) = false ∧ s.length + 1 ≤ LIM then Rs.ok (PyData.list ((splitS s b).map .str)) else .bad) = _
              rw [if_pos ⟨q2, by omega⟩]
            · unfold γ
              refine ⟨_, rfl, ?_, fun d hd => ?_⟩
              · rw [List.length_map]
                unfold splitS
                rw [List.length_map]
                have := spl_count (S := cl b) (k := 0) (acc := []) (l := cl s)
                rw [len_cl] at p2
                omega
              · obtain ⟨t, ht, rfl⟩ := List.mem_map.mp hd
                have h1 := split_ok p1 (Nat.le_trans p2 (by omega)) t ht
                have h2 := split_len t ht
                unfold γ
                exact ⟨t, rfl, h1.1, by omega⟩
          · cases e
        · cases e
      | [], h => simp [γs] at h
      | _ :: _ :: _, h => simp [γs] at h
    · rename_i y
      match ds, h with
      | [v], h =>
        unfold γs at h
        split at e
        · rename_i n b e1 e2
          split at e
          · rename_i hn
            cases e
            obtain ⟨s, rfl, p1, p2⟩ := asStr_ok e1 g
            obtain ⟨rfl, q1, q2, q3⟩ := sepOf_ok e2 h.1
            obtain ⟨k1, k2, k3⟩ := part_ok p1 (Nat.le_trans p2 hn) q1 (Nat.le_trans q3 (by show 1000 ≤ 1000000; omega))
            obtain ⟨l1, l2, l3⟩ := part_len (a := s) (b := b)
            refine ⟨s, .tuple [.str (partS s b).1, .str (partS s b).2.1, .str (partS s b).2.2], rfl, ?_, ?_⟩
            · show (if (b.length == 0) = false then Rs.ok _ else .bad) = _
              rw [if_pos q2]
            · unfold γ
              refine ⟨_, rfl, ?_⟩
              simp only [γs, γ, and_true]
              exact ⟨⟨_, rfl, k1.1, by omega⟩, ⟨_, rfl, k2.1, l2⟩, ⟨_, rfl, k3.1, by omega⟩⟩
          · cases e
        · cases e
      | [], h => simp [γs] at h
      | _ :: _ :: _, h => simp [γs] at h
    · rename_i y
      match ds, h with
      | [v], h =>
        unfold γs at h
        split at e
        · rename_i c s e1 e2
          split at e
          · rename_i k e3
            split at e
            · rename_i hh
              cases e
              obtain ⟨hc, hl⟩ := hh
              have := conc_ok e1 g
              subst this
              obtain ⟨es, p, hv⟩ := sqOf_ok e2 h.1
              obtain ⟨b1, b2⟩ := bdOf_ok p
              obtain ⟨ss, e4, e5⟩ := strs_all fun d hd => let ⟨t, ht, _⟩ := asStr_ok e3 (b2 d hd); ⟨t, ht⟩
              have each : ∀ t ∈ ss, asc t = true ∧ t.length ≤ k := fun t ht => by
                obtain ⟨t', q1, q2, q3⟩ := asStr_ok e3 (b2 (.str t) (by rw [e5]; exact List.mem_map.mpr ⟨t, ht, rfl⟩))
                cases q1
                exact ⟨q2, q3⟩
              have len : ss.length = es.length := by rw [e5, List.length_map]
              have s1 : (ss.map (·.length)).sum ≤ ss.length * k := by
                have := sum_le (l := ss.map (·.length)) (k := k) fun n hn => by
                  obtain ⟨t, ht, rfl⟩ := List.mem_map.mp hn
                  exact (each t ht).2
                rwa [List.length_map] at this
              have m1 : ss.length * k ≤ (bdOf s).2 * k := Nat.mul_le_mul_right _ (by omega)
              have m2 : ss.length * c.length ≤ (bdOf s).2 * c.length := Nat.mul_le_mul_right _ (by omega)
              have jl : (joinS c ss).length ≤ (bdOf s).2 * k + (bdOf s).2 * c.length := by
                have := joinL_le (S := cl c) (ss.map cl)
                unfold joinS
                rw [len_mk]
                rw [List.map_map, List.length_map, ← len_cl c] at this
                have e6 : (ss.map (List.length ∘ cl)).sum = (ss.map (·.length)).sum := by
                  congr 1
                rw [e6] at this
                omega
              have lim : LIM = 1000000 := rfl
              have main : ((opt (strsOf es) id).bind fun ys => if (joinS c ys).length ≤ LIM ∧ (ys.map (·.length)).sum + ys.length * c.length ≤ 16777216 then Rs.ok (PyData.str (joinS c ys)) else .bad) = .ok (.str (joinS c ss)) := by
                rw [e4]
                show (if (joinS c ss).length ≤ LIM ∧ (ss.map (·.length)).sum + ss.length * c.length ≤ 16777216 then Rs.ok (PyData.str (joinS c ss)) else .bad) = _
                rw [if_pos ⟨by omega, by omega⟩]
              refine ⟨c, .str (joinS c ss), rfl, ?_, by unfold γ; exact ⟨_, rfl, join_asc hc fun t ht => (each t ht).1, jl⟩⟩
              rcases hv with rfl | rfl
              · exact main
              · exact main
            · cases e
          · cases e
        · cases e
      | [], h => simp [γs] at h
      | _ :: _ :: _, h => simp [γs] at h
    · rename_i y
      match ds, h with
      | [v], h =>
        unfold γs at h
        split at e
        · rename_i e1 e2
          cases e
          obtain ⟨s, rfl, _⟩ := asStr_ok e1 g
          obtain ⟨t, rfl, _⟩ := asStr_ok e2 h.1
          exact ⟨s, _, rfl, rfl, by unfold γ; exact ⟨_, rfl⟩⟩
        · cases e
      | [], h => simp [γs] at h
      | _ :: _ :: _, h => simp [γs] at h
    · rename_i y
      match ds, h with
      | [v], h =>
        unfold γs at h
        split at e
        · rename_i e1 e2
          cases e
          obtain ⟨s, rfl, _⟩ := asStr_ok e1 g
          obtain ⟨t, rfl, _⟩ := asStr_ok e2 h.1
          exact ⟨s, _, rfl, rfl, by unfold γ; exact ⟨_, rfl⟩⟩
        · cases e
      | [], h => simp [γs] at h
      | _ :: _ :: _, h => simp [γs] at h
    · cases e
def mzA (f : MZ) (x : A) : Option A := match conc x with
  | some (.str s) => oneR (mzD f s)
  | some _ => none
  | none => (asStr x).map .str
theorem mzA_ok {m : Mg} {f : MZ} {x a : A} {u : D} (e : mzA f x = some a) (g : γ m x u) : ∃ z, (strR u).bind (mzD f) = .ok z ∧ γ m a z := by
  unfold mzA at e
  split at e
  · rename_i s e1
    rw [conc_ok e1 g]
    exact oneR_ok e
  · cases e
  · obtain ⟨n, e1, rfl⟩ := Option.map_eq_some_iff.mp e
    obtain ⟨s, rfl, p1, p2⟩ := asStr_ok e1 g
    cases f
    exact ⟨.str (upS s), rfl, by unfold γ; exact ⟨_, rfl, up_asc p1, by rw [up_len]; exact p2⟩⟩
def repA (x : A) (y z : Str) : Option A := match conc x with
  | some d => oneR (repD d y z)
  | none => match asStr x with
    | some n => if 1 ≤ y.length ∧ (y == z) = false ∧ n * (z.length + 1) ≤ LIM ∧ n + (n + 1) * z.length ≤ 16777216 ∧ asc z = true then some (.str (n * (z.length + 1))) else none
    | none => none
theorem repA_ok {m : Mg} {x a : A} {y z : Str} {u : D} (e : repA x y z = some a) (g : γ m x u) : ∃ w, repD u y z = .ok w ∧ γ m a w := by
  unfold repA at e
  split at e
  · rename_i d e1
    rw [conc_ok e1 g]
    exact oneR_ok e
  · split at e
    · rename_i n e1
      split at e
      · rename_i h
        cases e
        obtain ⟨s, rfl, p1, p2⟩ := asStr_ok e1 g
        obtain ⟨h1, h2, h3, h4, h5⟩ := h
        have m1 : s.length * (z.length + 1) ≤ n * (z.length + 1) := Nat.mul_le_mul_right _ p2
        have m2 : (s.length + 1) * z.length ≤ (n + 1) * z.length := Nat.mul_le_mul_right _ (by omega)
        refine ⟨.str (repS s y z), ?_, by unfold γ; exact ⟨_, rfl, rep_asc p1 h5, Nat.le_trans (rep_len s y z) m1⟩⟩
        show (if 1 ≤ y.length ∧ (y == z) = false ∧ s.length * (z.length + 1) ≤ LIM ∧ s.length + (s.length + 1) * z.length ≤ 16777216 then Rs.ok (PyData.str (repS s y z)) else .bad) = _
        rw [if_pos ⟨h1, h2, by omega, by omega⟩]
      · cases e
    · cases e
def isaN : TyN → Nat → Bool
  | .str, k => k == 3
  | .int, k => k == 2 || k == 1
  | .bool, k => k == 1
  | .list, k => k == 4
  | .tuple, k => k == 5
  | .dict, k => k == 6
theorem isaN_ok (T : TyN) (d : D) : isaK T (kd d) = isaN T (kn d) := by cases T <;> cases d <;> rfl
def isaA (T : TyN) (x : A) : A := match kdA x with
  | some k => .d (.bool (isaN T k))
  | none => .bool
def isa2A (T U : TyN) (x : A) : A := match kdA x with
  | some k => .d (.bool (isaN T k || isaN U k))
  | none => .bool
theorem isaA_ok {m : Mg} {T : TyN} {x : A} {u : D} (g : γ m x u) : γ m (isaA T x) (.bool (isaK T (kd u))) := by
  unfold isaA
  split
  · rename_i k e
    unfold γ
    rw [isaN_ok, kdA_ok e g]
  · unfold γ
    exact ⟨_, rfl⟩
theorem isa2A_ok {m : Mg} {T U : TyN} {x : A} {u : D} (g : γ m x u) : γ m (isa2A T U x) (.bool (isaK T (kd u) || isaK U (kd u))) := by
  unfold isa2A
  split
  · rename_i k e
    unfold γ
    rw [isaN_ok, isaN_ok, kdA_ok e g]
  · unfold γ
    exact ⟨_, rfl⟩
/-- ints or texts -/
def isKey (a : A) : Bool := isI a || (asStr a).isSome
theorem isKey_ok {m : Mg} {a : A} {v : D} (e : isKey a = true) (g : γ m a v) : ∃ k, keyO v = some k := by
  unfold isKey at e
  rw [Bool.or_eq_true] at e
  rcases e with e | e
  · obtain ⟨i, rfl⟩ := isI_ok e g
    exact ⟨_, rfl⟩
  · cases q : asStr a with
    | none => rw [q] at e; cases e
    | some n =>
      obtain ⟨s, rfl, _⟩ := asStr_ok q g
      exact ⟨_, rfl⟩
theorem keys_all : ∀ {ds : List D}, (∀ d ∈ ds, ∃ k, keyO d = some k) → ∃ ks, keysO ds = some ks ∧ ks.length = ds.length
  | [], _ => ⟨[], rfl, rfl⟩
  | d :: ds, h => by
    obtain ⟨k, e1⟩ := h d (by simp)
    obtain ⟨ks, e2, e3⟩ := keys_all fun e he => h e (List.mem_cons_of_mem _ he)
    refine ⟨k :: ks, ?_, by rw [List.length_cons, List.length_cons, e3]⟩
    unfold keysO
    rw [e1, e2]
def lsA (x : A) : Option A := match conc x with
  | some d => match setD d with
    | .ok ks => some (.d (.int ks.length))
    | _ => none
  | none => match asL x with
    | some s => if isKey (bdOf s).1 = true ∧ (bdOf s).2 ≤ 4000 then some (.int 0 (bdOf s).2) else none
    | none => none
theorem lsA_ok {m : Mg} {x a : A} {u : D} (e : lsA x = some a) (g : γ m x u) : ∃ ks, setD u = .ok ks ∧ γ m a (.int ks.length) := by
  unfold lsA at e
  split at e
  · rename_i d e1
    rw [conc_ok e1 g]
    split at e
    · rename_i ks e2
      cases e
      exact ⟨ks, e2, by unfold γ; rfl⟩
    · cases e
  · split at e
    · rename_i s e1
      split at e
      · rename_i h
        cases e
        obtain ⟨ds, rfl, p⟩ := asL_ok e1 g
        obtain ⟨b1, b2⟩ := bdOf_ok p
        obtain ⟨ks, e2, e3⟩ := keys_all fun d hd => isKey_ok h.1 (b2 d hd)
        refine ⟨met ks, ?_, ?_⟩
        · show (match keysO ds with
            | some ks => if ks.length ≤ 4000 then Rs.ok (met ks) else .bad
            | none => .bad) = _
          rw [e2]
          show (if ks.length ≤ 4000 then Rs.ok (met ks) else .bad) = _
          rw [if_pos (by omega)]
        · have := met_len ks
          unfold γ
          exact ⟨_, rfl, by omega, by omega⟩
      · cases e
    · cases e
end Ax

set_option Elab.async false
set_option linter.all false
set_option maxRecDepth 100000
/-! Outcomes that may be, states, and when two are the same. -/
namespace Ax
open PySem PySem.Spec L2 Pf

inductive Ro (α : Type) where
  | ok (a : α)
  | ex (c f : Str) (a : A)
def Γr {α δ : Type} (m : Mg) (R : α → δ → Prop) : Ro α → Rs δ → Prop
  | .ok a, .ok d => R a d
  | .ex c f a, .ex e => e.cls = c ∧ e.attr = f ∧ γ m a e.val
  | _, _ => False
abbrev Os (α : Type) := Option (List (Ro α))
def Sat {α δ : Type} (m : Mg) (R : α → δ → Prop) (r : Os α) (w : Rs δ) : Prop := ∀ os, r = some os → ∃ o ∈ os, Γr m R o w
def seqB {α β : Type} (k : α → Os β) : List (Ro α) → Os β
  | [] => some []
  | .ok a :: r => match k a, seqB k r with
    | some xs, some ys => some (xs ++ ys)
    | _, _ => none
  | .ex c f a :: r => match seqB k r with
    | some ys => some (.ex c f a :: ys)
    | none => none
def bnd {α β : Type} (r : Os α) (k : α → Os β) : Os β := match r with
  | some os => seqB k os
  | none => none
section
variable {α β δ ε : Type} {m : Mg} {R : α → δ → Prop} {S : β → ε → Prop}
theorem seqB_ok {k : α → Os β} {w : Rs δ} {g : δ → Rs ε} (hk : ∀ a d, R a d → w = .ok d → Sat m S (k a) (g d)) : ∀ {os : List (Ro α)} {ps : List (Ro β)}, seqB k os = some ps → (∃ o ∈ os, Γr m R o w) → ∃ p ∈ ps, Γr m S p (w.bind g)
  | [], _, _, h => by obtain ⟨o, ho, _⟩ := h; cases ho
  | .ok a :: r, ps, e, h => by
    unfold seqB at e
    split at e
    · rename_i xs ys e1 e2
      cases e
      obtain ⟨o, ho, q⟩ := h
      rcases List.mem_cons.mp ho with rfl | ho
      · cases w with
        | ok d =>
          obtain ⟨p, hp, z⟩ := hk a d q rfl xs e1
          exact ⟨p, List.mem_append_left _ hp, z⟩
        | ex e => exact q.elim
        | bad => exact q.elim
      · obtain ⟨p, hp, z⟩ := seqB_ok hk e2 ⟨o, ho, q⟩
        exact ⟨p, List.mem_append_right _ hp, z⟩
    · cases e
  | .ex c f a :: r, ps, e, h => by
    unfold seqB at e
    split at e
    · rename_i ys e2
      cases e
      obtain ⟨o, ho, q⟩ := h
      rcases List.mem_cons.mp ho with rfl | ho
      · cases w with
        | ok d => exact q.elim
        | ex e => exact ⟨.ex c f a, List.mem_cons_self, (q : _ ∧ _)⟩
        | bad => exact q.elim
      · obtain ⟨p, hp, z⟩ := seqB_ok hk e2 ⟨o, ho, q⟩
        exact ⟨p, List.mem_cons_of_mem _ hp, z⟩
    · cases e
theorem Sat.bnd {r : Os α} {k : α → Os β} {w : Rs δ} {g : δ → Rs ε} (h : Sat m R r w) (hk : ∀ a d, R a d → w = .ok d → Sat m S (k a) (g d)) : Sat m S (Ax.bnd r k) (w.bind g) := by
  intro ps e
  cases r with
  | some os => exact seqB_ok hk e (h os rfl)
  | none => cases e
def ret {α : Type} (a : α) : Os α := some [.ok a]
theorem sat_ret {a : α} {d : δ} (h : R a d) : Sat m R (ret a) (.ok d) := fun os e => by
  cases e
  exact ⟨.ok a, List.mem_cons_self, h⟩
def lift {α : Type} (o : Option α) : Os α := o.map fun a => [.ok a]
theorem sat_lift {o : Option α} {w : Rs δ} (h : ∀ a, o = some a → ∃ d, w = .ok d ∧ R a d) : Sat m R (lift o) w := fun os e => by
  obtain ⟨a, e1, rfl⟩ := Option.map_eq_some_iff.mp e
  obtain ⟨d, rfl, q⟩ := h a e1
  exact ⟨.ok a, List.mem_cons_self, q⟩
def many {α : Type} (o : Option (List α)) : Os α := o.map fun as => as.map .ok
theorem sat_many {o : Option (List α)} {w : Rs δ} (h : ∀ as, o = some as → ∃ a ∈ as, ∃ d, w = .ok d ∧ R a d) : Sat m R (many o) w := fun os e => by
  obtain ⟨as, e1, rfl⟩ := Option.map_eq_some_iff.mp e
  obtain ⟨a, ha, d, rfl, q⟩ := h as e1
  exact ⟨.ok a, List.mem_map.mpr ⟨a, ha, rfl⟩, q⟩
end
/-- all of them are values -/
def oks {α : Type} : List (Ro α) → Option (List α)
  | [] => some []
  | .ok a :: r => (oks r).map (a :: ·)
  | .ex .. :: _ => none
theorem oks_ok {α δ : Type} {m : Mg} {R : α → δ → Prop} {w : Rs δ} : ∀ {os : List (Ro α)} {as : List α}, oks os = some as → (∃ o ∈ os, Γr m R o w) → ∃ a ∈ as, ∃ d, w = .ok d ∧ R a d
  | [], _, _, h => by obtain ⟨o, ho, _⟩ := h; cases ho
  | .ok a :: r, as, e, h => by
    unfold oks at e
    obtain ⟨bs, e1, rfl⟩ := Option.map_eq_some_iff.mp e
    obtain ⟨o, ho, q⟩ := h
    rcases List.mem_cons.mp ho with rfl | ho
    · cases w with
      | ok d => exact ⟨a, by simp, d, rfl, q⟩
      | ex e => exact q.elim
      | bad => exact q.elim
    · obtain ⟨b, hb, z⟩ := oks_ok e1 ⟨o, ho, q⟩
      exact ⟨b, List.mem_cons_of_mem _ hb, z⟩
  | .ex .. :: _, _, e, _ => by cases e
def tst (a : A) : Option (List Bool) := match conc a with
  | some (.bool b) => some [b]
  | some _ => none
  | none => if isB a then some bth else none
theorem tst_ok {m : Mg} {a : A} {d : D} (g : γ m a d) : Sat m (fun (b c : Bool) => b = c) (many (tst a)) (asB d) := sat_many fun bs e => by
  unfold tst at e
  split at e
  · rename_i b e1
    cases e
    rw [conc_ok e1 g]
    exact ⟨b, by simp, b, rfl, rfl⟩
  · cases e
  · split at e
    · rename_i h
      cases e
      obtain ⟨b, rfl⟩ := isB_ok h g
      exact ⟨b, bth_ok b, b, rfl, rfl⟩
    · cases e
/-! states -/
inductive AS where
  | un
  | pd (a : A)
  | ow (s : Sq)
  | xc (c f : Str) (a : A)
abbrev AE := List AS
def γS (m : Mg) : AS → Option SV → Prop
  | .un, t => isX t = false
  | .pd a, some (.pd d) => γ m a d
  | .ow s, some (.own ds) => γq m s ds
  | .xc c f a, some (.exc e) => e.cls = c ∧ e.attr = f ∧ γ m a e.val
  | _, _ => False
def γE (m : Mg) (σ : AE) (ρ : Sto) : Prop := σ.length = ρ.length ∧ ∀ (i : Nat) (s : AS), σ[i]? = some s → ∃ t, ρ[i]? = some t ∧ γS m s t
section
variable {m : Mg} {σ : AE} {ρ : Sto}
theorem γE.set (h : γE m σ ρ) {i : Nat} {s : AS} {t : Option SV} (g : γS m s t) : γE m (σ.set i s) (ρ.set i t) := by
  refine ⟨by rw [List.length_set, List.length_set]; exact h.1, fun j s' e => ?_⟩
  by_cases hj : i = j
  · subst hj
    rw [List.getElem?_set_self'] at e ⊢
    cases q : σ[i]? with
    | none => rw [q] at e; cases e
    | some x =>
      rw [q] at e
      cases e
      obtain ⟨t', e2, _⟩ := h.2 i x q
      rw [e2]
      exact ⟨t, rfl, g⟩
  · rw [List.getElem?_set_ne hj] at e ⊢
    exact h.2 j s' e
/-- forget slot i -/
def unA (σ : AE) (i : Nat) : AE := match σ[i]? with
  | some (.xc ..) => σ
  | _ => σ.set i .un
theorem γE.un (h : γE m σ ρ) (i : Nat) : γE m (unA σ i) ρ := by
  unfold unA
  split
  · exact h
  · rename_i hx
    refine ⟨by rw [List.length_set]; exact h.1, fun j s' e => ?_⟩
    by_cases hj : i = j
    · subst hj
      rw [List.getElem?_set_self'] at e
      cases q : σ[i]? with
      | none => rw [q] at e; cases e
      | some x =>
        rw [q] at e
        cases e
        obtain ⟨t', e2, g⟩ := h.2 i x q
        refine ⟨t', e2, ?_⟩
        show isX t' = false
        cases x with
        | un => exact g
        | pd a =>
          cases t' with
          | none => rfl
          | some s => cases s <;> first | rfl | exact g.elim
        | ow s =>
          cases t' with
          | none => rfl
          | some s => cases s <;> first | rfl | exact g.elim
        | xc c f a => exact absurd q (hx c f a)
    · rw [List.getElem?_set_ne hj] at e
      exact h.2 j s' e
end
def getA (σ : AE) (i : Nat) : Option A := match σ[i]? with
  | some (.pd a) => some a
  | _ => none
def getOA (σ : AE) (i : Nat) : Option A := match σ[i]? with
  | some (.ow s) => if (bdOf s).2 ≤ LIM then some (mkL s) else none
  | _ => none
theorem getA_ok {m : Mg} {σ : AE} {ρ : Sto} {i : Nat} {a : A} (h : γE m σ ρ) (e : getA σ i = some a) : ∃ d, getP ρ i = .ok d ∧ γ m a d := by
  unfold getA at e
  split at e
  · rename_i b e1
    cases e
    obtain ⟨t, e2, g⟩ := h.2 i _ e1
    cases t with
    | none => exact g.elim
    | some s =>
      cases s with
      | pd d =>
        refine ⟨d, ?_, g⟩
        unfold getP
        rw [e2]
      | own xs => exact g.elim
      | exc e => exact g.elim
  · cases e
theorem getOw_ok {m : Mg} {σ : AE} {ρ : Sto} {i : Nat} {s : Sq} (h : γE m σ ρ) (e : σ[i]? = some (.ow s)) : ∃ ds, ρ[i]? = some (some (.own ds)) ∧ γq m s ds := by
  obtain ⟨t, e2, g⟩ := h.2 i _ e
  cases t with
  | none => exact g.elim
  | some s' =>
    cases s' with
    | own ds => exact ⟨ds, e2, g⟩
    | pd d => exact g.elim
    | exc e => exact g.elim
theorem getOA_ok {m : Mg} {σ : AE} {ρ : Sto} {i : Nat} {a : A} (h : γE m σ ρ) (e : getOA σ i = some a) : ∃ d, getO ρ i = .ok d ∧ γ m a d := by
  unfold getOA at e
  split at e
  · rename_i s e1
    split at e
    · rename_i hl
      cases e
      obtain ⟨ds, e2, g⟩ := getOw_ok h e1
      refine ⟨.list ds, ?_, mkL_ok g⟩
      unfold getO
      rw [e2]
      show (if ds.length ≤ LIM then Rs.ok (PyData.list ds) else .bad) = _
      rw [if_pos (Nat.le_trans (sq_len g) hl)]
    · cases e
  · cases e
/-! the same -/
mutual
def deq : D → D → Bool
  | .none, .none => true
  | .bool a, .bool b => a == b
  | .int i, .int j => i == j
  | .str x, .str y => x == y
  | .list xs, .list ys => deqs xs ys
  | .tuple xs, .tuple ys => deqs xs ys
  | .dict [], .dict [] => true
  | _, _ => false
def deqs : List D → List D → Bool
  | [], [] => true
  | x :: xs, y :: ys => deq x y && deqs xs ys
  | _, _ => false
end
mutual
theorem deq_ok : ∀ {x y : D}, deq x y = true → x = y
  | .none, y, h => by cases y <;> first | rfl | (unfold deq at h; cases h)
  | .bool a, y, h => by
    cases y <;> first | (unfold deq at h; cases h; done) | skip
    unfold deq at h
    rw [eq_of_beq h]
  | .int i, y, h => by
    cases y <;> first | (unfold deq at h; cases h; done) | skip
    unfold deq at h
    rw [eq_of_beq h]
  | .str x, y, h => by
    cases y <;> first | (unfold deq at h; cases h; done) | skip
    unfold deq at h
    rw [eq_of_beq h]
  | .list xs, y, h => by
    cases y <;> first | (unfold deq at h; cases h; done) | skip
    unfold deq at h
    rw [deqs_ok h]
  | .tuple xs, y, h => by
    cases y <;> first | (unfold deq at h; cases h; done) | skip
    unfold deq at h
    rw [deqs_ok h]
  | .dict [], y, h => by
    cases y <;> first | (unfold deq at h; cases h; done) | skip
    rename_i k
    cases k with
    | nil => rfl
    | cons p k => unfold deq at h; cases h
  | .dict (_ :: _), y, h => by cases y <;> (unfold deq at h; cases h)
theorem deqs_ok : ∀ {xs ys : List D}, deqs xs ys = true → xs = ys
  | [], [], _ => rfl
  | [], _ :: _, h => by unfold deqs at h; cases h
  | _ :: _, [], h => by unfold deqs at h; cases h
  | x :: xs, y :: ys, h => by
    unfold deqs at h
    rw [Bool.and_eq_true] at h
    rw [deq_ok h.1, deqs_ok h.2]
end
mutual
def aeq : A → A → Bool
  | .d x, .d y => deq x y
  | .int a b, .int c d => a == c && b == d
  | .any, .any => true
  | .bool, .bool => true
  | .str n, .str k => n == k
  | .lst a n, .lst b k => n == k && aeq a b
  | .tpl a n, .tpl b k => n == k && aeq a b
  | .ls xs, .ls ys => aeqs xs ys
  | .tp xs, .tp ys => aeqs xs ys
  | .alt xs, .alt ys => aeqs xs ys
  | .q p b a, .q p' b' a' => p == p' && b == b' && aeq a a'
  | .tm k n a, .tm k' n' a' => k == k' && n == n' && aeq a a'
  | _, _ => false
def aeqs : List A → List A → Bool
  | [], [] => true
  | x :: xs, y :: ys => aeq x y && aeqs xs ys
  | _, _ => false
end
mutual
theorem aeq_ok : ∀ {x y : A}, aeq x y = true → x = y
  | .d a, y, h => by
    cases y <;> first | (unfold aeq at h; cases h; done) | skip
    unfold aeq at h
    rw [deq_ok h]
  | .int a b, y, h => by
    cases y <;> first | (unfold aeq at h; cases h; done) | skip
    unfold aeq at h
    simp only [Bool.and_eq_true, beq_iff_eq] at h
    rw [h.1, h.2]
  | .any, y, h => by cases y <;> first | rfl | (unfold aeq at h; cases h)
  | .bool, y, h => by cases y <;> first | rfl | (unfold aeq at h; cases h)
  | .str n, y, h => by
    cases y <;> first | (unfold aeq at h; cases h; done) | skip
    unfold aeq at h
    rw [eq_of_beq h]
  | .lst a n, y, h => by
    cases y <;> first | (unfold aeq at h; cases h; done) | skip
    unfold aeq at h
    simp only [Bool.and_eq_true, beq_iff_eq] at h
    rw [h.1, aeq_ok h.2]
  | .tpl a n, y, h => by
    cases y <;> first | (unfold aeq at h; cases h; done) | skip
    unfold aeq at h
    simp only [Bool.and_eq_true, beq_iff_eq] at h
    rw [h.1, aeq_ok h.2]
  | .ls xs, y, h => by
    cases y <;> first | (unfold aeq at h; cases h; done) | skip
    unfold aeq at h
    rw [aeqs_ok h]
  | .tp xs, y, h => by
    cases y <;> first | (unfold aeq at h; cases h; done) | skip
    unfold aeq at h
    rw [aeqs_ok h]
  | .alt xs, y, h => by
    cases y <;> first | (unfold aeq at h; cases h; done) | skip
    unfold aeq at h
    rw [aeqs_ok h]
  | .q p b a, y, h => by
    cases y <;> first | (unfold aeq at h; cases h; done) | skip
    unfold aeq at h
    simp only [Bool.and_eq_true, beq_iff_eq] at h
    rw [h.1.1, h.1.2, aeq_ok h.2]
  | .tm k n a, y, h => by
    cases y <;> first | (unfold aeq at h; cases h; done) | skip
    unfold aeq at h
    simp only [Bool.and_eq_true, beq_iff_eq] at h
    rw [h.1.1, h.1.2, aeq_ok h.2]
theorem aeqs_ok : ∀ {xs ys : List A}, aeqs xs ys = true → xs = ys
  | [], [], _ => rfl
  | [], _ :: _, h => by unfold aeqs at h; cases h
  | _ :: _, [], h => by unfold aeqs at h; cases h
  | x :: xs, y :: ys, h => by
    unfold aeqs at h
    rw [Bool.and_eq_true] at h
    rw [aeq_ok h.1, aeqs_ok h.2]
end
def seq_ : Sq → Sq → Bool
  | .ex xs, .ex ys => aeqs xs ys
  | .bd a n, .bd b k => n == k && aeq a b
  | _, _ => false
theorem seq_ok {s t : Sq} (h : seq_ s t = true) : s = t := by
  cases s <;> cases t <;> first | cases h; done | skip
  · rw [aeqs_ok h]
  · have h : (_ && _) = true := h
    simp only [Bool.and_eq_true, beq_iff_eq] at h
    rw [h.1, aeq_ok h.2]
def sseq : AS → AS → Bool
  | .un, .un => true
  | .pd a, .pd b => aeq a b
  | .ow s, .ow t => seq_ s t
  | .xc c f a, .xc c' f' a' => c == c' && f == f' && aeq a a'
  | _, _ => false
theorem sseq_ok {s t : AS} (h : sseq s t = true) : s = t := by
  cases s <;> cases t <;> first | cases h; done | skip
  · rfl
  · rw [aeq_ok h]
  · rw [seq_ok h]
  · have h : (_ && _ && _) = true := h
    simp only [Bool.and_eq_true, beq_iff_eq] at h
    rw [h.1.1, h.1.2, aeq_ok h.2]
def eeq : AE → AE → Bool
  | [], [] => true
  | s :: σ, t :: τ => sseq s t && eeq σ τ
  | _, _ => false
theorem eeq_ok : ∀ {σ τ : AE}, eeq σ τ = true → σ = τ
  | [], [], _ => rfl
  | [], _ :: _, h => by cases h
  | _ :: _, [], h => by cases h
  | s :: σ, t :: τ, h => by
    have h : (sseq s t && eeq σ τ) = true := h
    rw [Bool.and_eq_true] at h
    rw [sseq_ok h.1, eeq_ok h.2]
/-- each once -/
def dd : List AE → List AE
  | [] => []
  | σ :: r => let t := dd r; if t.any (eeq σ) then t else σ :: t
theorem dd_ok : ∀ {l : List AE} {σ : AE}, σ ∈ l → σ ∈ dd l
  | [], _, h => by cases h
  | τ :: r, σ, h => by
    show σ ∈ (if (dd r).any (eeq τ) then dd r else τ :: dd r)
    rcases List.mem_cons.mp h with rfl | h
    · split
      · rename_i q
        obtain ⟨υ, hu, e⟩ := List.any_eq_true.mp q
        rw [eeq_ok e]
        exact hu
      · simp
    · split
      · exact dd_ok h
      · exact List.mem_cons_of_mem _ (dd_ok h)
def subE (l k : List AE) : Bool := l.all fun σ => k.any (eeq σ)
theorem subE_ok {l k : List AE} {σ : AE} (h : subE l k = true) (hs : σ ∈ l) : σ ∈ k := by
  obtain ⟨τ, ht, e⟩ := List.any_eq_true.mp (List.all_eq_true.mp h σ hs)
  rw [eeq_ok e]
  exact ht
end Ax

set_option Elab.async false
set_option linter.all false
set_option maxRecDepth 100000
/-! The run over sets of data. -/
namespace Ax
open PySem PySem.Spec L2 Pf

/-! ### defs, one after another -/
structure DefE where
  id : Nat
  nm : Str
  ar : Nat
  n : Nat
  b : Ss
def stage (base : Gs) : List DefE → Gs
  | [] => base
  | f :: r => { stage base r with fs := (stage base r).fs ++ [(f.id, f.nm, f.ar, mDef (stage base r) f.n f.b)] }
def lookD (k : Nat) : List DefE → Option (DefE × List DefE)
  | [] => none
  | f :: r => if f.id == k then some (f, r) else lookD k r
theorem lookD_cons (k : Nat) (f : DefE) (r : List DefE) : lookD k (f :: r) = if f.id == k then some (f, r) else lookD k r := rfl
def okIds : List DefE → Bool
  | [] => true
  | f :: r => (lookD f.id r).isNone && okIds r
section
variable {base : Gs}
theorem stage_gl : ∀ l : List DefE, (stage base l).gl = base.gl
  | [] => rfl
  | f :: r => stage_gl r
theorem stage_sb : ∀ l : List DefE, (stage base l).sb = base.sb
  | [] => rfl
  | f :: r => stage_sb r
theorem stage_at : ∀ l : List DefE, (stage base l).at_ = base.at_
  | [] => rfl
  | f :: r => stage_at r
theorem stage_fs (h0 : base.fs = []) {k : Nat} : ∀ l : List DefE, okIds l = true → (stage base l).fs.find? (fun p => p.1 == k) = (lookD k l).map fun p => (p.1.id, p.1.nm, p.1.ar, mDef (stage base p.2) p.1.n p.1.b)
  | [], _ => by
    show base.fs.find? _ = _
    rw [h0]; rfl
  | f :: r, h => by
    have h : ((lookD f.id r).isNone && okIds r) = true := h
    rw [Bool.and_eq_true] at h
    have ih := stage_fs h0 (k := k) r h.2
    show ((stage base r).fs ++ [(f.id, f.nm, f.ar, mDef (stage base r) f.n f.b)]).find? _ = _
    rw [List.find?_append, ih, lookD_cons]
    by_cases e : (f.id == k) = true
    · rw [if_pos e]
      have e2 : f.id = k := eq_of_beq e
      have : lookD k r = none := by rw [← e2]; exact Option.isNone_iff_eq_none.mp h.1
      rw [this]
      simp [e2]
    · rw [if_neg e]
      cases q : lookD k r with
      | none => simp [e]
      | some p => simp
theorem call_at (h0 : base.fs = []) {l : List DefE} (h : okIds l = true) (k : Nat) (ds : List D) : callG (stage base l) k ds = match lookD k l with
    | some p => if ds.length = p.1.ar then mDef (stage base p.2) p.1.n p.1.b ds else .bad
    | none => .bad := by
  unfold callG
  rw [stage_fs h0 l h]
  cases lookD k l <;> rfl
theorem look_ok : ∀ {l : List DefE} {k : Nat} {p : DefE × List DefE}, okIds l = true → lookD k l = some p → okIds p.2 = true ∧ ∀ j q, lookD j p.2 = some q → lookD j l = some q
  | [], _, _, _, e => by cases e
  | f :: r, k, p, h, e => by
    have h : ((lookD f.id r).isNone && okIds r) = true := h
    rw [Bool.and_eq_true] at h
    have up : ∀ j q, lookD j r = some q → lookD j (f :: r) = some q := fun j q hq => by
      rw [lookD_cons]
      by_cases z : (f.id == j) = true
      · have : f.id = j := eq_of_beq z
        subst this
        rw [Option.isNone_iff_eq_none.mp h.1] at hq
        cases hq
      · rw [if_neg z]; exact hq
    rw [lookD_cons] at e
    split at e
    · cases e
      exact ⟨h.2, up⟩
    · obtain ⟨h1, h2⟩ := look_ok h.2 e
      exact ⟨h1, fun j q hq => up j q (h2 j q hq)⟩
end
/-! ### what is walked -/
def itemsA (x : A) : Option Sq := match sqOf x with
  | some s => some s
  | none => match conc x with
    | some (.str s) => if asc s = true then some (.ex ((cl s).map fun c => .d (.str (mk [c])))) else none
    | some _ => none
    | none => match asStr x with
      | some n => some (.bd (.str 1) n)
      | none => none
theorem itemsA_ok {m : Mg} {x : A} {s : Sq} {u : D} (e : itemsA x = some s) (g : γ m x u) : ∃ ds, itemsD u = .ok ds ∧ γq m s ds := by
  unfold itemsA at e
  split at e
  · rename_i t e1
    cases e
    obtain ⟨ds, p, hu⟩ := sqOf_ok e1 g
    exact ⟨ds, by rcases hu with rfl | rfl <;> rfl, p⟩
  · split at e
    · rename_i z e1
      split at e
      · cases e
        rw [conc_ok e1 g]
        refine ⟨_, rfl, ?_⟩
        have := γs_map_d (m := m) ((cl z).map fun c => PyData.str (mk [c]))
        rw [List.map_map] at this
        exact this
      · cases e
    · cases e
    · split at e
      · rename_i n e1
        cases e
        obtain ⟨z, rfl, p1, p2⟩ := asStr_ok e1 g
        refine ⟨_, rfl, by rw [List.length_map, ← len_cl]; exact p2, fun d hd => ?_⟩
        obtain ⟨c, hc, rfl⟩ := List.mem_map.mp hd
        unfold γ
        exact ⟨_, rfl, asc_one p1 hc, by rw [len_mk]; exact Nat.le_refl 1⟩
      · cases e
def upTo (lo : Int) : Nat → List A
  | 0 => []
  | n + 1 => .d (.int lo) :: upTo (lo + 1) n
theorem upTo_eq : ∀ (n : Nat) (lo : Int), upTo lo n = (rng lo n).map A.d
  | 0, lo => rfl
  | n + 1, lo => by
    unfold upTo rng
    rw [upTo_eq n (lo + 1), List.range_succ_eq_map, List.map_cons, List.map_cons, List.map_map]
    congr 1
    · simp
    · unfold rng
      rw [List.map_map, List.map_map]
      apply List.map_congr_left
      intro i _
      simp only [Function.comp_apply]
      congr 2
      push_cast
      omega
def rok (p : Int × Int) : Bool := decide (-1000000 ≤ p.1) && decide (p.2 ≤ 1000000)
def rngA (x y : A) : Option Sq := match asInt x, asInt y with
  | some (a, b), some (c, d) => if rok (a, b) && rok (c, d) then some (if a = b ∧ c = d ∧ c - a ≤ 600 then .ex (upTo a (c - a).toNat) else .bd (.int a (d - 1)) (d - a).toNat) else none
  | _, _ => none
theorem rngA_ok {m : Mg} {x y : A} {s : Sq} {u v : D} (e : rngA x y = some s) (g : γ m x u) (h : γ m y v) : ∃ ds, rng2 u v = .ok ds ∧ γq m s ds := by
  unfold rngA at e
  split at e
  · rename_i a b c d e1 e2
    split at e
    · rename_i hr
      cases e
      obtain ⟨i, rfl, i1, i2⟩ := asInt_ok e1 g
      obtain ⟨j, rfl, j1, j2⟩ := asInt_ok e2 h
      unfold rok at hr
      simp only [Bool.and_eq_true, decide_eq_true_eq] at hr
      have k1 : rngOk i = true := rngOk_iff.mpr (by omega)
      have k2 : rngOk j = true := rngOk_iff.mpr (by omega)
      refine ⟨rng i (j - i).toNat, ?_, ?_⟩
      · show (if rngOk i = true ∧ rngOk j = true then Rs.ok (rng i (j - i).toNat) else .bad) = _
        rw [if_pos ⟨k1, k2⟩]
      · split
        · rename_i hh
          obtain rfl : i = a := by omega
          obtain rfl : j = c := by omega
          show γs m _ _
          rw [upTo_eq]
          exact γs_map_d _
        · refine ⟨by simp only [rng, List.length_map, List.length_range]; omega, fun z hz => ?_⟩
          obtain ⟨k, hk, rfl⟩ := List.mem_map.mp hz
          have := List.mem_range.mp hk
          unfold γ
          exact ⟨_, rfl, by omega, by omega⟩
    · cases e
  · cases e
theorem rng12 {u : D} {ds : List D} (h : rng2 (.int 0) u = .ok ds) : rng1 u = .ok ds := by
  cases u <;> first | cases h; done | skip
  rename_i n
  have h : (if rngOk 0 = true ∧ rngOk n = true then Rs.ok (rng 0 (n - 0).toNat) else .bad) = .ok ds := h
  show (if rngOk n = true then Rs.ok (rng 0 n.toNat) else .bad) = _
  split at h
  · rename_i hh
    rw [if_pos hh.2]
    rw [Int.sub_zero] at h
    exact h
  · cases h
def enX (k : Nat) : List A → List A
  | [] => []
  | a :: r => mkT (.ex [.d (.int k), a]) :: enX (k + 1) r
theorem enX_ok {m : Mg} : ∀ {xs : List A} {ds : List D} {k : Nat}, γs m xs ds → γs m (enX k xs) (enumD k ds)
  | [], [], _, _ => by simp [enX, enumD, γs]
  | [], _ :: _, _, h => by unfold γs at h; exact h.elim
  | _ :: _, [], _, h => by unfold γs at h; exact h.elim
  | a :: r, d :: ds, k, h => by
    unfold γs at h
    show γs m (mkT (.ex [.d (.int k), a]) :: enX (k + 1) r) (.tuple [.int k, d] :: enumD (k + 1) ds)
    unfold γs
    refine ⟨mkT_ok ?_, enX_ok h.2⟩
    show γs m _ _
    simp only [γs, γ, and_true, true_and]
    exact h.1
theorem enumD_mem {ds : List D} : ∀ {k : Nat} {d : D}, d ∈ enumD k ds → ∃ (i : Nat) (e : D), d = .tuple [.int i, e] ∧ e ∈ ds ∧ i < k + ds.length := by
  induction ds with
  | nil => intro k d h; cases h
  | cons a L ih =>
    intro k d h
    rcases List.mem_cons.mp (show d ∈ PyData.tuple [.int k, a] :: enumD (k + 1) L from h) with rfl | h
    · exact ⟨k, a, rfl, by simp, by simp⟩
    · obtain ⟨i, e, h1, h2, h3⟩ := ih h
      exact ⟨i, e, h1, List.mem_cons_of_mem _ h2, by rw [List.length_cons]; omega⟩
theorem enumD_len : ∀ {ds : List D} {k : Nat}, (enumD k ds).length = ds.length
  | [], _ => rfl
  | d :: ds, k => by
    show (PyData.tuple [.int k, d] :: enumD (k + 1) ds).length = _
    rw [List.length_cons, List.length_cons, enumD_len]
def enA (x : A) : Option Sq := match asL x with
  | some (.ex xs) => some (.ex (enX 0 xs))
  | some (.bd a n) => some (.bd (.tp [.int 0 ((n : Int) - 1), a]) n)
  | none => none
theorem enA_ok {m : Mg} {x : A} {s : Sq} {u : D} (e : enA x = some s) (g : γ m x u) : ∃ ds, enumL u = .ok ds ∧ γq m s ds := by
  unfold enA at e
  split at e
  · rename_i xs e1
    cases e
    obtain ⟨ds, rfl, p⟩ := asL_ok e1 g
    exact ⟨_, rfl, enX_ok p⟩
  · rename_i a n e1
    cases e
    obtain ⟨ds, rfl, p⟩ := asL_ok e1 g
    have hl := p.1
    refine ⟨_, rfl, by rw [enumD_len]; exact hl, fun d hd => ?_⟩
    obtain ⟨i, e, rfl, h1, h2⟩ := enumD_mem hd
    unfold γ
    refine ⟨_, rfl, ?_⟩
    simp only [γs, γ, and_true]
    exact ⟨⟨_, rfl, by omega, by omega⟩, p.2 e h1⟩
  · cases e
/-! ### targets -/
def setAllA : List Nat → List A → AE → AE
  | i :: is, a :: as, σ => setAllA is as (σ.set i (.pd a))
  | _, _, σ => σ
theorem setAllA_ok {m : Mg} : ∀ {is : List Nat} {as : List A} {ds : List D} {σ : AE} {ρ : Sto}, γE m σ ρ → γs m as ds → γE m (setAllA is as σ) (setAll is ds ρ)
  | [], _, _, _, _, h, _ => by
    unfold setAllA setAll
    exact h
  | _ :: _, [], [], _, _, h, _ => by
    unfold setAllA setAll
    exact h
  | _ :: _, [], _ :: _, _, _, _, g => by unfold γs at g; exact g.elim
  | _ :: _, _ :: _, [], _, _, _, g => by unfold γs at g; exact g.elim
  | i :: is, a :: as, d :: ds, σ, ρ, h, g => by
    unfold γs at g
    show γE m (setAllA is as (σ.set i (.pd a))) (setAll is ds (ρ.set i (some (.pd d))))
    exact setAllA_ok (h.set g.1) g.2
def asgA : Tg → A → AE → Option AE
  | .nm i, a, σ => some (σ.set i (.pd a))
  | .tp is, a, σ => match sqOf a with
    | some (.ex xs) => if xs.length = is.length then some (setAllA is xs σ) else none
    | _ => none
theorem asgA_ok {m : Mg} {t : Tg} {a : A} {d : D} {σ σ' : AE} {ρ : Sto} (h : γE m σ ρ) (g : γ m a d) (e : asgA t a σ = some σ') : ∃ ρ', asgT t d ρ = .ok ρ' ∧ γE m σ' ρ' := by
  cases t with
  | nm i =>
    cases e
    exact ⟨_, rfl, h.set (t := some (.pd d)) g⟩
  | tp is =>
    have e : (match sqOf a with
      | some (.ex xs) => if xs.length = is.length then some (setAllA is xs σ) else none
      | _ => none) = some σ' := e
    split at e
    · rename_i xs e1
      split at e
      · rename_i hl
        cases e
        obtain ⟨ds, p, hu⟩ := sqOf_ok e1 g
        have len := γs_len p
        refine ⟨setAll is ds ρ, ?_, setAllA_ok h p⟩
        have : ds.length = is.length := by omega
        rcases hu with rfl | rfl
        · show (if ds.length = is.length then Rs.ok (setAll is ds ρ) else .bad) = _
          rw [if_pos this]
        · show (if ds.length = is.length then Rs.ok (setAll is ds ρ) else .bad) = _
          rw [if_pos this]
      · cases e
    · cases e
def wipeA (σ : AE) : List Nat → AE
  | [] => σ
  | v :: vs => (wipeA σ vs).set v .un
theorem wipeA_ok {m : Mg} {σ : AE} {ρ : Sto} (h : γE m σ ρ) : ∀ vs : List Nat, γE m (wipeA σ vs) (wipeR ρ vs)
  | [] => h
  | v :: vs => (wipeA_ok h vs).set (t := none) rfl
def wipeU (σ : AE) : List Nat → AE
  | [] => σ
  | v :: vs => unA (wipeU σ vs) v
theorem wipeU_ok {m : Mg} {σ : AE} {ρ : Sto} (h : γE m σ ρ) : ∀ vs : List Nat, γE m (wipeU σ vs) ρ
  | [] => h
  | v :: vs => (wipeU_ok h vs).un v
/-! parting a set -/
def altsOf : A → List A
  | .alt xs => xs
  | a => [a]
theorem altsOf_ok {m : Mg} {a : A} {d : D} (g : γ m a d) : ∃ b ∈ altsOf a, γ m b d := by
  unfold altsOf
  split
  · unfold γ at g
    exact γa_iff.mp g
  · exact ⟨a, by simp, g⟩
def splA : Nat → A → List A
  | 0, a => [a]
  | 1, a => altsOf a
  | p + 2, a => (altsOf a).flatMap fun b => [.q p true b, .q p false b]
theorem splA_ok {m : Mg} {k : Nat} {a : A} {d : D} (g : γ m a d) : ∃ b ∈ splA k a, γ m b d := by
  match k with
  | 0 => exact ⟨a, by simp [splA], g⟩
  | 1 => exact altsOf_ok g
  | p + 2 =>
    obtain ⟨b, hb, gb⟩ := altsOf_ok g
    refine ⟨.q p (m.pr p d) b, List.mem_flatMap.mpr ⟨b, hb, ?_⟩, by unfold γ; exact ⟨rfl, gb⟩⟩
    cases m.pr p d <;> simp
/-- part the states at slot i -/
def splE (k i : Nat) (σ : AE) : List AE := match σ[i]? with
  | some (.pd a) => (splA k a).map fun b => σ.set i (.pd b)
  | _ => [σ]
theorem splE_ok {m : Mg} {k i : Nat} {σ : AE} {ρ : Sto} (h : γE m σ ρ) : ∃ τ ∈ splE k i σ, γE m τ ρ := by
  unfold splE
  split
  · rename_i a e
    obtain ⟨t, e2, g⟩ := h.2 i _ e
    cases t with
    | none => exact g.elim
    | some s =>
      cases s with
      | pd d =>
        obtain ⟨b, hb, gb⟩ := splA_ok (k := k) (show γ m a d from g)
        refine ⟨σ.set i (.pd b), List.mem_map.mpr ⟨b, hb, rfl⟩, ?_⟩
        have := h.set (i := i) (s := .pd b) (t := some (.pd d)) gb
        have e3 : ρ.set i (some (.pd d)) = ρ := by
          apply List.ext_getElem?
          intro j
          by_cases hj : i = j
          · subst hj
            rw [List.getElem?_set_self', e2]
            rfl
          · rw [List.getElem?_set_ne hj]
        rwa [e3] at this
      | own xs => exact g.elim
      | exc e => exact g.elim
  · exact ⟨σ, by simp, h⟩
def splAll (sp : Nat → Nat) : List Nat → AE → List AE
  | [], σ => [σ]
  | i :: is, σ => if sp i = 0 then splAll sp is σ else (splE (sp i) i σ).flatMap (splAll sp is)
theorem splAll_ok {m : Mg} {sp : Nat → Nat} : ∀ {is : List Nat} {σ : AE} {ρ : Sto}, γE m σ ρ → ∃ τ ∈ splAll sp is σ, γE m τ ρ
  | [], σ, ρ, h => ⟨σ, by simp [splAll], h⟩
  | i :: is, σ, ρ, h => by
    unfold splAll
    split
    · exact splAll_ok h
    · obtain ⟨τ, ht, h2⟩ := splE_ok (k := sp i) (i := i) h
      obtain ⟨υ, hu, h3⟩ := splAll_ok (is := is) h2
      exact ⟨υ, List.mem_flatMap.mpr ⟨τ, ht, hu⟩, h3⟩
end Ax

set_option Elab.async false
set_option linter.all false
set_option maxRecDepth 100000
/-! The run itself. -/
namespace Ax
open PySem PySem.Spec L2 Pf

inductive SO where
  | nx (σ : AE)
  | rt (a : A)
  | bk (σ : AE)
  | ct (σ : AE)
  | ex (c f : Str) (a : A) (σ : AE)
def γo (m : Mg) : SO → Out → Prop
  | .nx σ, .nx ρ => γE m σ ρ
  | .rt a, .rt d => γ m a d
  | .bk σ, .bk ρ => γE m σ ρ
  | .ct σ, .ct ρ => γE m σ ρ
  | .ex c f a σ, .ex e ρ => e.cls = c ∧ e.attr = f ∧ γ m a e.val ∧ γE m σ ρ
  | _, _ => False
abbrev OsS := Option (List SO)
def SatO (m : Mg) (r : OsS) (o : Out) : Prop := ∀ os, r = some os → ∃ s ∈ os, γo m s o
def ofRA {α : Type} (σ : AE) (k : α → OsS) : List (Ro α) → OsS
  | [] => some []
  | .ok a :: r => match k a, ofRA σ k r with
    | some xs, some ys => some (xs ++ ys)
    | _, _ => none
  | .ex c f a :: r => match ofRA σ k r with
    | some ys => some (.ex c f a σ :: ys)
    | none => none
def ofO {α : Type} (σ : AE) (r : Os α) (k : α → OsS) : OsS := match r with
  | some os => ofRA σ k os
  | none => none
def mapO (k : AE → OsS) : List AE → OsS
  | [] => some []
  | σ :: r => match k σ, mapO k r with
    | some xs, some ys => some (xs ++ ys)
    | _, _ => none
def nxs : List SO → List AE
  | [] => []
  | .nx σ :: r => σ :: nxs r
  | _ :: r => nxs r
def oth : List SO → List SO
  | [] => []
  | .nx _ :: r => oth r
  | o :: r => o :: oth r
def seqS (r : OsS) (k : AE → OsS) : OsS := match r with
  | some os => match mapO k (dd (nxs os)) with
    | some ys => some (oth os ++ ys)
    | none => none
  | none => none
section
variable {m : Mg} {ρ : Sto} {σ : AE}
theorem ofRA_ok {α δ : Type} {R : α → δ → Prop} {w : Rs δ} {k : α → OsS} {g : δ → Out} (hE : γE m σ ρ) (hk : ∀ a d, R a d → w = .ok d → SatO m (k a) (g d)) : ∀ {os : List (Ro α)} {ps : List SO}, ofRA σ k os = some ps → (∃ o ∈ os, Γr m R o w) → ∃ p ∈ ps, γo m p (.ofR w ρ g)
  | [], _, _, h => by obtain ⟨o, ho, _⟩ := h; cases ho
  | .ok a :: r, ps, e, h => by
    unfold ofRA at e
    split at e
    · rename_i xs ys e1 e2
      cases e
      obtain ⟨o, ho, q⟩ := h
      rcases List.mem_cons.mp ho with rfl | ho
      · cases w with
        | ok d =>
          obtain ⟨p, hp, z⟩ := hk a d q rfl xs e1
          exact ⟨p, List.mem_append_left _ hp, z⟩
        | ex e => exact q.elim
        | bad => exact q.elim
      · obtain ⟨p, hp, z⟩ := ofRA_ok hE hk e2 ⟨o, ho, q⟩
        exact ⟨p, List.mem_append_right _ hp, z⟩
    · cases e
  | .ex c f a :: r, ps, e, h => by
    unfold ofRA at e
    split at e
    · rename_i ys e2
      cases e
      obtain ⟨o, ho, q⟩ := h
      rcases List.mem_cons.mp ho with rfl | ho
      · cases w with
        | ok d => exact q.elim
        | ex e => exact ⟨.ex c f a σ, List.mem_cons_self, ⟨q.1, q.2.1, q.2.2, hE⟩⟩
        | bad => exact q.elim
      · obtain ⟨p, hp, z⟩ := ofRA_ok hE hk e2 ⟨o, ho, q⟩
        exact ⟨p, List.mem_cons_of_mem _ hp, z⟩
    · cases e
theorem ofO_ok {α δ : Type} {R : α → δ → Prop} {r : Os α} {w : Rs δ} {k : α → OsS} {g : δ → Out} (h : Sat m R r w) (hE : γE m σ ρ) (hk : ∀ a d, R a d → w = .ok d → SatO m (k a) (g d)) : SatO m (ofO σ r k) (.ofR w ρ g) := by
  intro ps e
  cases r with
  | some os => exact ofRA_ok hE hk e (h os rfl)
  | none => cases e
theorem mapO_ok {k : AE → OsS} {o : Out} : ∀ {S : List AE} {os : List SO}, mapO k S = some os → (∃ σ ∈ S, SatO m (k σ) o) → ∃ s ∈ os, γo m s o
  | [], _, _, h => by obtain ⟨o, ho, _⟩ := h; cases ho
  | σ :: r, os, e, h => by
    unfold mapO at e
    split at e
    · rename_i xs ys e1 e2
      cases e
      obtain ⟨τ, ht, q⟩ := h
      rcases List.mem_cons.mp ht with rfl | ht
      · obtain ⟨s, hs, z⟩ := q xs e1
        exact ⟨s, List.mem_append_left _ hs, z⟩
      · obtain ⟨s, hs, z⟩ := mapO_ok e2 ⟨τ, ht, q⟩
        exact ⟨s, List.mem_append_right _ hs, z⟩
    · cases e
theorem nxs_mem {σ : AE} : ∀ {os : List SO}, SO.nx σ ∈ os → σ ∈ nxs os
  | [], h => by cases h
  | o :: r, h => by
    rcases List.mem_cons.mp h with rfl | h
    · show σ ∈ σ :: nxs r
      simp
    · have ih := nxs_mem h
      cases o <;> first | exact List.mem_cons_of_mem _ ih | exact ih
theorem oth_mem {o : SO} (hn : ∀ σ, o ≠ .nx σ) : ∀ {os : List SO}, o ∈ os → o ∈ oth os
  | [], h => by cases h
  | p :: r, h => by
    rcases List.mem_cons.mp h with rfl | h
    · cases o <;> first | exact absurd rfl (hn _) | exact List.mem_cons_self
    · have ih := oth_mem hn h
      cases p <;> first | exact List.mem_cons_of_mem _ ih | exact ih
theorem seqS_ok {r : OsS} {o : Out} {k : AE → OsS} {f : Sto → Out} (h : SatO m r o) (hk : ∀ σ ρ, γE m σ ρ → SatO m (k σ) (f ρ)) : SatO m (seqS r k) (o.seq f) := by
  intro ps e
  unfold seqS at e
  split at e
  · rename_i os
    split at e
    · rename_i ys e1
      cases e
      obtain ⟨s, hs, g⟩ := h os rfl
      cases o with
      | nx ρ =>
        cases s <;> first | exact g.elim | skip
        rename_i σ
        obtain ⟨t, ht, z⟩ := mapO_ok (m := m) (o := f ρ) e1 ⟨σ, dd_ok (nxs_mem hs), hk σ ρ g⟩
        exact ⟨t, List.mem_append_right _ ht, z⟩
      | rt d => exact ⟨s, List.mem_append_left _ (oth_mem (by rintro σ rfl; exact g) hs), g⟩
      | bk ρ => exact ⟨s, List.mem_append_left _ (oth_mem (by rintro σ rfl; exact g) hs), g⟩
      | ct ρ => exact ⟨s, List.mem_append_left _ (oth_mem (by rintro σ rfl; exact g) hs), g⟩
      | ex e ρ => exact ⟨s, List.mem_append_left _ (oth_mem (by rintro σ rfl; exact g) hs), g⟩
      | bad => cases s <;> exact g.elim
    · cases e
  · cases e
end
/-! loops -/
def cts (vs : List Nat) : List SO → List AE
  | [] => []
  | .nx σ :: r => wipeU σ vs :: cts vs r
  | .ct σ :: r => wipeU σ vs :: cts vs r
  | _ :: r => cts vs r
def ends : List SO → List SO
  | [] => []
  | .nx _ :: r => ends r
  | .ct _ :: r => ends r
  | .bk σ :: r => .nx σ :: ends r
  | o :: r => o :: ends r
def lpX (step : A → AE → OsS) (vs : List Nat) : List A → List AE → OsS
  | [], S => some (S.map .nx)
  | a :: r, S => match mapO (step a) S with
    | some os => match lpX step vs r (dd (cts vs os)) with
      | some ys => some (ends os ++ ys)
      | none => none
    | none => none
def lpB (step : A → AE → OsS) (vs : List Nat) : Nat → A → List AE → OsS
  | 0, _, S => some (S.map .nx)
  | n + 1, a, S => match mapO (step a) S with
    | some os => if subE (dd (cts vs os)) S then some (S.map .nx ++ ends os) else match lpB step vs n a (dd (cts vs os)) with
      | some ys => some (S.map .nx ++ (ends os ++ ys))
      | none => none
    | none => none
section
variable {m : Mg}
theorem cts_mem {vs : List Nat} {σ : AE} : ∀ {os : List SO}, (SO.nx σ ∈ os ∨ SO.ct σ ∈ os) → wipeU σ vs ∈ cts vs os
  | [], h => by rcases h with h | h <;> cases h
  | o :: r, h => by
    have : (o = .nx σ ∨ o = .ct σ) ∨ (SO.nx σ ∈ r ∨ SO.ct σ ∈ r) := by
      rcases h with h | h <;> rcases List.mem_cons.mp h with h | h
      · exact .inl (.inl h.symm)
      · exact .inr (.inl h)
      · exact .inl (.inr h.symm)
      · exact .inr (.inr h)
    rcases this with (rfl | rfl) | h
    · exact List.mem_cons_self
    · exact List.mem_cons_self
    · have ih := cts_mem (vs := vs) h
      cases o <;> first | exact List.mem_cons_of_mem _ ih | exact ih
theorem ends_bk {σ : AE} : ∀ {os : List SO}, SO.bk σ ∈ os → SO.nx σ ∈ ends os
  | [], h => by cases h
  | o :: r, h => by
    rcases List.mem_cons.mp h with rfl | h
    · exact List.mem_cons_self
    · have ih := ends_bk h
      cases o <;> first | exact List.mem_cons_of_mem _ ih | exact ih
theorem ends_mem {o : SO} (h1 : ∀ σ, o ≠ .nx σ) (h2 : ∀ σ, o ≠ .ct σ) (h3 : ∀ σ, o ≠ .bk σ) : ∀ {os : List SO}, o ∈ os → o ∈ ends os
  | [], h => by cases h
  | p :: r, h => by
    rcases List.mem_cons.mp h with rfl | h
    · cases o <;> first | exact absurd rfl (h1 _) | exact absurd rfl (h2 _) | exact absurd rfl (h3 _) | exact List.mem_cons_self
    · have ih := ends_mem h1 h2 h3 h
      cases p <;> first | exact List.mem_cons_of_mem _ ih | exact ih
def turnO (o : Out) (k : Sto → Out) : Out := match o with
  | .nx ρ' => k ρ'
  | .ct ρ' => k ρ'
  | .bk ρ' => .nx ρ'
  | o => o
theorem forL_cons {step : D → Sto → Out} {d : D} {ds : List D} {ρ : Sto} : forL step (d :: ds) ρ = turnO (step d ρ) (forL step ds) := by
  unfold forL turnO
  cases step d ρ <;> rfl
/-- one turn: it goes on in a state of cts, or ends the loop by one of ends -/
theorem turn_ok {vs : List Nat} {os os' : List SO} {o : Out} {k : Sto → Out} (h : ∃ s ∈ os, γo m s o) (kk : ∀ ρ, (∃ σ ∈ dd (cts vs os), γE m σ ρ) → ∃ s ∈ os', γo m s (k ρ)) {all : List SO} (i1 : ∀ s ∈ ends os, s ∈ all) (i2 : ∀ s ∈ os', s ∈ all) :
    ∃ s ∈ all, γo m s (turnO o k) := by
  obtain ⟨s, hs, g⟩ := h
  cases o with
  | nx ρ =>
    cases s <;> first | exact g.elim | skip
    rename_i σ
    obtain ⟨t, ht, z⟩ := kk ρ ⟨wipeU σ vs, dd_ok (cts_mem (.inl hs)), wipeU_ok g vs⟩
    exact ⟨t, i2 t ht, z⟩
  | ct ρ =>
    cases s <;> first | exact g.elim | skip
    rename_i σ
    obtain ⟨t, ht, z⟩ := kk ρ ⟨wipeU σ vs, dd_ok (cts_mem (.inr hs)), wipeU_ok g vs⟩
    exact ⟨t, i2 t ht, z⟩
  | bk ρ =>
    cases s <;> first | exact g.elim | skip
    rename_i σ
    exact ⟨.nx σ, i1 _ (ends_bk hs), g⟩
  | rt d =>
    cases s <;> first | exact g.elim | skip
    exact ⟨_, i1 _ (ends_mem (by intro σ h; cases h) (by intro σ h; cases h) (by intro σ h; cases h) hs), g⟩
  | ex e ρ =>
    cases s <;> first | exact g.elim | skip
    exact ⟨_, i1 _ (ends_mem (by intro σ h; cases h) (by intro σ h; cases h) (by intro σ h; cases h) hs), g⟩
  | bad => cases s <;> exact g.elim
variable {step : A → AE → OsS} {stepC : D → Sto → Out} {vs : List Nat}
theorem lpX_ok (hs : ∀ a d σ ρ, γ m a d → γE m σ ρ → SatO m (step a σ) (stepC d ρ)) : ∀ {xs : List A} {ds : List D} {S : List AE} {os : List SO} {ρ : Sto}, γs m xs ds → lpX step vs xs S = some os → (∃ σ ∈ S, γE m σ ρ) → ∃ s ∈ os, γo m s (forL stepC ds ρ)
  | [], [], S, os, ρ, _, e, h => by
    cases e
    obtain ⟨σ, hσ, g⟩ := h
    exact ⟨.nx σ, List.mem_map.mpr ⟨σ, hσ, rfl⟩, g⟩
  | [], _ :: _, _, _, _, g, _, _ => by unfold γs at g; exact g.elim
  | _ :: _, [], _, _, _, g, _, _ => by unfold γs at g; exact g.elim
  | a :: r, d :: ds, S, os, ρ, g, e, h => by
    unfold γs at g
    unfold lpX at e
    split at e
    · rename_i ps e1
      split at e
      · rename_i ys e2
        cases e
        obtain ⟨σ, hσ, gσ⟩ := h
        have t := mapO_ok (m := m) (o := stepC d ρ) e1 ⟨σ, hσ, hs a d σ ρ g.1 gσ⟩
        rw [forL_cons]
        exact turn_ok t (fun ρ' h' => lpX_ok hs g.2 e2 h') (fun s h => List.mem_append_left _ h) (fun s h => List.mem_append_right _ h)
      · cases e
    · cases e
theorem lpS_ok (hs : ∀ a d σ ρ, γ m a d → γE m σ ρ → SatO m (step a σ) (stepC d ρ)) {a : A} {S : List AE} {os : List SO} (e1 : mapO (step a) S = some os) (sub : subE (dd (cts vs os)) S = true) : ∀ {ds : List D} {ρ : Sto}, (∀ d ∈ ds, γ m a d) → (∃ σ ∈ S, γE m σ ρ) → ∃ s ∈ S.map SO.nx ++ ends os, γo m s (forL stepC ds ρ)
  | [], ρ, _, h => by
    obtain ⟨σ, hσ, g⟩ := h
    exact ⟨.nx σ, List.mem_append_left _ (List.mem_map.mpr ⟨σ, hσ, rfl⟩), g⟩
  | d :: ds, ρ, hd, h => by
    obtain ⟨σ, hσ, gσ⟩ := h
    have t := mapO_ok (m := m) (o := stepC d ρ) e1 ⟨σ, hσ, hs a d σ ρ (hd d (by simp)) gσ⟩
    rw [forL_cons]
    exact turn_ok t (fun ρ' ⟨τ, h1, h2⟩ => lpS_ok hs e1 sub (fun x hx => hd x (List.mem_cons_of_mem _ hx)) ⟨τ, subE_ok sub h1, h2⟩) (fun s h => List.mem_append_right _ h) (fun s h => h)
theorem lpB_ok (hs : ∀ a d σ ρ, γ m a d → γE m σ ρ → SatO m (step a σ) (stepC d ρ)) {a : A} : ∀ {n : Nat} {ds : List D} {S : List AE} {os : List SO} {ρ : Sto}, ds.length ≤ n → (∀ d ∈ ds, γ m a d) → lpB step vs n a S = some os → (∃ σ ∈ S, γE m σ ρ) → ∃ s ∈ os, γo m s (forL stepC ds ρ)
  | 0, [], S, os, ρ, _, _, e, h => by
    cases e
    obtain ⟨σ, hσ, g⟩ := h
    exact ⟨.nx σ, List.mem_map.mpr ⟨σ, hσ, rfl⟩, g⟩
  | 0, _ :: _, _, _, _, hl, _, _, _ => by simp at hl
  | n + 1, ds, S, os, ρ, hl, hd, e, h => by
    unfold lpB at e
    split at e
    · rename_i ps e1
      split at e
      · rename_i sub
        cases e
        exact lpS_ok hs e1 sub hd h
      · split at e
        · rename_i ys e2
          cases e
          match ds, hl, hd with
          | [], _, _ =>
            obtain ⟨σ, hσ, g⟩ := h
            exact ⟨.nx σ, List.mem_append_left _ (List.mem_map.mpr ⟨σ, hσ, rfl⟩), g⟩
          | d :: ds, hl, hd =>
            obtain ⟨σ, hσ, gσ⟩ := h
            have t := mapO_ok (m := m) (o := stepC d ρ) e1 ⟨σ, hσ, hs a d σ ρ (hd d (by simp)) gσ⟩
            rw [forL_cons]
            exact turn_ok t (fun ρ' h' => lpB_ok hs (by simpa using hl) (fun x hx => hd x (List.mem_cons_of_mem _ hx)) e2 h') (fun s h => List.mem_append_right _ (List.mem_append_left _ h)) (fun s h => List.mem_append_right _ (List.mem_append_right _ h))
        · cases e
    · cases e
end
def lpA (step : A → AE → OsS) (vs : List Nat) (s : Sq) (σ : AE) : OsS := match s with
  | .ex xs => lpX step vs xs [σ]
  | .bd a n => lpB step vs n a [σ]
theorem lpA_ok {m : Mg} {step : A → AE → OsS} {stepC : D → Sto → Out} {vs : List Nat} (hs : ∀ a d σ ρ, γ m a d → γE m σ ρ → SatO m (step a σ) (stepC d ρ)) {s : Sq} {ds : List D} {σ : AE} {ρ : Sto} (g : γq m s ds) (h : γE m σ ρ) : SatO m (lpA step vs s σ) (forL stepC ds ρ) := by
  intro os e
  cases s with
  | ex xs => exact lpX_ok hs g e ⟨σ, by simp, h⟩
  | bd a n => exact lpB_ok hs g.1 g.2 e ⟨σ, by simp, h⟩
end Ax

set_option Elab.async false
set_option linter.all false
set_option maxRecDepth 100000
/-! The run over terms. -/
namespace Ax
open PySem PySem.Spec L2 Pf

structure Cc where
  base : Gs
  orc : Nat → List A → Os A
  sp : Nat → Nat → Nat
abbrev Rg := Option (Int × Int)
def bools (o : Option (List Bool)) : Os A := many (o.map fun bs => bs.map fun b => A.d (.bool b))
def enterA (n : Nat) (xs : List A) : AE := xs.map .pd ++ List.replicate (n - xs.length) .un
def outA : List SO → Os A
  | [] => some []
  | .rt a :: r => (outA r).map (.ok a :: ·)
  | .nx _ :: r => (outA r).map (.ok (.d .none) :: ·)
  | .ex c f a _ :: r => (outA r).map (.ex c f a :: ·)
  | _ :: _ => none
/-- one set over several values -/
def uni : List A → A
  | [a] => a
  | as => cov as
/-- a member of a comprehension: what it is, and whether it is surely there -/
def memb (cs : List Bool) (as : Option (List A)) : Option (Option A × Bool) :=
  if cs.all (fun b => !b) then some (none, true) else match as with
    | some as => some (some (uni as), cs.all id)
    | none => none
def lcX (one : A → Option (Option A × Bool)) : List A → Option Sq
  | [] => some (.ex [])
  | a :: r => match one a, lcX one r with
    | some (none, _), some s => some s
    | some (some v, true), some s => some (sqApp (.ex [v]) s)
    | some (some v, false), some s => some (sqApp (.bd v 1) s)
    | _, _ => none
def lcA (one : A → Option (Option A × Bool)) : Sq → Option Sq
  | .ex xs => lcX one xs
  | .bd a n => match one a with
    | some (none, _) => some (.ex [])
    | some (some v, _) => some (.bd v n)
    | none => none
def oksO {α : Type} (r : Os α) : Option (List α) := match r with
  | some os => oks os
  | none => none
def noXA (σ : AE) : Bool := σ.all fun s => match s with
  | .xc .. => false
  | _ => true
/-- the end of an except suite -/
def leaveA (i : Nat) : List SO → OsS
  | [] => some []
  | .nx σ :: r => if noXA (σ.set i .un) then (leaveA i r).map (.nx (σ.set i .un) :: ·) else none
  | .bk σ :: r => if noXA (σ.set i .un) then (leaveA i r).map (.bk (σ.set i .un) :: ·) else none
  | .ct σ :: r => if noXA (σ.set i .un) then (leaveA i r).map (.ct (σ.set i .un) :: ·) else none
  | .rt a :: r => (leaveA i r).map (.rt a :: ·)
  | .ex .. :: _ => none
def tryA (sub : Str → Option Bool) (att : Str → Option Str) (i : Nat) (suite : AE → OsS) : List SO → OsS
  | [] => some []
  | .ex c f a σ :: r => match tryA sub att i suite r with
    | none => none
    | some ys => match sub c with
      | some true => if att c = some f then (match suite (σ.set i (.xc c f a)) with
        | some os => match leaveA i os with
          | some zs => some (zs ++ ys)
          | none => none
        | none => none) else none
      | some false => some (.ex c f a σ :: ys)
      | none => none
  | o :: r => (tryA sub att i suite r).map (o :: ·)
def frzA (i : Nat) (σ : AE) : Option AE := match σ[i]? with
  | some (.ow s) => if (bdOf s).2 ≤ LIM then some (σ.set i (.pd (mkL s))) else none
  | _ => some σ

mutual
def ev (c : Cc) : Nat → List DefE → Nat → E → AE → Os A
  | 0, _, _, _, _ => none
  | n + 1, l, f, e, σ => match e with
    | .var i => lift (getA σ i)
    | .int i => ret (.d (.int i))
    | .str x => ret (.d (.str x))
    | .bl b => ret (.d (.bool b))
    | .non => ret (.d .none)
    | .gl k => match glG c.base k with
      | .ok d => ret (.d d)
      | _ => none
    | .bin o a b => bnd (ev c n l f a σ) fun x => bnd (ev c n l f b σ) fun y => lift (binA o x y)
    | .neg a => bnd (ev c n l f a σ) fun x => lift (negA x)
    | .cmp o a b => bnd (evl c n l f a σ) fun x => bnd (evl c n l f b σ) fun y => bools (cmpA o x y)
    | .ch o1 o2 a b d => bnd (evl c n l f a σ) fun x => bnd (evl c n l f b σ) fun y => bnd (many (cmpA o1 x y)) fun k => if k = true then bnd (evl c n l f d σ) fun z => bools (cmpA o2 y z) else ret (.d (.bool false))
    | .not a => bnd (bnd (ev c n l f a σ) fun x => many (tst x)) fun b => ret (.d (.bool (!b)))
    | .and a b => bnd (bnd (ev c n l f a σ) fun x => many (tst x)) fun k => if k = true then ev c n l f b σ else ret (.d (.bool false))
    | .or a b => bnd (bnd (ev c n l f a σ) fun x => many (tst x)) fun k => if k = true then ret (.d (.bool true)) else ev c n l f b σ
    | .ife d a b => bnd (bnd (ev c n l f d σ) fun x => many (tst x)) fun k => if k = true then ev c n l f a σ else ev c n l f b σ
    | .tup es => bnd (evs c n l f es σ) fun xs => if xs.length ≤ LIM then ret (mkT (.ex xs)) else none
    | .lst es => bnd (evs c n l f es σ) fun xs => if xs.length ≤ LIM then ret (mkL (.ex xs)) else none
    | .ix a b => bnd (ev c n l f a σ) fun x => bnd (ev c n l f b σ) fun y => lift (ixA x y)
    | .oix i b => bnd (lift (getOA σ i)) fun x => bnd (ev c n l f b σ) fun y => lift (ixA x y)
    | .sl a lo hi => bnd (ev c n l f a σ) fun x => bnd (evo c n l f lo σ) fun p => bnd (evo c n l f hi σ) fun q => lift (slA x p q)
    | .rev a => bnd (ev c n l f a σ) fun x => lift (revA x)
    | .bi g es => bnd (evs c n l f es σ) fun xs => lift (biA g xs)
    | .ti g es => bnd (evs c n l f es σ) fun xs => lift (tiA g xs)
    | .len a => bnd (evl c n l f a σ) fun x => lift (lenA x)
    | .mt g a es => bnd (ev c n l f a σ) fun x => if (asStr x).isSome then bnd (evs c n l f es σ) fun xs => lift (miA g x xs) else none
    | .call k es => bnd (evs c n l f es σ) fun xs => cal c n l k xs
    | .isa a T => bnd (evl c n l f a σ) fun x => ret (isaA T x)
    | .isa2 a T U => bnd (evl c n l f a σ) fun x => ret (isa2A T U x)
    | .lc t vs it cond elt => bnd (evc c n l f t vs it cond elt σ) fun s => ret (mkL s)
    | .lenks .. => none
    | .xat i g => match σ[i]? with
      | some (.xc cl g' a) => if c.base.at_ cl = some g ∧ g' = g then ret a else none
      | _ => none
    | .xis i y => match σ[i]? with
      | some (.xc cl g' a) => match c.base.sb cl y with
        | some b => ret (.d (.bool b))
        | none => none
      | _ => none
    | .dic0 => ret (.d (.dict []))
    | .lenset a => bnd (evl c n l f a σ) fun x => lift (lsA x)
    | .mz g a => bnd (ev c n l f a σ) fun x => lift (mzA g x)
    | .lstR a k es => bnd (ev c n l f a σ) fun x => match binA .add x (.d (.str k)) with
      | some y => bnd (evs c n l f es σ) fun xs => if xs.length + 1 ≤ LIM then ret (mkL (.ex (y :: xs))) else none
      | none => none
def evl (c : Cc) : Nat → List DefE → Nat → L → AE → Os A
  | 0, _, _, _, _ => none
  | n + 1, l, f, e, σ => match e with
    | .ov i => lift (getOA σ i)
    | .ex e => ev c n l f e σ
def evs (c : Cc) : Nat → List DefE → Nat → Es → AE → Os (List A)
  | 0, _, _, _, _ => none
  | n + 1, l, f, es, σ => match es with
    | .nil => ret []
    | .cons e es => bnd (ev c n l f e σ) fun x => bnd (evs c n l f es σ) fun xs => ret (x :: xs)
    | .rep a y z es => bnd (bnd (ev c n l f a σ) fun x => lift (repA x y z)) fun x => bnd (evs c n l f es σ) fun xs => ret (x :: xs)
def evo (c : Cc) : Nat → List DefE → Nat → Eo → AE → Os Rg
  | 0, _, _, _, _ => none
  | n + 1, l, f, e, σ => match e with
    | .none => ret none
    | .some e => bnd (ev c n l f e σ) fun x => lift ((asInt x).map some)
def evi (c : Cc) : Nat → List DefE → Nat → I → AE → Os Sq
  | 0, _, _, _, _ => none
  | n + 1, l, f, e, σ => match e with
    | .val e => bnd (ev c n l f e σ) fun x => lift (itemsA x)
    | .r1 a => bnd (ev c n l f a σ) fun x => lift (rngA (.d (.int 0)) x)
    | .r2 a b => bnd (ev c n l f a σ) fun x => bnd (ev c n l f b σ) fun y => lift (rngA x y)
    | .enum a => bnd (ev c n l f a σ) fun x => lift (enA x)
/-- the members of a list comprehension -/
def evc (c : Cc) : Nat → List DefE → Nat → Tg → List Nat → I → Eo → E → AE → Os Sq
  | 0, _, _, _, _, _, _, _, _ => none
  | n + 1, l, f, t, vs, it, cond, elt, σ => bnd (evi c n l f it σ) fun s => if (bdOf s).2 ≤ LIM then lift (lcA (fun a => match asgA t a (wipeA σ vs) with
      | none => none
      | some σ1 => match (match cond with
          | .none => some [true]
          | .some e => oksO (bnd (ev c n l f e σ1) fun x => many (tst x))) with
        | none => none
        | some cs => memb cs (oksO (ev c n l f elt σ1))) s) else none
def cal (c : Cc) : Nat → List DefE → Nat → List A → Os A
  | 0, _, _, _ => none
  | n + 1, l, k, xs => match lookD k l with
    | none => none
    | some p => if xs.length = p.1.ar then (match c.orc k xs with
      | some os => some os
      | none => match exs c n p.2 p.1.id p.1.b (enterA p.1.n xs) with
        | some os => outA os
        | none => none) else none
def ex (c : Cc) : Nat → List DefE → Nat → S → AE → OsS
  | 0, _, _, _, _ => none
  | n + 1, l, f, s, σ => match s with
    | .asg t e => ofO σ (ev c n l f e σ) fun a => match asgA t a σ with
      | some σ' => some ((splAll (c.sp f) t.slots σ').map .nx)
      | none => none
    | .own i es => ofO σ (evs c n l f es σ) fun xs => if xs.length ≤ LIM then some [.nx (σ.set i (.ow (.ex xs)))] else none
    | .ownLc i t vs it cond elt => ofO σ (evc c n l f t vs it cond elt σ) fun s => some [.nx (σ.set i (.ow s))]
    | .app i e => match σ[i]? with
      | some (.ow s) => ofO σ (ev c n l f e σ) fun a => if (bdOf s).2 < LIM then some [.nx (σ.set i (.ow (sqApp s (.ex [a]))))] else none
      | _ => none
    | .par is es => ofO σ (evs c n l f es σ) fun xs => if xs.length = is.length then some ((splAll (c.sp f) is (setAllA is xs σ)).map .nx) else none
    | .exp e => ofO σ (ev c n l f e σ) fun _ => some [.nx σ]
    | .ret e => ofO σ (ev c n l f e σ) fun a => some [.rt a]
    | .retN => some [.rt (.d .none)]
    | .pass => some [.nx σ]
    | .brk => some [.bk σ]
    | .cont => some [.ct σ]
    | .ife d a b => ofO σ (bnd (ev c n l f d σ) fun x => many (tst x)) fun k => if k = true then exs c n l f a σ else exs c n l f b σ
    | .for t it b => ofO σ (evi c n l f it σ) fun s => lpA (fun a τ => match asgA t a τ with
        | some τ' => mapO (exs c n l f b) (splAll (c.sp f) t.slots τ')
        | none => none) t.slots s σ
    | .whl .. => none
    | .rai x g e => ofO σ (ev c n l f e σ) fun a => some [.ex x g a σ]
    | .try i y a b => match exs c n l f a σ with
      | some os => tryA (fun x => c.base.sb x y) c.base.at_ i (exs c n l f b) os
      | none => none
def exs (c : Cc) : Nat → List DefE → Nat → Ss → AE → OsS
  | 0, _, _, _, _ => none
  | n + 1, l, f, ss, σ => match ss with
    | .nil => some [.nx σ]
    | .cons s ss => seqS (ex c n l f s σ) (exs c n l f ss)
    | .frz i ss => match frzA i σ with
      | some σ' => exs c n l f ss σ'
      | none => none
end
end Ax

set_option Elab.async false
set_option linter.all false
set_option maxRecDepth 100000
set_option maxHeartbeats 1000000
/-! The run is sound. -/
namespace Ax
open PySem PySem.Spec L2 Pf

structure Ok (m : Mg) (c : Cc) (L : List DefE) : Prop where
  fs0 : c.base.fs = []
  ids : okIds L = true
  orc : ∀ k p as os, lookD k L = some p → c.orc k as = some os → as.length = p.1.ar → ∀ ds, γs m as ds → ∃ o ∈ os, Γr m (γ m) o (mDef (stage c.base p.2) p.1.n p.1.b ds)
def Sub (l L : List DefE) : Prop := okIds l = true ∧ ∀ k p, lookD k l = some p → lookD k L = some p
section
variable {m : Mg} {c : Cc} {L : List DefE}
theorem sat_bools {o : Option (List Bool)} {w : Rs Bool} (h : ∀ bs, o = some bs → ∃ b ∈ bs, w = .ok b) : Sat m (γ m) (bools o) (pur (toB w)) := by
  unfold bools
  refine sat_many fun as e => ?_
  obtain ⟨bs, e1, rfl⟩ := Option.map_eq_some_iff.mp e
  obtain ⟨b, hb, rfl⟩ := h bs e1
  exact ⟨.d (.bool b), List.mem_map.mpr ⟨b, hb, rfl⟩, .bool b, rfl, by unfold γ; rfl⟩
theorem sat_op {o : Option A} {w : Rs D} (h : ∀ a, o = some a → ∃ z, w = .ok z ∧ γ m a z) : Sat m (γ m) (lift o) (pur w) := sat_lift fun a e => by
  obtain ⟨z, rfl, g⟩ := h a e
  exact ⟨z, rfl, g⟩
theorem γd (x : D) : γ m (.d x) x := by unfold γ; rfl
theorem uni_ok {as : List A} {a : A} {d : D} (ha : a ∈ as) (g : γ m a d) : γ m (uni as) d := by
  unfold uni
  split
  · rw [List.mem_singleton] at ha
    subst ha
    exact g
  · exact cov_ok ha g
/-- what a member's reading says -/
def MembOk (m : Mg) (one : A → Option (Option A × Bool)) (t : Tg) (cond : Sto → Rs Bool) (elt : Sto → Rs D) (ρ0 : Sto) : Prop := ∀ a d o b, γ m a d → one a = some (o, b) → ∃ ρ1, asgT t d ρ0 = .ok ρ1 ∧ ∃ k, cond ρ1 = .ok k ∧
  (k = true → ∃ v z, o = some v ∧ elt ρ1 = .ok z ∧ γ m v z) ∧ (k = false → o = none ∨ b = false)
theorem compL_in {t : Tg} {cond : Sto → Rs Bool} {elt : Sto → Rs D} {ρ0 ρ1 : Sto} {d : D} {ds ys : List D} {z : D} (h1 : asgT t d ρ0 = .ok ρ1) (h2 : cond ρ1 = .ok true) (h3 : elt ρ1 = .ok z) (h4 : compL t cond elt ρ0 ds = .ok ys) : compL t cond elt ρ0 (d :: ds) = .ok (z :: ys) := by
  show (asgT t d ρ0).bind _ = _
  rw [h1, Rs.bind_ok, h2, show noEx (Rs.ok true) = Rs.ok true from rfl, Rs.bind_ok, if_pos rfl, h3, show noEx (Rs.ok z) = Rs.ok z from rfl, Rs.bind_ok, h4, Rs.bind_ok]
theorem compL_out {t : Tg} {cond : Sto → Rs Bool} {elt : Sto → Rs D} {ρ0 ρ1 : Sto} {d : D} {ds : List D} (h1 : asgT t d ρ0 = .ok ρ1) (h2 : cond ρ1 = .ok false) : compL t cond elt ρ0 (d :: ds) = compL t cond elt ρ0 ds := by
  show (asgT t d ρ0).bind _ = _
  rw [h1, Rs.bind_ok, h2, show noEx (Rs.ok false) = Rs.ok false from rfl, Rs.bind_ok, if_neg Bool.false_ne_true]
theorem lcX_ok {one : A → Option (Option A × Bool)} {t : Tg} {cond : Sto → Rs Bool} {elt : Sto → Rs D} {ρ0 : Sto} (h : MembOk m one t cond elt ρ0) : ∀ {xs : List A} {ds : List D} {s : Sq}, γs m xs ds → lcX one xs = some s → ∃ ys, compL t cond elt ρ0 ds = .ok ys ∧ γq m s ys
  | [], [], s, _, e => by
    cases e
    exact ⟨[], rfl, by show γs m [] []; simp [γs]⟩
  | [], _ :: _, _, g, _ => by unfold γs at g; exact g.elim
  | _ :: _, [], _, g, _ => by unfold γs at g; exact g.elim
  | a :: r, d :: ds, s, g, e => by
    unfold γs at g
    unfold lcX at e
    split at e
    · rename_i b s1 e1 e2
      cases e
      obtain ⟨ys, h1, h2⟩ := lcX_ok h g.2 e2
      obtain ⟨ρ1, k1, k, k2, k3, k4⟩ := h a d _ _ g.1 e1
      cases k with
      | true => obtain ⟨v, z, q, _⟩ := k3 rfl; cases q
      | false => exact ⟨ys, by rw [compL_out k1 k2]; exact h1, h2⟩
    · rename_i v s1 e1 e2
      cases e
      obtain ⟨ys, h1, h2⟩ := lcX_ok h g.2 e2
      obtain ⟨ρ1, k1, k, k2, k3, k4⟩ := h a d _ _ g.1 e1
      cases k with
      | true =>
        obtain ⟨v', z, q, hz, gz⟩ := k3 rfl
        cases q
        refine ⟨z :: ys, compL_in k1 k2 hz h1, ?_⟩
        have : γq m (.ex [v]) [z] := by show γs m [v] [z]; simp only [γs, and_true]; exact gz
        exact sqApp_ok this h2
      | false => rcases k4 rfl with q | q <;> cases q
    · rename_i v s1 e1 e2
      cases e
      obtain ⟨ys, h1, h2⟩ := lcX_ok h g.2 e2
      obtain ⟨ρ1, k1, k, k2, k3, k4⟩ := h a d _ _ g.1 e1
      cases k with
      | true =>
        obtain ⟨v', z, q, hz, gz⟩ := k3 rfl
        cases q
        refine ⟨z :: ys, compL_in k1 k2 hz h1, ?_⟩
        have : γq m (.bd v 1) [z] := ⟨Nat.le_refl _, fun x hx => by rw [List.mem_singleton] at hx; subst hx; exact gz⟩
        exact sqApp_ok this h2
      | false =>
        refine ⟨ys, by rw [compL_out k1 k2]; exact h1, ?_⟩
        have : γq m (.bd v 1) [] := ⟨Nat.zero_le _, fun x hx => by cases hx⟩
        exact sqApp_ok this h2
    · cases e
theorem lcB_ok {one : A → Option (Option A × Bool)} {t : Tg} {cond : Sto → Rs Bool} {elt : Sto → Rs D} {ρ0 : Sto} (h : MembOk m one t cond elt ρ0) {a : A} {o : Option A} {b : Bool} (e : one a = some (o, b)) : ∀ {ds : List D}, (∀ d ∈ ds, γ m a d) → ∃ ys, compL t cond elt ρ0 ds = .ok ys ∧ ys.length ≤ ds.length ∧ (∀ y ∈ ys, ∃ v, o = some v ∧ γ m v y)
  | [], _ => ⟨[], rfl, Nat.le_refl _, fun y hy => by cases hy⟩
  | d :: ds, hd => by
    obtain ⟨ys, h1, h2, h3⟩ := lcB_ok h e (ds := ds) fun x hx => hd x (List.mem_cons_of_mem _ hx)
    obtain ⟨ρ1, k1, k, k2, k3, k4⟩ := h a d _ _ (hd d (by simp)) e
    cases k with
    | true =>
      obtain ⟨v, z, q, hz, gz⟩ := k3 rfl
      refine ⟨z :: ys, compL_in k1 k2 hz h1, by simp; omega, fun y hy => ?_⟩
      rcases List.mem_cons.mp hy with rfl | hy
      · exact ⟨v, q, gz⟩
      · exact h3 y hy
    | false => exact ⟨ys, by rw [compL_out k1 k2]; exact h1, by simp; omega, h3⟩
theorem lcA_ok {one : A → Option (Option A × Bool)} {t : Tg} {cond : Sto → Rs Bool} {elt : Sto → Rs D} {ρ0 : Sto} (h : MembOk m one t cond elt ρ0) {s s' : Sq} {ds : List D} (g : γq m s ds) (e : lcA one s = some s') : ∃ ys, compL t cond elt ρ0 ds = .ok ys ∧ γq m s' ys := by
  unfold lcA at e
  split at e
  · exact lcX_ok h g e
  · rename_i a n
    split at e
    · rename_i b e1
      cases e
      obtain ⟨ys, h1, h2, h3⟩ := lcB_ok h e1 g.2
      have : ys = [] := by
        cases ys with
        | nil => rfl
        | cons y ys => obtain ⟨v, q, _⟩ := h3 y (by simp); cases q
      subst this
      exact ⟨[], h1, by show γs m [] []; simp [γs]⟩
    · rename_i v b e1
      cases e
      obtain ⟨ys, h1, h2, h3⟩ := lcB_ok h e1 g.2
      exact ⟨ys, h1, Nat.le_trans h2 g.1, fun y hy => by obtain ⟨v', q, gz⟩ := h3 y hy; cases q; exact gz⟩
    · cases e
theorem oksO_ok {α δ : Type} {R : α → δ → Prop} {r : Os α} {w : Rs δ} {as : List α} (h : Sat m R r w) (e : oksO r = some as) : ∃ a ∈ as, ∃ d, w = .ok d ∧ R a d := by
  cases r with
  | none => cases e
  | some os => exact oks_ok e (h os rfl)
theorem outA_ok : ∀ {os : List SO} {ps : List (Ro A)} {o : Out}, outA os = some ps → (∃ s ∈ os, γo m s o) → ∃ p ∈ ps, Γr m (γ m) p (out o)
  | [], _, _, _, h => by obtain ⟨s, hs, _⟩ := h; cases hs
  | t :: r, ps, o, e, h => by
    obtain ⟨s, hs, g⟩ := h
    rcases List.mem_cons.mp hs with rfl | hr
    · cases s with
      | rt a =>
        obtain ⟨qs, e1, rfl⟩ := Option.map_eq_some_iff.mp (show (outA r).map (.ok a :: ·) = some ps from e)
        cases o <;> first | exact g.elim | skip
        exact ⟨.ok a, List.mem_cons_self, g⟩
      | nx σ =>
        obtain ⟨qs, e1, rfl⟩ := Option.map_eq_some_iff.mp (show (outA r).map (.ok (.d .none) :: ·) = some ps from e)
        cases o <;> first | exact g.elim | skip
        exact ⟨.ok (.d .none), List.mem_cons_self, γd (m := m) .none⟩
      | ex cl f a σ =>
        obtain ⟨qs, e1, rfl⟩ := Option.map_eq_some_iff.mp (show (outA r).map (.ex cl f a :: ·) = some ps from e)
        cases o <;> first | exact g.elim | skip
        exact ⟨.ex cl f a, List.mem_cons_self, ⟨g.1, g.2.1, g.2.2.1⟩⟩
      | bk σ => cases e
      | ct σ => cases e
    · cases t with
      | rt a =>
        obtain ⟨qs, e1, rfl⟩ := Option.map_eq_some_iff.mp (show (outA r).map (.ok a :: ·) = some ps from e)
        obtain ⟨p, hp, z⟩ := outA_ok e1 ⟨s, hr, g⟩
        exact ⟨p, List.mem_cons_of_mem _ hp, z⟩
      | nx σ =>
        obtain ⟨qs, e1, rfl⟩ := Option.map_eq_some_iff.mp (show (outA r).map (.ok (.d .none) :: ·) = some ps from e)
        obtain ⟨p, hp, z⟩ := outA_ok e1 ⟨s, hr, g⟩
        exact ⟨p, List.mem_cons_of_mem _ hp, z⟩
      | ex cl f a σ =>
        obtain ⟨qs, e1, rfl⟩ := Option.map_eq_some_iff.mp (show (outA r).map (.ex cl f a :: ·) = some ps from e)
        obtain ⟨p, hp, z⟩ := outA_ok e1 ⟨s, hr, g⟩
        exact ⟨p, List.mem_cons_of_mem _ hp, z⟩
      | bk σ => cases e
      | ct σ => cases e
theorem enter_ok {n : Nat} {xs : List A} {ds : List D} (g : γs m xs ds) : γE m (enterA n xs) (enter n ds) := by
  have len := γs_len g
  unfold enterA enter
  refine ⟨by simp [len], fun i s e => ?_⟩
  by_cases hi : i < ds.length
  · rw [List.getElem?_append_left (by simp; omega), List.getElem?_map] at e
    cases q : xs[i]? with
    | none => rw [q] at e; cases e
    | some a =>
      rw [q] at e
      cases e
      obtain ⟨d, e1, gd⟩ := γs_get g q
      exact ⟨some (.pd d), by rw [List.getElem?_append_left (by simpa using hi), List.getElem?_map, e1]; rfl, gd⟩
  · rw [List.getElem?_append_right (by simp; omega), List.getElem?_replicate] at e
    split at e
    · cases e
      refine ⟨none, ?_, rfl⟩
      rw [List.getElem?_append_right (by simpa using hi), List.getElem?_replicate, if_pos (by simp only [List.length_map] at *; omega)]
    · cases e
theorem noXA_ok {σ : AE} {ρ : Sto} (h : γE m σ ρ) (e : noXA σ = true) : noX ρ = true := by
  unfold noX
  refine List.all_eq_true.mpr fun t ht => ?_
  obtain ⟨i, hi⟩ := List.mem_iff_getElem?.mp ht
  have hl : i < σ.length := by
    have := (List.getElem?_eq_some_iff.mp hi).1
    rw [h.1]; exact this
  obtain ⟨t', e2, g⟩ := h.2 i _ (List.getElem?_eq_getElem hl)
  rw [hi] at e2
  cases e2
  have := List.all_eq_true.mp e _ (List.getElem_mem hl)
  show (!isX t) = true
  cases q : σ[i] with
  | un => rw [q] at g; rw [show isX t = false from g]; rfl
  | pd a =>
    rw [q] at g
    cases t with
    | none => rfl
    | some s => cases s <;> first | rfl | exact g.elim
  | ow a =>
    rw [q] at g
    cases t with
    | none => rfl
    | some s => cases s <;> first | rfl | exact g.elim
  | xc a b d => rw [q] at this; cases this
theorem leaveA_ok {i : Nat} : ∀ {os ps : List SO} {o : Out}, leaveA i os = some ps → (∃ s ∈ os, γo m s o) → ∃ p ∈ ps, γo m p (leave i o)
  | [], _, _, _, h => by obtain ⟨s, hs, _⟩ := h; cases hs
  | t :: r, ps, o, e, h => by
    obtain ⟨s, hs, g⟩ := h
    have clr : ∀ {σ : AE} {ρ : Sto}, γE m σ ρ → noXA (σ.set i .un) = true → γE m (σ.set i .un) (ρ.set i none) ∧ noX (ρ.set i none) = true := fun {σ ρ} gE hn => by
      have := gE.set (i := i) (s := .un) (t := none) rfl
      exact ⟨this, noXA_ok this hn⟩
    cases t with
    | nx σ =>
      have e : (if noXA (σ.set i .un) then (leaveA i r).map (.nx (σ.set i .un) :: ·) else none) = some ps := e
      split at e
      · rename_i hn
        obtain ⟨qs, e1, rfl⟩ := Option.map_eq_some_iff.mp e
        rcases List.mem_cons.mp hs with rfl | hs
        · cases o <;> first | exact g.elim | skip
          obtain ⟨g1, g2⟩ := clr g hn
          refine ⟨.nx (σ.set i .un), List.mem_cons_self, ?_⟩
          show γo m _ (clean i _ .nx)
          unfold clean
          rw [if_pos g2]
          exact g1
        · obtain ⟨p, hp, z⟩ := leaveA_ok e1 ⟨s, hs, g⟩
          exact ⟨p, List.mem_cons_of_mem _ hp, z⟩
      · cases e
    | bk σ =>
      have e : (if noXA (σ.set i .un) then (leaveA i r).map (.bk (σ.set i .un) :: ·) else none) = some ps := e
      split at e
      · rename_i hn
        obtain ⟨qs, e1, rfl⟩ := Option.map_eq_some_iff.mp e
        rcases List.mem_cons.mp hs with rfl | hs
        · cases o <;> first | exact g.elim | skip
          obtain ⟨g1, g2⟩ := clr g hn
          refine ⟨.bk (σ.set i .un), List.mem_cons_self, ?_⟩
          show γo m _ (clean i _ .bk)
          unfold clean
          rw [if_pos g2]
          exact g1
        · obtain ⟨p, hp, z⟩ := leaveA_ok e1 ⟨s, hs, g⟩
          exact ⟨p, List.mem_cons_of_mem _ hp, z⟩
      · cases e
    | ct σ =>
      have e : (if noXA (σ.set i .un) then (leaveA i r).map (.ct (σ.set i .un) :: ·) else none) = some ps := e
      split at e
      · rename_i hn
        obtain ⟨qs, e1, rfl⟩ := Option.map_eq_some_iff.mp e
        rcases List.mem_cons.mp hs with rfl | hs
        · cases o <;> first | exact g.elim | skip
          obtain ⟨g1, g2⟩ := clr g hn
          refine ⟨.ct (σ.set i .un), List.mem_cons_self, ?_⟩
          show γo m _ (clean i _ .ct)
          unfold clean
          rw [if_pos g2]
          exact g1
        · obtain ⟨p, hp, z⟩ := leaveA_ok e1 ⟨s, hs, g⟩
          exact ⟨p, List.mem_cons_of_mem _ hp, z⟩
      · cases e
    | rt a =>
      obtain ⟨qs, e1, rfl⟩ := Option.map_eq_some_iff.mp (show (leaveA i r).map (.rt a :: ·) = some ps from e)
      rcases List.mem_cons.mp hs with rfl | hs
      · cases o <;> first | exact g.elim | skip
        exact ⟨.rt a, List.mem_cons_self, g⟩
      · obtain ⟨p, hp, z⟩ := leaveA_ok e1 ⟨s, hs, g⟩
        exact ⟨p, List.mem_cons_of_mem _ hp, z⟩
    | ex a b d σ => cases e
theorem tryA_ok {sub : Str → Option Bool} {att : Str → Option Str} {i : Nat} {suite : AE → OsS} {body suiteC : Sto → Out} {ρ : Sto} (hs : ∀ σ ρ, γE m σ ρ → SatO m (suite σ) (suiteC ρ)) : ∀ {os ps : List SO}, tryA sub att i suite os = some ps → (∃ s ∈ os, γo m s (body ρ)) → ∃ p ∈ ps, γo m p (tryF sub att i body suiteC ρ)
  | [], _, _, h => by obtain ⟨s, hs, _⟩ := h; cases hs
  | t :: r, ps, e, h => by
    obtain ⟨s, hm, g⟩ := h
    have other : (∀ e ρ', body ρ ≠ .ex e ρ') → tryF sub att i body suiteC ρ = body ρ := fun hn => by
      unfold tryF
      cases q : body ρ with
      | ex e ρ' => exact absurd q (hn e ρ')
      | _ => rfl
    cases t with
    | ex cl f a σ =>
      have e : (match tryA sub att i suite r with
        | none => none
        | some ys => match sub cl with
          | some true => if att cl = some f then (match suite (σ.set i (.xc cl f a)) with
            | some os => match leaveA i os with
              | some zs => some (zs ++ ys)
              | none => none
            | none => none) else none
          | some false => some (.ex cl f a σ :: ys)
          | none => none) = some ps := e
      split at e
      · cases e
      · rename_i ys e1
        rcases List.mem_cons.mp hm with rfl | hm
        · cases q : body ρ with
          | ex ee ρ' =>
            rw [q] at g
            obtain ⟨g1, g2, g3, g4⟩ := g
            have unf : tryF sub att i body suiteC ρ = match sub ee.cls with
              | some true => if att ee.cls = some ee.attr then leave i (suiteC (ρ'.set i (some (.exc ee)))) else .bad
              | some false => .ex ee ρ'
              | none => .bad := by
              unfold tryF
              rw [q]
              all_goals rfl
            rw [unf, g1, g2]
            split at e
            · rename_i hsub
              split at e
              · rename_i hatt
                split at e
                · rename_i os2 e2
                  split at e
                  · rename_i zs e3
                    cases e
                    show ∃ p ∈ zs ++ ys, γo m p (if att cl = some f then leave i (suiteC (ρ'.set i (some (.exc ee)))) else .bad)
                    rw [if_pos hatt]
                    have gE : γE m (σ.set i (.xc cl f a)) (ρ'.set i (some (.exc ee))) := g4.set (t := some (.exc ee)) ⟨g1, g2, g3⟩
                    obtain ⟨p, hp, z⟩ := leaveA_ok e3 (hs _ _ gE os2 e2)
                    exact ⟨p, List.mem_append_left _ hp, z⟩
                  · cases e
                · cases e
              · cases e
            · rename_i hsub
              cases e
              exact ⟨.ex cl f a σ, List.mem_cons_self, ⟨g1, g2, g3, g4⟩⟩
            · cases e
          | nx _ => rw [q] at g; exact g.elim
          | rt _ => rw [q] at g; exact g.elim
          | bk _ => rw [q] at g; exact g.elim
          | ct _ => rw [q] at g; exact g.elim
          | bad => rw [q] at g; exact g.elim
        · obtain ⟨p, hp, z⟩ := tryA_ok hs e1 ⟨s, hm, g⟩
          have : p ∈ ps := by
            split at e
            · split at e
              · split at e
                · split at e
                  · cases e
                    exact List.mem_append_right _ hp
                  · cases e
                · cases e
              · cases e
            · cases e
              exact List.mem_cons_of_mem _ hp
            · cases e
          exact ⟨p, this, z⟩
    | nx σ =>
      obtain ⟨qs, e1, rfl⟩ := Option.map_eq_some_iff.mp (show (tryA sub att i suite r).map (.nx σ :: ·) = some ps from e)
      rcases List.mem_cons.mp hm with rfl | hm
      · rw [other fun ee ρ' q => by rw [q] at g; exact g]
        exact ⟨_, List.mem_cons_self, g⟩
      · obtain ⟨p, hp, z⟩ := tryA_ok hs e1 ⟨s, hm, g⟩
        exact ⟨p, List.mem_cons_of_mem _ hp, z⟩
    | rt a =>
      obtain ⟨qs, e1, rfl⟩ := Option.map_eq_some_iff.mp (show (tryA sub att i suite r).map (.rt a :: ·) = some ps from e)
      rcases List.mem_cons.mp hm with rfl | hm
      · rw [other fun ee ρ' q => by rw [q] at g; exact g]
        exact ⟨_, List.mem_cons_self, g⟩
      · obtain ⟨p, hp, z⟩ := tryA_ok hs e1 ⟨s, hm, g⟩
        exact ⟨p, List.mem_cons_of_mem _ hp, z⟩
    | bk σ =>
      obtain ⟨qs, e1, rfl⟩ := Option.map_eq_some_iff.mp (show (tryA sub att i suite r).map (.bk σ :: ·) = some ps from e)
      rcases List.mem_cons.mp hm with rfl | hm
      · rw [other fun ee ρ' q => by rw [q] at g; exact g]
        exact ⟨_, List.mem_cons_self, g⟩
      · obtain ⟨p, hp, z⟩ := tryA_ok hs e1 ⟨s, hm, g⟩
        exact ⟨p, List.mem_cons_of_mem _ hp, z⟩
    | ct σ =>
      obtain ⟨qs, e1, rfl⟩ := Option.map_eq_some_iff.mp (show (tryA sub att i suite r).map (.ct σ :: ·) = some ps from e)
      rcases List.mem_cons.mp hm with rfl | hm
      · rw [other fun ee ρ' q => by rw [q] at g; exact g]
        exact ⟨_, List.mem_cons_self, g⟩
      · obtain ⟨p, hp, z⟩ := tryA_ok hs e1 ⟨s, hm, g⟩
        exact ⟨p, List.mem_cons_of_mem _ hp, z⟩
theorem frzA_ok {i : Nat} {σ σ' : AE} {ρ : Sto} (h : γE m σ ρ) (e : frzA i σ = some σ') : γE m σ' (frz i ρ) := by
  unfold frzA at e
  split at e
  · rename_i s e1
    split at e
    · rename_i hl
      cases e
      obtain ⟨ds, e2, g⟩ := getOw_ok h e1
      unfold frz
      rw [e2]
      show γE m _ (if ds.length ≤ LIM then ρ.set i (some (.pd (.list ds))) else ρ)
      rw [if_pos (Nat.le_trans (sq_len g) hl)]
      exact h.set (t := some (.pd (.list ds))) (mkL_ok g)
    · cases e
  · rename_i hn
    cases e
    unfold frz
    split
    · rename_i xs e2
      split
      · cases q : σ[i]? with
        | none =>
          have : i < σ.length := by rw [h.1]; exact (List.getElem?_eq_some_iff.mp e2).1
          rw [List.getElem?_eq_getElem this] at q
          cases q
        | some s =>
          obtain ⟨t, e3, g⟩ := h.2 i s q
          rw [e2] at e3
          cases e3
          have gu : γE m (σ.set i .un) (ρ.set i (some (.pd (.list xs)))) := h.set rfl
          cases s with
          | un =>
            have same : σ.set i .un = σ := by
              apply List.ext_getElem?
              intro j
              by_cases hj : i = j
              · subst hj
                rw [List.getElem?_set_self', q]
                rfl
              · rw [List.getElem?_set_ne hj]
            rwa [same] at gu
          | pd a => exact g.elim
          | ow s => exact absurd q (hn s)
          | xc a b d => exact g.elim
      · exact h
    · exact h
end
end Ax

set_option Elab.async false
set_option linter.all false
set_option maxRecDepth 100000
set_option maxHeartbeats 2000000
/-! The run is sound: all terms at once. -/
namespace Ax
open PySem PySem.Spec L2 Pf

structure All (m : Mg) (c : Cc) (L : List DefE) (n : Nat) : Prop where
  pe : ∀ l f e σ ρ, Sub l L → γE m σ ρ → Sat m (γ m) (ev c n l f e σ) (sem (stage c.base l) e ρ)
  pl : ∀ l f e σ ρ, Sub l L → γE m σ ρ → Sat m (γ m) (evl c n l f e σ) (seml (stage c.base l) e ρ)
  ps : ∀ l f e σ ρ, Sub l L → γE m σ ρ → Sat m (γs m) (evs c n l f e σ) (sems (stage c.base l) e ρ)
  po : ∀ l f e σ ρ, Sub l L → γE m σ ρ → Sat m inR (evo c n l f e σ) (semo (stage c.base l) e ρ)
  pi : ∀ l f e σ ρ, Sub l L → γE m σ ρ → Sat m (γq m) (evi c n l f e σ) (semi (stage c.base l) e ρ)
  pc : ∀ l f t vs it cond elt σ ρ, Sub l L → γE m σ ρ → Sat m (γq m) (evc c n l f t vs it cond elt σ) (lcF t vs (semi (stage c.base l) it) (semc (stage c.base l) cond) (sem (stage c.base l) elt) ρ)
  pk : ∀ l k xs ds, Sub l L → γs m xs ds → Sat m (γ m) (cal c n l k xs) (callG (stage c.base l) k ds)
  px : ∀ l f s σ ρ, Sub l L → γE m σ ρ → SatO m (ex c n l f s σ) (exe (stage c.base l) s ρ)
  pxs : ∀ l f s σ ρ, Sub l L → γE m σ ρ → SatO m (exs c n l f s σ) (exes (stage c.base l) s ρ)
section
variable {m : Mg} {c : Cc} {L : List DefE}
theorem sat_none {α δ : Type} {R : α → δ → Prop} {w : Rs δ} : Sat m R none w := fun os e => by cases e
theorem satO_none {o : Out} : SatO m none o := fun os e => by cases e
theorem sat_tst {r : Os A} {w : Rs D} (h : Sat m (γ m) r w) : Sat m (fun (b k : Bool) => b = k) (bnd r fun x => many (tst x)) (w.bind asB) := h.bnd fun a d g _ => tst_ok g
theorem sat_if {α δ : Type} {R : α → δ → Prop} {r : Os Bool} {w : Rs Bool} {a b : Os α} {u v : Rs δ} (h : Sat m (fun (b k : Bool) => b = k) r w) (ha : Sat m R a u) (hb : Sat m R b v) : Sat m R (bnd r fun k => if k = true then a else b) (w.bind fun k => if k = true then u else v) :=
  h.bnd fun p q e _ => by
    subst e
    cases p with
    | true => exact ha
    | false => exact hb
theorem satO_one {s : SO} {o : Out} (h : γo m s o) : SatO m (some [s]) o := fun os e => by
  cases e
  exact ⟨s, List.mem_cons_self, h⟩
theorem satO_spl {sp : Nat → Nat} {is : List Nat} {σ : AE} {ρ : Sto} (h : γE m σ ρ) : SatO m (some ((splAll sp is σ).map .nx)) (.nx ρ) := fun os e => by
  cases e
  obtain ⟨τ, ht, g⟩ := splAll_ok (sp := sp) (is := is) h
  exact ⟨.nx τ, List.mem_map.mpr ⟨τ, ht, rfl⟩, g⟩
theorem ev_ok (K : Ok m c L) {n : Nat} (I : All m c L n) (l : List DefE) (f : Nat) (e : E) (σ : AE) (ρ : Sto) (hl : Sub l L) (h : γE m σ ρ) : Sat m (γ m) (ev c (n + 1) l f e σ) (sem (stage c.base l) e ρ) := by
  have E := fun e => I.pe l f e σ ρ hl h
  have Ll := fun e => I.pl l f e σ ρ hl h
  have Ss := fun e => I.ps l f e σ ρ hl h
  have So := fun e => I.po l f e σ ρ hl h
  cases e with
  | var i =>
    simp only [ev, sem]
    exact sat_lift fun a ea => getA_ok h ea
  | int i => simp only [ev, sem]; exact sat_ret (γd _)
  | str x => simp only [ev, sem]; exact sat_ret (γd _)
  | bl b => simp only [ev, sem]; exact sat_ret (γd _)
  | non => simp only [ev, sem]; exact sat_ret (γd _)
  | gl k =>
    simp only [ev, sem]
    have : glG (stage c.base l) k = glG c.base k := by
      unfold glG
      rw [stage_gl]
    rw [this]
    cases glG c.base k with
    | ok d => exact sat_ret (γd _)
    | ex e => exact sat_none
    | bad => exact sat_none
  | bin o a b =>
    simp only [ev, sem]
    exact (E a).bnd fun x u hx _ => (E b).bnd fun y v hy _ => sat_op fun z ez => binA_ok ez hx hy
  | neg a =>
    simp only [ev, sem]
    exact (E a).bnd fun x u hx _ => sat_lift fun z ez => negA_ok ez hx
  | cmp o a b =>
    simp only [ev, sem]
    exact (Ll a).bnd fun x u hx _ => (Ll b).bnd fun y v hy _ => sat_bools fun bs eb => cmpA_ok eb hx hy
  | ch o1 o2 a b d =>
    simp only [ev, sem]
    unfold chainF toB
    rw [Rs.bind_assoc]
    refine (Ll a).bnd fun x u hx _ => ?_
    rw [Rs.bind_assoc]
    refine (Ll b).bnd fun y v hy _ => ?_
    rw [Rs.bind_assoc]
    refine Sat.bnd (R := fun (b k : Bool) => b = k) (sat_many fun bs eb => let ⟨k, hk, q⟩ := cmpA_ok eb hx hy; ⟨k, hk, k, q, rfl⟩) fun p k hp _ => ?_
    subst hp
    cases p with
    | true =>
      simp only [if_true]
      rw [Rs.bind_assoc]
      refine (Ll d).bnd fun z w hz _ => ?_
      have := sat_bools (m := m) (o := cmpA o2 y z) (w := cmpB o2 v w) fun bs eb => cmpA_ok eb hy hz
      intro os eo
      obtain ⟨o', ho, g⟩ := this os eo
      refine ⟨o', ho, ?_⟩
      show Γr m (γ m) o' ((cmpB o2 v w).bind fun b => .ok (.bool b))
      cases q : cmpB o2 v w with
      | ok b => rw [q] at g; exact g
      | ex e => rw [q] at g; cases o' <;> exact g.elim
      | bad => rw [q] at g; cases o' <;> exact g.elim
    | false => exact sat_ret (γd _)
  | not a =>
    simp only [ev, sem]
    exact (sat_tst (E a)).bnd fun p k hp _ => by subst hp; exact sat_ret (γd _)
  | and a b =>
    simp only [ev, sem]
    exact sat_if (sat_tst (E a)) (E b) (sat_ret (γd _))
  | or a b =>
    simp only [ev, sem]
    exact sat_if (sat_tst (E a)) (sat_ret (γd _)) (E b)
  | ife d a b =>
    simp only [ev, sem]
    exact sat_if (sat_tst (E d)) (E a) (E b)
  | tup es =>
    simp only [ev, sem]
    refine (Ss es).bnd fun xs ds hx _ => ?_
    split
    · rename_i hn
      unfold limT
      rw [if_pos (by rw [← γs_len hx]; exact hn)]
      exact sat_ret (mkT_ok hx)
    · exact sat_none
  | lst es =>
    simp only [ev, sem]
    refine (Ss es).bnd fun xs ds hx _ => ?_
    split
    · rename_i hn
      unfold limT
      rw [if_pos (by rw [← γs_len hx]; exact hn)]
      exact sat_ret (mkL_ok hx)
    · exact sat_none
  | ix a b =>
    simp only [ev, sem]
    exact (E a).bnd fun x u hx _ => (E b).bnd fun y v hy _ => sat_op fun z ez => ixA_ok ez hx hy
  | oix i b =>
    simp only [ev, sem]
    exact Sat.bnd (R := γ m) (sat_lift fun a ea => getOA_ok h ea) fun x u hx _ => (E b).bnd fun y v hy _ => sat_op fun z ez => ixA_ok ez hx hy
  | sl a lo hi =>
    simp only [ev, sem]
    exact (E a).bnd fun x u hx _ => (So lo).bnd fun p q hp _ => (So hi).bnd fun p' q' hp' _ => sat_op fun z ez => slA_ok ez hx hp hp'
  | rev a =>
    simp only [ev, sem]
    exact (E a).bnd fun x u hx _ => sat_lift fun z ez => revA_ok ez hx
  | bi g es =>
    simp only [ev, sem]
    exact (Ss es).bnd fun xs ds hx _ => sat_op fun z ez => biA_ok ez hx
  | ti g es =>
    simp only [ev, sem]
    exact (Ss es).bnd fun xs ds hx _ => sat_op fun z ez => tiA_ok ez hx
  | len a =>
    simp only [ev, sem]
    exact (Ll a).bnd fun x u hx _ => sat_op fun z ez => lenA_ok ez hx
  | mt g a es =>
    simp only [ev, sem]
    refine (E a).bnd fun x u hx _ => ?_
    split
    · rename_i hs
      cases q : asStr x with
      | none => rw [q] at hs; cases hs
      | some n' =>
        obtain ⟨s, rfl, _⟩ := asStr_ok q hx
        show Sat m (γ m) _ ((sems (stage c.base l) es ρ).bind fun ds => pur (miD g (.str s) ds))
        refine (Ss es).bnd fun xs ds hxs _ => sat_op fun z ez => ?_
        obtain ⟨s', z', e1, e2, e3⟩ := miA_ok ez hx hxs
        cases e1
        exact ⟨z', e2, e3⟩
    · exact sat_none
  | call k es =>
    simp only [ev, sem]
    exact (Ss es).bnd fun xs ds hx _ => I.pk l k xs ds hl hx
  | isa a T =>
    simp only [ev, sem]
    exact (Ll a).bnd fun x u hx _ => sat_ret (isaA_ok hx)
  | isa2 a T U =>
    simp only [ev, sem]
    exact (Ll a).bnd fun x u hx _ => sat_ret (isa2A_ok hx)
  | lc t vs it cond elt =>
    simp only [ev, sem]
    exact (I.pc l f t vs it cond elt σ ρ hl h).bnd fun s ds hs _ => sat_ret (mkL_ok hs)
  | lenks t vs it cond elt => simp only [ev]; exact sat_none
  | xat i g =>
    simp only [ev, sem]
    split
    · rename_i cl g' a e1
      split
      · rename_i hh
        obtain ⟨t, e2, gg⟩ := h.2 i _ e1
        cases t with
        | none => exact gg.elim
        | some s =>
          cases s with
          | exc x =>
            obtain ⟨g1, g2, g3⟩ := gg
            have : getX ρ i = .ok x := by
              unfold getX
              rw [e2]
            rw [this, stage_at]
            show Sat m (γ m) _ (if c.base.at_ x.cls = some g ∧ x.attr = g then .ok x.val else .bad)
            rw [if_pos ⟨by rw [g1]; exact hh.1, by rw [g2]; exact hh.2⟩]
            exact sat_ret g3
          | pd d => exact gg.elim
          | own xs => exact gg.elim
      · exact sat_none
    · exact sat_none
  | xis i y =>
    simp only [ev, sem]
    split
    · rename_i cl g' a e1
      split
      · rename_i b e3
        obtain ⟨t, e2, gg⟩ := h.2 i _ e1
        cases t with
        | none => exact gg.elim
        | some s =>
          cases s with
          | exc x =>
            obtain ⟨g1, g2, g3⟩ := gg
            have : getX ρ i = .ok x := by
              unfold getX
              rw [e2]
            rw [this, stage_sb]
            show Sat m (γ m) _ (opt (c.base.sb x.cls y) PyData.bool)
            rw [g1, e3]
            exact sat_ret (γd _)
          | pd d => exact gg.elim
          | own xs => exact gg.elim
      · exact sat_none
    · exact sat_none
  | dic0 => simp only [ev, sem]; exact sat_ret (γd _)
  | lenset a =>
    simp only [ev, sem]
    rw [Rs.bind_assoc]
    refine (Ll a).bnd fun x u hx _ => sat_lift fun z ez => ?_
    obtain ⟨ks, e1, e2⟩ := lsA_ok ez hx
    exact ⟨.int ks.length, by rw [e1]; rfl, e2⟩
  | mz g a =>
    simp only [ev, sem]
    exact (E a).bnd fun x u hx _ => sat_lift fun z ez => mzA_ok ez hx
  | lstR a k es =>
    simp only [ev, sem]
    rw [Rs.bind_assoc, Rs.bind_assoc]
    refine (E a).bnd fun x u hx _ => ?_
    split
    · rename_i y ey
      obtain ⟨w, e1, e2⟩ := binA_ok ey hx (γd (m := m) (.str k))
      rw [e1]
      show Sat m (γ m) _ (((sems (stage c.base l) es ρ).bind fun xs => .ok (w :: xs)).bind fun xs => limT xs .list)
      rw [Rs.bind_assoc]
      refine (Ss es).bnd fun xs ds hxs _ => ?_
      split
      · rename_i hn
        have g : γs m (y :: xs) (w :: ds) := by
          unfold γs
          exact ⟨e2, hxs⟩
        show Sat m (γ m) _ (limT (w :: ds) .list)
        unfold limT
        rw [if_pos (by rw [← γs_len g]; exact hn)]
        exact sat_ret (mkL_ok (s := .ex _) g)
      · exact sat_none
    · exact sat_none
theorem evs_ok {n : Nat} (I : All m c L n) (l : List DefE) (f : Nat) (e : Es) (σ : AE) (ρ : Sto) (hl : Sub l L) (h : γE m σ ρ) : Sat m (γs m) (evs c (n + 1) l f e σ) (sems (stage c.base l) e ρ) := by
  cases e with
  | nil =>
    simp only [evs, sems]
    exact sat_ret (by simp [γs])
  | cons e es =>
    simp only [evs, sems]
    exact (I.pe l f e σ ρ hl h).bnd fun x u hx _ => (I.ps l f es σ ρ hl h).bnd fun xs ds hxs _ => sat_ret (by unfold γs; exact ⟨hx, hxs⟩)
  | rep a y z es =>
    simp only [evs, sems]
    rw [Rs.bind_assoc]
    have h1 : Sat m (γ m) (bnd (ev c n l f a σ) fun x => lift (repA x y z)) ((sem (stage c.base l) a ρ).bind fun x => repD x y z) := (I.pe l f a σ ρ hl h).bnd fun x u hx _ => sat_lift fun w ew => repA_ok ew hx
    have := h1.bnd (S := γs m) (k := fun x => bnd (evs c n l f es σ) fun xs => ret (x :: xs)) (g := fun x => (sems (stage c.base l) es ρ).bind fun xs => .ok (x :: xs)) fun x u hx _ => (I.ps l f es σ ρ hl h).bnd fun xs ds hxs _ => sat_ret (by unfold γs; exact ⟨hx, hxs⟩)
    rw [Rs.bind_assoc] at this
    exact this
theorem evo_ok {n : Nat} (I : All m c L n) (l : List DefE) (f : Nat) (e : Eo) (σ : AE) (ρ : Sto) (hl : Sub l L) (h : γE m σ ρ) : Sat m inR (evo c (n + 1) l f e σ) (semo (stage c.base l) e ρ) := by
  cases e with
  | none =>
    simp only [evo, semo]
    exact sat_ret rfl
  | some e =>
    simp only [evo, semo]
    refine (I.pe l f e σ ρ hl h).bnd fun x u hx _ => sat_lift fun a ea => ?_
    obtain ⟨p, e1, rfl⟩ := Option.map_eq_some_iff.mp ea
    obtain ⟨i, rfl, h1, h2⟩ := asInt_ok (l := p.1) (h := p.2) e1 hx
    exact ⟨some i, rfl, i, rfl, h1, h2⟩
theorem evi_ok {n : Nat} (I : All m c L n) (l : List DefE) (f : Nat) (e : Pf.I) (σ : AE) (ρ : Sto) (hl : Sub l L) (h : γE m σ ρ) : Sat m (γq m) (evi c (n + 1) l f e σ) (semi (stage c.base l) e ρ) := by
  cases e with
  | val e =>
    simp only [evi, semi]
    exact (I.pe l f e σ ρ hl h).bnd fun x u hx _ => sat_lift fun s es => itemsA_ok es hx
  | r1 a =>
    simp only [evi, semi]
    refine (I.pe l f a σ ρ hl h).bnd fun x u hx _ => sat_lift fun s es => ?_
    obtain ⟨ds, e1, e2⟩ := rngA_ok es (γd (m := m) (.int 0)) hx
    exact ⟨ds, rng12 e1, e2⟩
  | r2 a b =>
    simp only [evi, semi]
    exact (I.pe l f a σ ρ hl h).bnd fun x u hx _ => (I.pe l f b σ ρ hl h).bnd fun y v hy _ => sat_lift fun s es => rngA_ok es hx hy
  | enum a =>
    simp only [evi, semi]
    exact (I.pe l f a σ ρ hl h).bnd fun x u hx _ => sat_lift fun s es => enA_ok es hx
theorem evc_ok {n : Nat} (I : All m c L n) (l : List DefE) (f : Nat) (t : Tg) (vs : List Nat) (it : Pf.I) (cond : Eo) (elt : E) (σ : AE) (ρ : Sto) (hl : Sub l L) (h : γE m σ ρ) :
    Sat m (γq m) (evc c (n + 1) l f t vs it cond elt σ) (lcF t vs (semi (stage c.base l) it) (semc (stage c.base l) cond) (sem (stage c.base l) elt) ρ) := by
  simp only [evc]
  unfold lcF
  refine (I.pi l f it σ ρ hl h).bnd fun s ds hs _ => ?_
  split
  · rename_i hn
    rw [if_pos (Nat.le_trans (sq_len hs) hn)]
    refine sat_lift fun s' es' => ?_
    have hM : MembOk m (fun a => match asgA t a (wipeA σ vs) with
        | none => none
        | some σ1 => match (match cond with
            | .none => some [true]
            | .some e => oksO (bnd (ev c n l f e σ1) fun x => many (tst x))) with
          | none => none
          | some cs => memb cs (oksO (ev c n l f elt σ1))) t (semc (stage c.base l) cond) (sem (stage c.base l) elt) (wipeR ρ vs) := by
      intro a d o b ga eo
      dsimp only at eo
      split at eo
      · cases eo
      · rename_i σ1 e1
        obtain ⟨ρ1, h1, g1⟩ := asgA_ok (wipeA_ok h vs) ga e1
        refine ⟨ρ1, h1, ?_⟩
        split at eo
        · cases eo
        · rename_i cs ec
          have cond_ok : ∃ k, semc (stage c.base l) cond ρ1 = .ok k ∧ k ∈ cs := by
            cases cond with
            | none =>
              cases ec
              exact ⟨true, by simp only [semc], by simp⟩
            | some e =>
              obtain ⟨p, hp, k, q, rfl⟩ := oksO_ok (sat_tst (I.pe l f e σ1 ρ1 hl g1)) ec
              exact ⟨p, by simp only [semc]; exact q, hp⟩
          obtain ⟨k, hk, hm⟩ := cond_ok
          refine ⟨k, hk, fun kt => ?_, fun kf => ?_⟩
          · subst kt
            unfold memb at eo
            split at eo
            · rename_i ha
              have := List.all_eq_true.mp ha true hm
              cases this
            · split at eo
              · rename_i as ea
                cases eo
                obtain ⟨a', ha', z, q, gz⟩ := oksO_ok (I.pe l f elt σ1 ρ1 hl g1) ea
                exact ⟨_, z, rfl, q, uni_ok ha' gz⟩
              · cases eo
          · subst kf
            unfold memb at eo
            split at eo
            · cases eo
              exact .inl rfl
            · split at eo
              · cases eo
                refine .inr ?_
                cases q : cs.all id with
                | false => rfl
                | true =>
                  have := List.all_eq_true.mp q false hm
                  cases this
              · cases eo
    obtain ⟨ys, e1, e2⟩ := lcA_ok hM hs es'
    rw [e1]
    exact ⟨ys, rfl, e2⟩
  · exact sat_none
theorem cal_ok (K : Ok m c L) {n : Nat} (I : All m c L n) (l : List DefE) (k : Nat) (xs : List A) (ds : List D) (hl : Sub l L) (g : γs m xs ds) : Sat m (γ m) (cal c (n + 1) l k xs) (callG (stage c.base l) k ds) := by
  simp only [cal]
  rw [call_at K.fs0 hl.1]
  split
  · exact sat_none
  · rename_i p e1
    rw [e1]
    split
    · rename_i hn
      show Sat m (γ m) _ (if ds.length = p.1.ar then mDef (stage c.base p.2) p.1.n p.1.b ds else .bad)
      rw [if_pos (by rw [← γs_len g]; exact hn)]
      split
      · rename_i os e2
        intro os' eo
        cases eo
        exact K.orc k p xs os (hl.2 k p e1) e2 hn ds g
      · split
        · rename_i os e3
          intro ps ep
          obtain ⟨q1, q2⟩ := look_ok hl.1 e1
          have sub : Sub p.2 L := ⟨q1, fun j q hq => hl.2 j q (q2 j q hq)⟩
          exact outA_ok ep (I.pxs p.2 p.1.id p.1.b _ _ sub (enter_ok g) os e3)
        · exact sat_none
    · exact sat_none
theorem ex_ok {n : Nat} (I : All m c L n) (l : List DefE) (f : Nat) (s : S) (σ : AE) (ρ : Sto) (hl : Sub l L) (h : γE m σ ρ) : SatO m (ex c (n + 1) l f s σ) (exe (stage c.base l) s ρ) := by
  cases s with
  | asg t e =>
    simp only [ex, exe]
    refine ofO_ok (I.pe l f e σ ρ hl h) h fun a d g _ => ?_
    split
    · rename_i σ' e1
      obtain ⟨ρ', e2, g2⟩ := asgA_ok h g e1
      unfold asgO
      rw [e2]
      exact satO_spl g2
    · exact satO_none
  | own i es =>
    simp only [ex, exe]
    refine ofO_ok (I.ps l f es σ ρ hl h) h fun xs ds g _ => ?_
    split
    · rename_i hn
      rw [if_pos (by rw [← γs_len g]; exact hn)]
      exact satO_one (s := .nx _) (h.set (t := some (.own ds)) g)
    · exact satO_none
  | ownLc i t vs it cond elt =>
    simp only [ex, exe]
    exact ofO_ok (I.pc l f t vs it cond elt σ ρ hl h) h fun s ds g _ => satO_one (s := .nx _) (h.set (t := some (.own ds)) g)
  | app i e =>
    simp only [ex, exe]
    split
    · rename_i s e1
      obtain ⟨ds, e2, g⟩ := getOw_ok h e1
      unfold apF
      have : ownAt ρ i = .ok ds := by
        unfold ownAt
        rw [e2]
      rw [this]
      show SatO m _ (Out.ofR (sem (stage c.base l) e ρ) ρ fun d => if ds.length < LIM then .nx (ρ.set i (some (.own (ds ++ [d])))) else .bad)
      refine ofO_ok (I.pe l f e σ ρ hl h) h fun a d ga _ => ?_
      split
      · rename_i hn
        rw [if_pos (Nat.lt_of_le_of_lt (sq_len g) hn)]
        have one : γq m (.ex [a]) [d] := by show γs m [a] [d]; simp only [γs, and_true]; exact ga
        exact satO_one (s := .nx _) (h.set (t := some (.own (ds ++ [d]))) (sqApp_ok g one))
      · exact satO_none
    · exact satO_none
  | par is es =>
    simp only [ex, exe]
    refine ofO_ok (I.ps l f es σ ρ hl h) h fun xs ds g _ => ?_
    split
    · rename_i hn
      rw [if_pos (by rw [← γs_len g]; exact hn)]
      exact satO_spl (setAllA_ok h g)
    · exact satO_none
  | exp e =>
    simp only [ex, exe]
    exact ofO_ok (I.pe l f e σ ρ hl h) h fun a d g _ => satO_one (s := .nx σ) h
  | ret e =>
    simp only [ex, exe]
    exact ofO_ok (I.pe l f e σ ρ hl h) h fun a d g _ => satO_one (s := .rt a) g
  | retN =>
    simp only [ex, exe]
    exact satO_one (s := .rt _) (γd (m := m) .none)
  | pass => simp only [ex, exe]; exact satO_one (s := .nx σ) h
  | brk => simp only [ex, exe]; exact satO_one (s := .bk σ) h
  | cont => simp only [ex, exe]; exact satO_one (s := .ct σ) h
  | ife d a b =>
    simp only [ex, exe]
    refine ofO_ok (sat_tst (I.pe l f d σ ρ hl h)) h fun p k hp _ => ?_
    subst hp
    cases p with
    | true => exact I.pxs l f a σ ρ hl h
    | false => exact I.pxs l f b σ ρ hl h
  | «for» t it b =>
    simp only [ex, exe]
    unfold forF
    refine ofO_ok (I.pi l f it σ ρ hl h) h fun s ds g _ => ?_
    refine lpA_ok (fun a d τ ρ' ga gE => ?_) g h
    split
    · rename_i τ' e1
      obtain ⟨ρ2, e2, g2⟩ := asgA_ok gE ga e1
      have : (asgO t d ρ').seq (exes (stage c.base l) b) = exes (stage c.base l) b ρ2 := by
        unfold asgO
        rw [e2]
        rfl
      rw [this]
      intro os eo
      obtain ⟨υ, hu, g3⟩ := splAll_ok (sp := c.sp f) (is := t.slots) g2
      exact mapO_ok eo ⟨υ, hu, I.pxs l f b υ ρ2 hl g3⟩
    · exact satO_none
  | whl k c' b => simp only [ex]; exact satO_none
  | rai x g e =>
    simp only [ex, exe]
    exact ofO_ok (I.pe l f e σ ρ hl h) h fun a d ga _ => satO_one (s := .ex x g a σ) ⟨rfl, rfl, ga, h⟩
  | «try» i y a b =>
    simp only [ex, exe]
    split
    · rename_i os e1
      rw [stage_sb, stage_at]
      intro ps ep
      exact tryA_ok (body := exes (stage c.base l) a) (suiteC := exes (stage c.base l) b) (fun τ ρ' g => I.pxs l f b τ ρ' hl g) ep (I.pxs l f a σ ρ hl h os e1)
    · exact satO_none
theorem exs_ok {n : Nat} (I : All m c L n) (l : List DefE) (f : Nat) (s : Ss) (σ : AE) (ρ : Sto) (hl : Sub l L) (h : γE m σ ρ) : SatO m (exs c (n + 1) l f s σ) (exes (stage c.base l) s ρ) := by
  cases s with
  | nil => simp only [exs, exes]; exact satO_one (s := .nx σ) h
  | cons s ss =>
    simp only [exs, exes]
    exact seqS_ok (I.px l f s σ ρ hl h) fun τ ρ' g => I.pxs l f ss τ ρ' hl g
  | frz i ss =>
    simp only [exs, exes]
    split
    · rename_i σ' e1
      exact I.pxs l f ss σ' _ hl (frzA_ok h e1)
    · exact satO_none
theorem evl_ok {n : Nat} (I : All m c L n) (l : List DefE) (f : Nat) (e : Pf.L) (σ : AE) (ρ : Sto) (hl : Sub l L) (h : γE m σ ρ) : Sat m (γ m) (evl c (n + 1) l f e σ) (seml (stage c.base l) e ρ) := by
  cases e with
  | ov i =>
    simp only [evl, seml]
    exact sat_lift fun a ea => getOA_ok h ea
  | ex e =>
    simp only [evl, seml]
    exact I.pe l f e σ ρ hl h
theorem all_ok (K : Ok m c L) : ∀ n : Nat, All m c L n
  | 0 => {
    pe := fun _ _ _ _ _ _ _ => by simp only [ev]; exact sat_none
    pl := fun _ _ _ _ _ _ _ => by simp only [evl]; exact sat_none
    ps := fun _ _ _ _ _ _ _ => by simp only [evs]; exact sat_none
    po := fun _ _ _ _ _ _ _ => by simp only [evo]; exact sat_none
    pi := fun _ _ _ _ _ _ _ => by simp only [evi]; exact sat_none
    pc := fun _ _ _ _ _ _ _ _ _ _ _ => by simp only [evc]; exact sat_none
    pk := fun _ _ _ _ _ _ => by simp only [cal]; exact sat_none
    px := fun _ _ _ _ _ _ _ => by simp only [ex]; exact satO_none
    pxs := fun _ _ _ _ _ _ _ => by simp only [exs]; exact satO_none }
  | n + 1 => have I := all_ok K n; {
    pe := ev_ok K I
    pl := evl_ok I
    ps := evs_ok I
    po := evo_ok I
    pi := evi_ok I
    pc := evc_ok I
    pk := cal_ok K I
    px := ex_ok I
    pxs := exs_ok I }
/-- what the run finds of a call is so -/
theorem run_ok (K : Ok m c L) {n k : Nat} {xs : List A} {ds : List D} {os : List (Ro A)} (e : cal c n L k xs = some os) (g : γs m xs ds) : ∃ o ∈ os, Γr m (γ m) o (callG (stage c.base L) k ds) :=
  (all_ok K n).pk L k xs ds ⟨K.ids, fun _ _ h => h⟩ g os e
end
end Ax

set_option Elab.async false
set_option linter.all false
set_option maxRecDepth 100000
/-! Names and addresses, on lists of codes. -/
namespace Pf
open PySem PySem.Spec L2

def letter (c : Nat) : Bool := decide (97 ≤ c) && decide (c ≤ 122)
def digit (c : Nat) : Bool := decide (48 ≤ c) && decide (c ≤ 57)
def nameL (l : List Nat) : Bool := decide (1 ≤ l.length) && decide (l.length ≤ 8) && l.all letter
def valueL (l : List Nat) : Bool := decide (l.length ≤ 8) && l.all fun c => letter c || digit c
abbrev LETT : Str := "abcdefghijklmnopqrstuvwxyz"
abbrev DIG : Str := "0123456789"
theorem sub_lett : ∀ c < 128, hasSub (mk [c]) LETT = letter c := by decide +kernel
theorem sub_both : ∀ c < 128, hasSub (mk [c]) (LETT ++ DIG) = (letter c || digit c) := by decide +kernel
/-- the turns of a comprehension without a test, whose members have no exception -/
theorem compL_map {t : Tg} {elt : Sto → Rs D} {ρ0 : Sto} {f : D → D} : ∀ {ds : List D}, (∀ d ∈ ds, ∃ ρ1, asgT t d ρ0 = .ok ρ1 ∧ elt ρ1 = .ok (f d)) → compL t (fun _ => .ok true) elt ρ0 ds = .ok (ds.map f)
  | [], _ => rfl
  | d :: ds, h => by
    obtain ⟨ρ1, h1, h2⟩ := h d (by simp)
    unfold compL
    rw [h1, Rs.bind_ok, show noEx (Rs.ok true) = Rs.ok true from rfl, Rs.bind_ok, if_pos rfl, h2, show noEx (Rs.ok (f d)) = Rs.ok (f d) from rfl, Rs.bind_ok, compL_map fun e he => h e (List.mem_cons_of_mem _ he)]
    rfl
theorem boolsOf_map {α : Type} (f : α → Bool) : ∀ l : List α, boolsOf (l.map fun a => .bool (f a)) = some (l.map f)
  | [] => rfl
  | a :: l => by
    show (boolsOf (.bool (f a) :: l.map fun a => .bool (f a))) = _
    unfold boolsOf
    rw [boolsOf_map f l]
    rfl
theorem alll_map {α : Type} (f : α → Bool) (l : List α) : biD .alll [.list (l.map fun a => .bool (f a))] = .ok (.bool (l.all f)) := by
  show opt (boolsOf (l.map fun a => .bool (f a))) (fun bs => PyData.bool (bs.all id)) = _
  rw [boolsOf_map]
  show Rs.ok (PyData.bool ((l.map f).all id)) = _
  rw [List.all_map]
  rfl
end Pf

set_option Elab.async false
set_option linter.all false
set_option maxRecDepth 100000
/-! Names, values, queries, addresses: what the program's and the laws' own checks say, on lists of codes. -/
namespace Pf
open PySem PySem.Spec L2

/-! ### cutting -/
def spl (c : Nat) (l : List Nat) : List (List Nat) := TL.spl [c] 0 [] l
def cutAt (c : Nat) (l : List Nat) : List Nat × Option (List Nat) := match TL.par [c] [] l with
  | some (p, q) => (p, some q)
  | none => (l, none)
theorem pre1 (c d : Nat) (r : List Nat) : TL.pre [c] (d :: r) = (c == d) := by
  unfold TL.pre
  simp [Bool.beq_comm]
theorem spl_par {c : Nat} : ∀ {l acc : List Nat}, TL.spl [c] 0 acc l = match TL.par [c] acc l with
    | some (p, q) => p :: TL.spl [c] 0 [] q
    | none => [acc ++ l]
  | [], acc => by
    rw [TL.spl_nil]
    show _ = (match TL.par [c] acc [] with
      | some (p, q) => p :: TL.spl [c] 0 [] q
      | none => [acc ++ []])
    rw [show TL.par [c] acc [] = none from rfl, List.append_nil]
  | d :: r, acc => by
    cases e : TL.pre [c] (d :: r) with
    | true =>
      rw [TL.spl_hit e, TL.par_hit e]
      rfl
    | false =>
      rw [TL.spl_miss e, TL.par_miss e, spl_par (l := r) (acc := acc ++ [d])]
      cases TL.par [c] (acc ++ [d]) r with
      | none => simp
      | some p => rfl
theorem spl_cut (c : Nat) (l : List Nat) : spl c l = match (cutAt c l).2 with
    | some q => (cutAt c l).1 :: spl c q
    | none => [l] := by
  unfold spl cutAt
  rw [spl_par]
  cases TL.par [c] [] l with
  | none => rfl
  | some p => rfl
theorem spl_ne (c : Nat) (l : List Nat) : spl c l ≠ [] := by
  rw [spl_cut]
  cases (cutAt c l).2 <;> simp
theorem par_parts {c : Nat} : ∀ {l acc p q : List Nat}, TL.par [c] acc l = some (p, q) → acc ++ l = p ++ c :: q
  | [], acc, p, q, h => by cases h
  | d :: r, acc, p, q, h => by
    cases e : TL.pre [c] (d :: r) with
    | true =>
      rw [TL.par_hit e] at h
      cases h
      rw [pre1] at e
      rw [eq_of_beq e]
      rfl
    | false =>
      rw [TL.par_miss e] at h
      have := par_parts h
      rw [← this, List.append_assoc]
      rfl
theorem cut_parts {c : Nat} {l q : List Nat} (h : (cutAt c l).2 = some q) : l = (cutAt c l).1 ++ c :: q := by
  unfold cutAt at h ⊢
  cases e : TL.par [c] [] l with
  | none => rw [e] at h; cases h
  | some p =>
    rw [e] at h
    cases h
    exact par_parts e
theorem cut_none {c : Nat} {l : List Nat} (h : (cutAt c l).2 = none) : (cutAt c l).1 = l := by
  unfold cutAt at h ⊢
  cases e : TL.par [c] [] l with
  | none => rfl
  | some p => rw [e] at h; cases h
theorem cut_out {c : Nat} {l : List Nat} (h : c ∉ l) : cutAt c l = (l, none) := by
  unfold cutAt
  rw [TL.par_none1 h]
theorem cut_in {c : Nat} {l : List Nat} (h : c ∈ l) : ∃ q, (cutAt c l).2 = some q := by
  unfold cutAt
  cases e : TL.par [c] [] l with
  | none =>
    exfalso
    have : ∀ {l acc : List Nat}, TL.par [c] acc l = none → c ∉ l := by
      intro l
      induction l with
      | nil => intro acc _ h; cases h
      | cons d r ih =>
        intro acc e h
        cases e2 : TL.pre [c] (d :: r) with
        | true => rw [TL.par_hit e2] at e; cases e
        | false =>
          rw [TL.par_miss e2] at e
          rcases List.mem_cons.mp h with h | h
          · rw [pre1, h] at e2
            simp at e2
          · exact ih e h
    exact this e h
  | some p => exact ⟨_, rfl⟩
theorem spl_out {c : Nat} {l : List Nat} (h : c ∉ l) : spl c l = [l] := by
  rw [spl_cut, cut_out h]
theorem spl_mem2 {s c : Nat} (ne : c ≠ s) : ∀ {n : Nat} {l : List Nat}, l.length ≤ n → c ∈ l → ∃ w ∈ spl s l, c ∈ w
  | 0, l, hn, h => by
    have : l = [] := List.length_eq_zero_iff.mp (by omega)
    subst this
    cases h
  | n + 1, l, hn, h => by
    rw [spl_cut]
    cases e : (cutAt s l).2 with
    | none => exact ⟨l, by simp, h⟩
    | some q =>
      have parts := cut_parts e
      rw [parts] at h
      rcases List.mem_append.mp h with h | h
      · exact ⟨_, List.mem_cons_self, h⟩
      · rcases List.mem_cons.mp h with h | h
        · exact absurd h ne
        · have : q.length ≤ n := by
            have := congrArg List.length parts
            rw [List.length_append, List.length_cons] at this
            omega
          obtain ⟨w, hw, hc⟩ := spl_mem2 ne this h
          exact ⟨w, List.mem_cons_of_mem _ hw, hc⟩
theorem spl_two {s : Nat} {l : List Nat} (h : s ∈ l) : 2 ≤ (spl s l).length := by
  obtain ⟨q, e⟩ := cut_in h
  rw [spl_cut, e]
  have := spl_ne s q
  cases e2 : spl s q with
  | nil => exact absurd e2 this
  | cons a r => rw [List.length_cons, e2, List.length_cons]; omega
/-! ### what an address is -/
def goodP (w : List Nat) : Bool := match (cutAt 61 w).2 with
  | some v => nameL (cutAt 61 w).1 && valueL v
  | none => false
def keyP (w : List Nat) : Key := .inr (mk (cutAt 61 w).1)
def queryL (l : List Nat) : Bool := decide ((spl 38 l).length ≤ 4) && decide ((met ((spl 38 l).map keyP)).length = (spl 38 l).length) && (spl 38 l).all goodP
def addrL (l : List Nat) : Bool := decide ((spl 47 (cutAt 63 l).1).length ≤ 7) && (spl 47 (cutAt 63 l).1).all nameL && (match (cutAt 63 l).2 with
  | some q => queryL q
  | none => true)
def nameD : D → Bool
  | .str x => nameL (cl x)
  | _ => false
def addrD : D → Bool
  | .str x => addrL (cl x)
  | _ => false
theorem name_no {c : Nat} {l : List Nat} (h : nameL l = true) (hc : c ∈ l) : 97 ≤ c ∧ c ≤ 122 := by
  unfold nameL at h
  simp only [Bool.and_eq_true] at h
  have := List.all_eq_true.mp h.2 c hc
  simpa [letter] using this
theorem value_no {c : Nat} {l : List Nat} (h : valueL l = true) (hc : c ∈ l) : (97 ≤ c ∧ c ≤ 122) ∨ (48 ≤ c ∧ c ≤ 57) := by
  unfold valueL at h
  simp only [Bool.and_eq_true] at h
  have := List.all_eq_true.mp h.2 c hc
  simpa [letter, digit] using this
/-- a sign that stands in no name and no value -/
theorem good_no {c : Nat} {w : List Nat} (hc : c ∈ w) (n1 : c ≠ 61) (n2 : ¬ (97 ≤ c ∧ c ≤ 122)) (n3 : ¬ (48 ≤ c ∧ c ≤ 57)) : goodP w = false := by
  unfold goodP
  cases e : (cutAt 61 w).2 with
  | none => rfl
  | some v =>
    have parts := cut_parts e
    cases hb : (nameL (cutAt 61 w).1 && valueL v) with
    | false => exact hb
    | true =>
      exfalso
      rw [Bool.and_eq_true] at hb
      rw [parts] at hc
      rcases List.mem_append.mp hc with h | h
      · exact n2 (name_no hb.1 h)
      · rcases List.mem_cons.mp h with h | h
        · exact n1 h
        · exact (value_no hb.2 h).elim n2 n3
theorem query_no {c : Nat} {q : List Nat} (hc : c ∈ q) (n0 : c ≠ 38) (n1 : c ≠ 61) (n2 : ¬ (97 ≤ c ∧ c ≤ 122)) (n3 : ¬ (48 ≤ c ∧ c ≤ 57)) : queryL q = false := by
  obtain ⟨w, hw, h⟩ := spl_mem2 n0 (Nat.le_refl _) hc
  unfold queryL
  have : (spl 38 q).all goodP = false := by
    cases e : (spl 38 q).all goodP with
    | false => rfl
    | true =>
      have := List.all_eq_true.mp e w hw
      rw [good_no h n1 n2 n3] at this
      cases this
  rw [this, Bool.and_false]
end Pf

set_option Elab.async false
set_option linter.all false
set_option maxRecDepth 100000
/-! What is_name, is_value, .. compute. -/
namespace Pf
open PySem PySem.Spec L2

structure G1 (Γ : Gs) : Prop where
  le : glG Γ 0 = .ok (.str LETT)
  di : glG Γ 1 = .ok (.str DIG)
  ml : glG Γ 2 = .ok (.int 8)
theorem lc_map' {i : Nat} {items : Sto → Rs (List D)} {elt : Sto → Rs D} {ρ : Sto} {ds : List D} {f : D → D} (hi : items ρ = .ok ds) (hl : ds.length ≤ LIM) (h : ∀ d ∈ ds, elt ((wipeR ρ [i]).set i (some (.pd d))) = .ok (f d)) : lcF (.nm i) [i] items (fun _ => .ok true) elt ρ = .ok (ds.map f) := by
  unfold lcF
  rw [hi, Rs.bind_ok, if_pos hl, compL_map (f := f) fun d hd => ⟨_, rfl, h d hd⟩]
  rfl
theorem compL_filter {t : Tg} {cond : Sto → Rs Bool} {elt : Sto → Rs D} {ρ0 : Sto} {p : D → Bool} : ∀ {ds : List D}, (∀ d ∈ ds, ∃ ρ1, asgT t d ρ0 = .ok ρ1 ∧ cond ρ1 = .ok (p d) ∧ elt ρ1 = .ok d) → compL t cond elt ρ0 ds = .ok (ds.filter p)
  | [], _ => rfl
  | d :: ds, h => by
    obtain ⟨ρ1, h1, h2, h3⟩ := h d (by simp)
    have ih := compL_filter fun e he => h e (List.mem_cons_of_mem _ he)
    show (asgT t d ρ0).bind _ = _
    rw [h1, Rs.bind_ok, h2, show noEx (Rs.ok (p d)) = Rs.ok (p d) from rfl, Rs.bind_ok]
    cases q : p d with
    | true =>
      rw [if_pos rfl, h3, show noEx (Rs.ok d) = Rs.ok d from rfl, Rs.bind_ok, ih, Rs.bind_ok, List.filter_cons, q]
      rfl
    | false =>
      rw [if_neg Bool.false_ne_true, ih, List.filter_cons, q]
      rfl
theorem lc_filter {i : Nat} {items : Sto → Rs (List D)} {cond : Sto → Rs Bool} {elt : Sto → Rs D} {ρ : Sto} {ds : List D} {p : D → Bool} (hi : items ρ = .ok ds) (hl : ds.length ≤ LIM) (h : ∀ d ∈ ds, cond ((wipeR ρ [i]).set i (some (.pd d))) = .ok (p d) ∧ elt ((wipeR ρ [i]).set i (some (.pd d))) = .ok d) : lcF (.nm i) [i] items cond elt ρ = .ok (ds.filter p) := by
  unfold lcF
  rw [hi, Rs.bind_ok, if_pos hl, compL_filter (p := p) fun d hd => ⟨_, rfl, h d hd⟩]
  rfl
/-- the signs of a text, as texts -/
def chs (l : List Nat) : List D := l.map fun c => .str (mk [c])
theorem len_ch {x : Str} (hl : x.length ≤ LIM) : (chs (cl x)).length ≤ LIM := by
  unfold chs
  rw [List.length_map, ← len_cl]
  exact hl
theorem str_ok {l : List Nat} (h : ∀ c ∈ l, c < 128) : asc (mk l) = true := asc_iff.mpr h
theorem chain18 {f : Sto → Rs D} {n : Nat} {ρ : Sto} (h : f ρ = .ok (.int n)) : chainF .le .le (fun _ => .ok (.int 1)) f (fun _ => .ok (.int 8)) ρ = .ok (decide (1 ≤ n) && decide (n ≤ 8)) := by
  unfold chainF
  rw [Rs.bind_ok, h, Rs.bind_ok]
  show (Rs.ok (decide ((1 : Int) ≤ n))).bind (fun k => if k = true then Rs.ok (decide ((n : Int) ≤ 8)) else Rs.ok false) = _
  rw [Rs.bind_ok]
  by_cases h1 : 1 ≤ n
  · rw [if_pos (decide_eq_true (by omega)), decide_eq_true h1]
    by_cases h2 : n ≤ 8
    · rw [decide_eq_true h2, decide_eq_true (by omega)]; rfl
    · rw [decide_eq_false h2, decide_eq_false (by omega)]; rfl
  · rw [if_neg (by rw [decide_eq_false (by omega)]; exact Bool.false_ne_true), decide_eq_false h1]; rfl
theorem all_of {α : Type} {r : Rs (List D)} {l : List α} {f : α → Bool} (h : r = .ok (l.map fun a => .bool (f a))) : ((r.bind fun ds => Rs.ok (PyData.list ds)).bind fun x => (Rs.ok []).bind fun xs => Rs.ok (x :: xs)).bind (fun ds => pur (biD .alll ds)) = .ok (.bool (l.all f)) := by
  rw [h]
  simp only [Rs.bind_ok]
  rw [alll_map]
  rfl
section
variable {Γ : Gs}
theorem is_name_str (g : G1 Γ) {x : Str} (a : asc x = true) (hl : x.length ≤ LIM) : mDef Γ 2 T.is_name [.str x] = .ok (.bool (nameL (cl x))) := by
  have comp : lcF (Tg.nm 1) [1] (semi Γ (I.val (E.var 0))) (semc Γ Eo.none) (fun x => (getP x 1).bind fun x => (glG Γ 0).bind fun y => pur (cmpD Cm.inn x y)) [some (.pd (.str x)), none] = .ok ((cl x).map fun c => .bool (letter c)) := by
    let f : D → D := fun d => match d with
      | .str z => .bool ((cl z).all letter)
      | d => d
    have := lc_map' (i := 1) (items := semi Γ (I.val (E.var 0))) (ρ := [some (.pd (.str x)), none]) (elt := fun x => (getP x 1).bind fun x => (glG Γ 0).bind fun y => pur (cmpD Cm.inn x y)) (ds := chs (cl x)) (f := f) rfl (len_ch hl) fun d hd => by
      obtain ⟨c, hc, rfl⟩ := List.mem_map.mp hd
      show (glG Γ 0).bind (fun y => pur (cmpD Cm.inn (.str (mk [c])) y)) = .ok (.bool ((cl (mk [c])).all letter))
      rw [g.le, Rs.bind_ok]
      show pur (toB (.ok (hasSub (mk [c]) LETT))) = _
      rw [sub_lett c (asc_iff.mp a c hc)]
      simp [pur, toB]
    unfold chs at this
    rw [List.map_map] at this
    refine this.trans ?_
    congr 1
    apply List.map_congr_left
    intro c _
    simp [f]
  unfold mDef T.is_name
  simp only [enter, exes, exe, sem, seml, sems, List.map, List.length, List.replicate, List.cons_append, List.nil_append, g.ml]
  show out ((Out.ofR ((((Rs.ok (PyData.bool true)).bind asB).bind fun k => if k = true then (((toB (chainF Cm.le Cm.le (fun x => Rs.ok (PyData.int 1)) (fun x => (getP x 0).bind fun d => pur (lenD d)) (fun x => Rs.ok (PyData.int 8)) [some (.pd (.str x)), none])).bind asB).bind fun k => if k = true then _ else _) else _)) _ _).seq _) = _
  rw [toB_asB, chain18 (n := x.length) rfl, all_of comp]
  unfold nameL
  rw [← len_cl]
  cases decide (1 ≤ x.length) <;> cases decide (x.length ≤ 8) <;> rfl
theorem is_value_str (g : G1 Γ) {x : Str} (a : asc x = true) (hl : x.length ≤ LIM) : mDef Γ 2 T.is_value [.str x] = .ok (.bool (valueL (cl x))) := by
  have comp : lcF (Tg.nm 1) [1] (semi Γ (I.val (E.var 0))) (semc Γ Eo.none) (fun x => (getP x 1).bind fun x => ((glG Γ 0).bind fun x => (glG Γ 1).bind fun y => pur (binD Bi.add x y)).bind fun y => pur (cmpD Cm.inn x y)) [some (.pd (.str x)), none] = .ok ((cl x).map fun c => .bool (letter c || digit c)) := by
    let f : D → D := fun d => match d with
      | .str z => .bool ((cl z).all fun c => letter c || digit c)
      | d => d
    have := lc_map' (i := 1) (items := semi Γ (I.val (E.var 0))) (ρ := [some (.pd (.str x)), none]) (elt := fun x => (getP x 1).bind fun x => ((glG Γ 0).bind fun x => (glG Γ 1).bind fun y => pur (binD Bi.add x y)).bind fun y => pur (cmpD Cm.inn x y)) (ds := chs (cl x)) (f := f) rfl (len_ch hl) fun d hd => by
      obtain ⟨c, hc, rfl⟩ := List.mem_map.mp hd
      show ((glG Γ 0).bind fun x => (glG Γ 1).bind fun y => pur (binD Bi.add x y)).bind (fun y => pur (cmpD Cm.inn (.str (mk [c])) y)) = .ok (.bool ((cl (mk [c])).all fun c => letter c || digit c))
      rw [g.le, g.di]
      show pur (toB (.ok (hasSub (mk [c]) (LETT ++ DIG)))) = _
      rw [sub_both c (asc_iff.mp a c hc)]
      simp [pur, toB]
    unfold chs at this
    rw [List.map_map] at this
    refine this.trans ?_
    congr 1
    apply List.map_congr_left
    intro c _
    simp [f]
  unfold mDef T.is_value
  simp only [enter, exes, exe, sem, seml, sems, List.map, List.length, List.replicate, List.cons_append, List.nil_append, g.ml]
  show out ((Out.ofR ((((Rs.ok (PyData.bool (decide ((x.length : Int) ≤ 8)))).bind asB).bind fun k => if k = true then _ else _)) _ _).seq _) = _
  rw [all_of comp]
  unfold valueL
  rw [← len_cl]
  by_cases h : x.length ≤ 8
  · rw [decide_eq_true h, decide_eq_true (show (x.length : Int) ≤ 8 by omega)]
    cases (cl x).all fun c => letter c || digit c <;> rfl
  · rw [decide_eq_false h, decide_eq_false (show ¬ (x.length : Int) ≤ 8 by omega)]
    rfl
end
end Pf

set_option Elab.async false
set_option linter.all false
set_option maxRecDepth 100000
/-! Queries and addresses. -/
namespace Pf
open PySem PySem.Spec L2

def par3 (c : Nat) (w : List Nat) : D := match (cutAt c w).2 with
  | some v => .tuple [.str (mk (cutAt c w).1), .str (mk [c]), .str (mk v)]
  | none => .tuple [.str (mk w), .str Str.empty, .str Str.empty]
theorem part_at {x : Str} (c : Nat) : miD .partition (.str x) [.str (mk [c])] = .ok (par3 c (cl x)) := by
  show (if ((mk [c]).length == 0) = false then Rs.ok (PyData.tuple [.str (partS x (mk [c])).1, .str (partS x (mk [c])).2.1, .str (partS x (mk [c])).2.2]) else .bad) = _
  rw [if_pos (by rw [len_mk]; rfl)]
  unfold par3 cutAt partS
  show _ = Rs.ok (match (match TL.par [c] [] (cl x) with
    | some (p, q) => (p, some q)
    | none => (cl x, none)).2 with
    | some v => _
    | none => _)
  have : cl (mk [c]) = [c] := cl_mk _
  rw [this]
  cases TL.par [c] [] (cl x) with
  | none =>
    show Rs.ok (PyData.tuple [.str x, .str Str.empty, .str Str.empty]) = _
    rw [show mk (cl x) = x from by cases x; rfl]
  | some p => rfl
theorem split_at {x : Str} (c : Nat) (hl : x.length + 1 ≤ LIM) : miD .split (.str x) [.str (mk [c])] = .ok (.list ((spl c (cl x)).map fun p => .str (mk p))) := by
  show (if ((mk [c]).length == 0) = false ∧ x.length + 1 ≤ LIM then Rs.ok (PyData.list ((splitS x (mk [c])).map PyData.str)) else .bad) = _
  rw [if_pos ⟨by rw [len_mk]; rfl, hl⟩]
  unfold splitS spl
  rw [List.map_map]
  rfl
theorem amp_ : ("&" : Str) = mk [38] := by decide
theorem eqs_ : ("=" : Str) = mk [61] := by decide
theorem qus_ : ("?" : Str) = mk [63] := by decide
theorem sla_ : ("/" : Str) = mk [47] := by decide
theorem nil_ : ("" : Str) = Str.empty := by decide
/-- pieces of a text are texts like it -/
theorem spl_ok {c : Nat} {l w : List Nat} (h : w ∈ spl c l) : (∀ d ∈ w, d ∈ l) ∧ w.length ≤ l.length :=
  ⟨fun d hd => (spl_mem h d hd).elim (fun z => by cases z) id, by simpa using spl_len h⟩
theorem spl_cnt (c : Nat) (l : List Nat) : (spl c l).length ≤ l.length + 1 := spl_count
theorem cut_ok {c : Nat} {l : List Nat} : (∀ d ∈ (cutAt c l).1, d ∈ l) ∧ (cutAt c l).1.length ≤ l.length ∧ ∀ q, (cutAt c l).2 = some q → (∀ d ∈ q, d ∈ l) ∧ q.length ≤ l.length := by
  cases e : (cutAt c l).2 with
  | none => rw [cut_none e]; exact ⟨fun d h => h, Nat.le_refl _, fun q h => by cases h⟩
  | some q =>
    have p := cut_parts e
    have len := congrArg List.length p
    rw [List.length_append, List.length_cons] at len
    refine ⟨fun d h => by rw [p]; exact List.mem_append_left _ h, by omega, fun q' h => ?_⟩
    cases h
    exact ⟨fun d h => by rw [p]; exact List.mem_append_right _ (List.mem_cons_of_mem _ h), by omega⟩
/-- texts that may be asked about -/
structure Tx (l : List Nat) : Prop where
  a : ∀ c ∈ l, c < 128
  n : l.length + 1 ≤ LIM
theorem Tx.spl {c : Nat} {l w : List Nat} (h : Tx l) (hw : w ∈ spl c l) : Tx w := ⟨fun d hd => h.a d ((spl_ok hw).1 d hd), Nat.le_trans (Nat.succ_le_succ (spl_ok hw).2) h.n⟩
theorem Tx.cut1 {c : Nat} {l : List Nat} (h : Tx l) : Tx (cutAt c l).1 := ⟨fun d hd => h.a d (cut_ok.1 d hd), Nat.le_trans (Nat.succ_le_succ cut_ok.2.1) h.n⟩
theorem Tx.cut2 {c : Nat} {l q : List Nat} (h : Tx l) (e : (cutAt c l).2 = some q) : Tx q := ⟨fun d hd => h.a d ((cut_ok.2.2 q e).1 d hd), Nat.le_trans (Nat.succ_le_succ (cut_ok.2.2 q e).2) h.n⟩
theorem tx_asc {l : List Nat} (h : Tx l) : asc (mk l) = true := asc_iff.mpr (by rw [cl_mk]; exact h.a)
theorem tx_len {l : List Nat} (h : Tx l) : (mk l).length ≤ LIM := by rw [len_mk]; have := h.n; omega
theorem ksL_fold {t : Tg} {cond : Sto → Rs Bool} {elt : Sto → Rs D} {ρ0 : Sto} {kf : D → Key} (hc : ∀ ρ, cond ρ = .ok true) : ∀ {ds : List D} {acc : List Key}, (∀ d ∈ ds, ∃ ρ1 z, asgT t d ρ0 = .ok ρ1 ∧ elt ρ1 = .ok z ∧ keyOf z = .ok (kf d)) → ksL t cond elt ρ0 ds acc = .ok ((ds.map kf).foldl addK acc)
  | [], acc, _ => rfl
  | d :: ds, acc, h => by
    obtain ⟨ρ1, z, h1, h2, h3⟩ := h d (by simp)
    have ih := ksL_fold hc (ds := ds) (acc := addK acc (kf d)) fun e he => h e (List.mem_cons_of_mem _ he)
    show (asgT t d ρ0).bind _ = _
    rw [h1, Rs.bind_ok, hc, show noEx (Rs.ok true) = Rs.ok true from rfl, Rs.bind_ok, if_pos rfl, h2, show noEx (Rs.ok z) = Rs.ok z from rfl, Rs.bind_ok, h3, Rs.bind_ok, ih]
    rfl
section
variable {Γ : Gs}
theorem split_query_str {l : List Nat} (h : Tx l) : mDef Γ 2 T.split_query [.str (mk l)] = .ok (.list ((spl 38 l).map (par3 61))) := by
  have sp : miD .split (.str (mk l)) [.str "&"] = .ok (.list ((spl 38 l).map fun p => .str (mk p))) := by
    rw [amp_, split_at 38 (by rw [len_mk]; exact h.n), cl_mk]
  let f : D → D := fun d => match d with
    | .str z => par3 61 (cl z)
    | d => d
  let ρ : Sto := [some (.pd (.str (mk l))), none]
  have items : semi Γ (.val (.mt .split (.var 0) (.cons (.str "&") .nil))) ρ = .ok ((spl 38 l).map fun p => .str (mk p)) := by
    show (pur (miD .split (.str (mk l)) [.str "&"])).bind itemsD = _
    rw [sp]; rfl
  have cnt := spl_cnt 38 l
  have comp := lc_map' (i := 1) (elt := sem Γ (.mt .partition (.var 1) (.cons (.str "=") .nil))) (f := f) items (by rw [List.length_map]; have := h.n; omega) fun d hd => by
    obtain ⟨w, hw, rfl⟩ := List.mem_map.mp hd
    show pur (miD .partition (.str (mk w)) [.str "="]) = _
    rw [eqs_, part_at 61, cl_mk]
    show Rs.ok (par3 61 w) = Rs.ok (par3 61 (cl (mk w)))
    rw [cl_mk]
  rw [List.map_map] at comp
  show out ((Out.ofR ((lcF (.nm 1) [1] (semi Γ (.val (.mt .split (.var 0) (.cons (.str "&") .nil)))) (fun _ => .ok true) (sem Γ (.mt .partition (.var 1) (.cons (.str "=") .nil))) ρ).bind fun ds => .ok (.list ds)) ρ fun d => .rt d).seq _) = _
  rw [comp]
  show Rs.ok (PyData.list _) = _
  congr 2
/-- the facts that is_query asks -/
structure G2 (Γ : Gs) : Prop extends G1 Γ where
  mp : glG Γ 5 = .ok (.int 4)
  nm : ∀ l, Tx l → callG Γ 3 [.str (mk l)] = .ok (.bool (nameL l))
  vl : ∀ l, Tx l → callG Γ 4 [.str (mk l)] = .ok (.bool (valueL l))
  sq : ∀ l, Tx l → callG Γ 5 [.str (mk l)] = .ok (.list ((spl 38 l).map (par3 61)))
/-- one parameter's check -/
theorem param_at (g : G2 Γ) {l : List Nat} (h : Tx l) {a b : Option SV} : ∃ k s v, asgT (.tp [2, 3, 4]) (par3 61 l) [a, b, none, none, none] = .ok [a, b, some (.pd k), some (.pd s), some (.pd v)] ∧ keyOf k = .ok (keyP l) ∧
    sem Γ (.and (.call 3 (.cons (.var 2) .nil)) (.and (.cmp .eq (.ex (.var 3)) (.ex (.str "="))) (.call 4 (.cons (.var 4) .nil)))) [a, b, some (.pd k), some (.pd s), some (.pd v)] = .ok (.bool (goodP l)) := by
  have eqS : ∀ x y : Str, pur (toB (cmpB .eq (.str x) (.str y))) = .ok (.bool (x == y)) := fun x y => by
    show pur (toB (if Pf.plain (.str x) = true ∧ Pf.plain (.str y) = true then Rs.ok (PyData.eqv (.str x) (.str y)) else .bad)) = _
    have pl : ∀ z : Str, Pf.plain (.str z) = true := fun z => by
      unfold Pf.plain
      simp only [PyData.hasDict, PyData.depth]
      rfl
    rw [if_pos ⟨pl x, pl y⟩]
    simp only [PyData.eqv]
    rfl
  cases e : (cutAt 61 l).2 with
  | none =>
    have c1 := cut_none e
    refine ⟨.str (mk l), .str Str.empty, .str Str.empty, by unfold par3; rw [e]; rfl, by unfold keyP; rw [c1]; rfl, ?_⟩
    show ((((Rs.ok [PyData.str (mk l)]).bind fun ds => callG Γ 3 ds)).bind asB).bind (fun k => if k = true then ((pur (toB (cmpB .eq (.str Str.empty) (.str "=")))).bind asB).bind (fun k => if k = true then (Rs.ok [PyData.str Str.empty]).bind fun ds => callG Γ 4 ds else .ok (.bool false)) else .ok (.bool false)) = _
    rw [Rs.bind_ok, g.nm l h, eqS]
    have : (Str.empty == ("=" : Str)) = false := by decide
    rw [this]
    unfold goodP
    rw [e]
    cases nameL l <;> rfl
  | some v =>
    refine ⟨.str (mk (cutAt 61 l).1), .str (mk [61]), .str (mk v), by unfold par3; rw [e]; rfl, rfl, ?_⟩
    show ((((Rs.ok [PyData.str (mk (cutAt 61 l).1)]).bind fun ds => callG Γ 3 ds)).bind asB).bind (fun k => if k = true then ((pur (toB (cmpB .eq (.str (mk [61])) (.str "=")))).bind asB).bind (fun k => if k = true then (Rs.ok [PyData.str (mk v)]).bind fun ds => callG Γ 4 ds else .ok (.bool false)) else .ok (.bool false)) = _
    rw [Rs.bind_ok, g.nm _ h.cut1, eqS, show ((Rs.ok [PyData.str (mk v)]).bind fun ds => callG Γ 4 ds) = .ok (.bool (valueL v)) from g.vl v (h.cut2 e)]
    have : (mk [61] == ("=" : Str)) = true := by decide
    rw [this]
    unfold goodP
    rw [e]
    cases nameL (cutAt 61 l).1 <;> rfl
theorem intNe (a b : Int) : pur (toB (cmpB .ne (.int a) (.int b))) = .ok (.bool (!decide (a = b))) := by
  show pur (toB ((if Pf.plain (.int a) = true ∧ Pf.plain (.int b) = true then Rs.ok (PyData.eqv (.int a) (.int b)) else .bad).bind fun b => .ok (!b))) = _
  have pl : ∀ z : Int, Pf.plain (.int z) = true := fun z => by
    unfold Pf.plain
    simp only [PyData.hasDict, PyData.depth]
    rfl
  rw [if_pos ⟨pl a, pl b⟩]
  simp only [PyData.eqv]
  rfl
theorem is_query_str (g : G2 Γ) {l : List Nat} (h : Tx l) : mDef Γ 5 T.is_query [.str (mk l)] = .ok (.bool (queryL l)) := by
  let L : List D := (spl 38 l).map (par3 61)
  let ρ0 : Sto := [some (.pd (.str (mk l))), none, none, none, none]
  let ρ1 : Sto := [some (.pd (.str (mk l))), some (.pd (.list L)), none, none, none]
  have cnt := spl_cnt 38 l
  have hn := h.n
  have hlen : L.length = (spl 38 l).length := List.length_map ..
  have ks (h4 : (spl 38 l).length ≤ 4) : sem Γ (.lenks (.tp [2, 3, 4]) [2, 3, 4] (.val (.var 1)) .none (.var 2)) ρ1 = .ok (.int (met ((spl 38 l).map keyP)).length) := by
    have e1 : ksL (.tp [2, 3, 4]) (fun _ => Rs.ok true) (sem Γ (.var 2)) (wipeR ρ1 [2, 3, 4]) L [] = .ok (met ((spl 38 l).map keyP)) := by
      let kf : D → Key := fun d => match d with
        | .tuple (k :: _) => match keyOf k with
          | .ok k => k
          | _ => .inl 0
        | _ => .inl 0
      have := ksL_fold (t := .tp [2, 3, 4]) (cond := fun _ => Rs.ok true) (elt := sem Γ (.var 2)) (ρ0 := wipeR ρ1 [2, 3, 4]) (kf := kf) (fun _ => rfl) (ds := L) (acc := []) fun d hd => by
        obtain ⟨w, hw, rfl⟩ := List.mem_map.mp hd
        obtain ⟨k, s, v, a1, a2, _⟩ := param_at g (h.spl hw) (a := some (.pd (.str (mk l)))) (b := some (.pd (.list L)))
        refine ⟨_, k, a1, rfl, ?_⟩
        have : kf (par3 61 w) = keyP w := by
          unfold par3 keyP
          cases q : (cutAt 61 w).2 with
          | none => rw [cut_none q]; rfl
          | some v => rfl
        rw [this]
        exact a2
      rw [this]
      show Rs.ok ((L.map kf).foldl addK []) = Rs.ok (((spl 38 l).map keyP).foldl addK [])
      congr 2
      rw [List.map_map]
      apply List.map_congr_left
      intro w _
      show kf (par3 61 w) = keyP w
      unfold par3 keyP
      cases q : (cutAt 61 w).2 with
      | none => rw [cut_none q]; rfl
      | some v => rfl
    show ((if L.length ≤ 4000 then noEx (ksL (.tp [2, 3, 4]) (fun _ => Rs.ok true) (sem Γ (.var 2)) (wipeR ρ1 [2, 3, 4]) L []) else .bad)).bind (fun ks => Rs.ok (PyData.int ks.length)) = _
    rw [if_pos (by omega), e1]
    rfl
  have al : sem Γ (.bi .alll (.cons (.lc (.tp [2, 3, 4]) [2, 3, 4] (.val (.var 1)) .none (.and (.call 3 (.cons (.var 2) .nil)) (.and (.cmp .eq (.ex (.var 3)) (.ex (.str "="))) (.call 4 (.cons (.var 4) .nil))))) .nil)) ρ1 = .ok (.bool ((spl 38 l).all goodP)) := by
    have e1 : lcF (.tp [2, 3, 4]) [2, 3, 4] (semi Γ (.val (.var 1))) (fun _ => .ok true) (sem Γ (.and (.call 3 (.cons (.var 2) .nil)) (.and (.cmp .eq (.ex (.var 3)) (.ex (.str "="))) (.call 4 (.cons (.var 4) .nil))))) ρ1 = .ok ((spl 38 l).map fun w => .bool (goodP w)) := by
      have key : ∀ ws : List (List Nat), (∀ w ∈ ws, Tx w) → compL (.tp [2, 3, 4]) (fun _ => .ok true) (sem Γ (.and (.call 3 (.cons (.var 2) .nil)) (.and (.cmp .eq (.ex (.var 3)) (.ex (.str "="))) (.call 4 (.cons (.var 4) .nil))))) (wipeR ρ1 [2, 3, 4]) (ws.map (par3 61)) = .ok (ws.map fun w => .bool (goodP w)) := by
        intro ws
        induction ws with
        | nil => intro _; rfl
        | cons w ws ih =>
          intro hw
          obtain ⟨k, s, v, a1, _, a3⟩ := param_at g (hw w (by simp)) (a := some (.pd (.str (mk l)))) (b := some (.pd (.list L)))
          show compL _ _ _ _ (par3 61 w :: ws.map (par3 61)) = _
          unfold compL
          rw [show wipeR ρ1 [2, 3, 4] = [some (.pd (.str (mk l))), some (.pd (.list L)), none, none, none] from rfl, a1, Rs.bind_ok, show noEx (Rs.ok true) = Rs.ok true from rfl, Rs.bind_ok, if_pos rfl, a3, show noEx (Rs.ok (PyData.bool (goodP w))) = Rs.ok (.bool (goodP w)) from rfl, Rs.bind_ok,
            show compL (.tp [2, 3, 4]) (fun _ => .ok true) (sem Γ (.and (.call 3 (.cons (.var 2) .nil)) (.and (.cmp .eq (.ex (.var 3)) (.ex (.str "="))) (.call 4 (.cons (.var 4) .nil))))) [some (.pd (.str (mk l))), some (.pd (.list L)), none, none, none] (ws.map (par3 61)) = _ from ih fun x hx => hw x (List.mem_cons_of_mem _ hx)]
          rfl
      show (if L.length ≤ LIM then noEx _ else .bad) = _
      rw [if_pos (by omega), key _ fun w hw => h.spl hw]
      rfl
    exact all_of e1
  have start : mDef Γ 5 T.is_query [.str (mk l)] = out (exes Γ T.is_query ρ0) := rfl
  rw [start]
  unfold T.is_query
  rw [ex_nx (ρ' := ρ1) ((asg_nm (d := .list L) (by
    show (Rs.ok [PyData.str (mk l)]).bind (fun ds => callG Γ 5 ds) = _
    rw [Rs.bind_ok, g.sq l h])).trans rfl)]
  have c1 : sem Γ (.cmp .gt (.ex (.len (.ex (.var 1)))) (.ex (.gl 5))) ρ1 = .ok (.bool (decide (4 < (spl 38 l).length))) := by
    show (Rs.ok (PyData.int L.length)).bind (fun x => (glG Γ 5).bind fun y => pur (toB (cmpB .gt x y))) = _
    rw [Rs.bind_ok, g.mp, Rs.bind_ok, hlen]
    show Rs.ok (PyData.bool (decide ((4 : Int) < ((spl 38 l).length : Int)))) = _
    congr 2
    by_cases q : 4 < (spl 38 l).length
    · rw [decide_eq_true q, decide_eq_true (by omega)]
    · rw [decide_eq_false q, decide_eq_false (by omega)]
  by_cases h4 : 4 < (spl 38 l).length
  · rw [decide_eq_true h4] at c1
    rw [ex_rt (by
      rw [ife_t (by
        show ((sem Γ (.cmp .gt (.ex (.len (.ex (.var 1)))) (.ex (.gl 5))) ρ1).bind asB).bind _ = _
        rw [c1]; rfl), ex_rt (ret_ok (d := .bool false) rfl)])]
    unfold queryL
    rw [decide_eq_false (by omega)]
    rfl
  · rw [decide_eq_false h4] at c1
    have hks := ks (by omega)
    have c2 : sem Γ (.cmp .ne (.ex (.lenks (.tp [2, 3, 4]) [2, 3, 4] (.val (.var 1)) .none (.var 2))) (.ex (.len (.ex (.var 1))))) ρ1 = .ok (.bool (!decide ((met ((spl 38 l).map keyP)).length = (spl 38 l).length))) := by
      show (sem Γ (.lenks (.tp [2, 3, 4]) [2, 3, 4] (.val (.var 1)) .none (.var 2)) ρ1).bind (fun x => (Rs.ok (PyData.int L.length)).bind fun y => pur (toB (cmpB .ne x y))) = _
      rw [hks, Rs.bind_ok, Rs.bind_ok, intNe, hlen]
      congr 3
      by_cases q : (met ((spl 38 l).map keyP)).length = (spl 38 l).length
      · rw [decide_eq_true q, decide_eq_true (by omega)]
      · rw [decide_eq_false q, decide_eq_false (by omega)]
    by_cases hd : (met ((spl 38 l).map keyP)).length = (spl 38 l).length
    · rw [decide_eq_true hd] at c2
      rw [ex_nx (ρ' := ρ1) (by
        rw [ife_f (by
          show ((sem Γ (.cmp .gt (.ex (.len (.ex (.var 1)))) (.ex (.gl 5))) ρ1).bind asB).bind (fun k => if k = true then Rs.ok (PyData.bool true) else sem Γ _ ρ1) = _
          rw [c1]
          exact c2)]
        rfl), ex_rt (ret_ok al)]
      unfold queryL
      rw [decide_eq_true (by omega), decide_eq_true hd]
      rfl
    · rw [decide_eq_false hd] at c2
      rw [ex_rt (by
        rw [ife_t (by
          show ((sem Γ (.cmp .gt (.ex (.len (.ex (.var 1)))) (.ex (.gl 5))) ρ1).bind asB).bind (fun k => if k = true then Rs.ok (PyData.bool true) else sem Γ _ ρ1) = _
          rw [c1]
          exact c2), ex_rt (ret_ok (d := .bool false) rfl)])]
      unfold queryL
      rw [decide_eq_true (by omega), decide_eq_false hd]
      rfl
end
end Pf

set_option Elab.async false
set_option linter.all false
set_option maxRecDepth 100000
/-! is_address; the laws' own checks of names and addresses. -/
namespace Pf
open PySem PySem.Spec L2

section
variable {Γ : Gs}
structure G3 (Γ : Gs) : Prop where
  ms : glG Γ 4 = .ok (.int 6)
  nm : ∀ l, Tx l → callG Γ 3 [.str (mk l)] = .ok (.bool (nameL l))
  qu : ∀ l, Tx l → callG Γ 6 [.str (mk l)] = .ok (.bool (queryL l))
theorem intGt {a b : Nat} : pur (toB (cmpB .gt (.int a) (.int b))) = .ok (.bool (decide (b < a))) := by
  show Rs.ok (PyData.bool (decide ((b : Int) < (a : Int)))) = _
  congr 2
  by_cases q : b < a
  · rw [decide_eq_true q, decide_eq_true (by omega)]
  · rw [decide_eq_false q, decide_eq_false (by omega)]
theorem strEq (x y : Str) : pur (toB (cmpB .eq (.str x) (.str y))) = .ok (.bool (x == y)) := by
  have pl : ∀ z : Str, Pf.plain (.str z) = true := fun z => by
    unfold Pf.plain
    simp only [PyData.hasDict, PyData.depth]
    rfl
  show pur (toB (if Pf.plain (.str x) = true ∧ Pf.plain (.str y) = true then Rs.ok (PyData.eqv (.str x) (.str y)) else .bad)) = _
  rw [if_pos ⟨pl x, pl y⟩]
  simp only [PyData.eqv]
  rfl
theorem intEq (a b : Int) : pur (toB (cmpB .eq (.int a) (.int b))) = .ok (.bool (decide (a = b))) := by
  have pl : ∀ z : Int, Pf.plain (.int z) = true := fun z => by
    unfold Pf.plain
    simp only [PyData.hasDict, PyData.depth]
    rfl
  show pur (toB (if Pf.plain (.int a) = true ∧ Pf.plain (.int b) = true then Rs.ok (PyData.eqv (.int a) (.int b)) else .bad)) = _
  rw [if_pos ⟨pl a, pl b⟩]
  simp only [PyData.eqv]
  rfl
theorem not_or {k : Bool} {a b : Bool} : (if k = true then Rs.ok (PyData.bool a) else .ok (.bool b)) = .ok (.bool (if k then a else b)) := by cases k <;> rfl
theorem sem_or {a b : E} {ρ : Sto} {k l : Bool} (ha : sem Γ a ρ = .ok (.bool k)) (hb : k = false → sem Γ b ρ = .ok (.bool l)) : sem Γ (.or a b) ρ = .ok (.bool (k || (!k && l))) := by
  show ((sem Γ a ρ).bind asB).bind (fun k => if k = true then .ok (.bool true) else sem Γ b ρ) = _
  rw [ha]
  cases k with
  | true => rfl
  | false =>
    show sem Γ b ρ = _
    rw [hb rfl]
    cases l <;> rfl
theorem sem_not {a : E} {ρ : Sto} {k : Bool} (ha : sem Γ a ρ = .ok (.bool k)) : sem Γ (.not a) ρ = .ok (.bool (!k)) := by
  show ((sem Γ a ρ).bind asB).bind (fun b => Rs.ok (PyData.bool (!b))) = _
  rw [ha]; rfl
theorem names_all {ρ : Sto} {i j k : Nat} {L : List (List Nat)} (hc : ∀ l, Tx l → callG Γ k [.str (mk l)] = .ok (.bool (nameL l))) (hi : getP ρ i = .ok (.list (L.map fun p => .str (mk p)))) (hL : ∀ w ∈ L, Tx w) (hn : L.length ≤ LIM) (hj : j < ρ.length) :
    sem Γ (.bi .alll (.cons (.lc (.nm j) [j] (.val (.var i)) .none (.call k (.cons (.var j) .nil))) .nil)) ρ = .ok (.bool (L.all nameL)) := by
  refine all_of (f := nameL) (l := L) ?_
  let f : D → D := fun d => match d with
    | .str z => .bool (nameL (cl z))
    | d => d
  have := lc_map' (i := j) (items := semi Γ (.val (.var i))) (elt := sem Γ (.call k (.cons (.var j) .nil))) (ρ := ρ) (f := f) (ds := L.map fun p => .str (mk p)) (by
    show (getP ρ i).bind itemsD = _
    rw [hi]; rfl) (by rw [List.length_map]; exact hn) fun d hd => by
      obtain ⟨w, hw, rfl⟩ := List.mem_map.mp hd
      have g : getP ((wipeR ρ [j]).set j (some (.pd (.str (mk w))))) j = .ok (.str (mk w)) := by
        unfold getP
        rw [List.getElem?_set_self']
        have : (wipeR ρ [j])[j]? = some none := by
          show (ρ.set j none)[j]? = _
          rw [List.getElem?_set_self', List.getElem?_eq_getElem hj]
          rfl
        rw [this]
        rfl
      show ((getP ((wipeR ρ [j]).set j (some (.pd (.str (mk w))))) j).bind fun x => (Rs.ok []).bind fun xs => Rs.ok (x :: xs)).bind (fun ds => callG Γ k ds) = _
      rw [g]
      show callG Γ k [.str (mk w)] = .ok (.bool (nameL (cl (mk w))))
      rw [hc w (hL w hw), cl_mk]
  rw [List.map_map] at this
  refine this.trans ?_
  congr 1
theorem is_address_str (g : G3 Γ) {l : List Nat} (h : Tx l) : mDef Γ 6 T.is_address [.str (mk l)] = .ok (.bool (addrL l)) := by
  let p := (cutAt 63 l).1
  let L := spl 47 p
  have tp : Tx p := h.cut1
  have tL : ∀ w ∈ L, Tx w := fun w hw => tp.spl hw
  have cnt := spl_cnt 47 p
  have hn := tp.n
  obtain ⟨s, q, hpar, hs⟩ : ∃ s q, par3 63 l = .tuple [.str (mk p), .str s, .str q] ∧ ((s == ("" : Str)) = (cutAt 63 l).2.isNone ∧ ∀ v, (cutAt 63 l).2 = some v → q = mk v) := by
    unfold par3
    cases e : (cutAt 63 l).2 with
    | none =>
      refine ⟨Str.empty, Str.empty, ?_, by decide, fun v hv => by cases hv⟩
      show PyData.tuple [.str (mk l), _, _] = PyData.tuple [.str (mk (cutAt 63 l).1), _, _]
      rw [cut_none e]
    | some v => exact ⟨mk [63], mk v, rfl, by show (mk [63] == ("" : Str)) = false; decide, fun w hw => by cases hw; rfl⟩
  let ρ0 : Sto := [some (.pd (.str (mk l))), none, none, none, none, none]
  let ρ1 : Sto := [some (.pd (.str (mk l))), some (.pd (.str (mk p))), some (.pd (.str s)), some (.pd (.str q)), none, none]
  let ρ2 : Sto := [some (.pd (.str (mk l))), some (.pd (.str (mk p))), some (.pd (.str s)), some (.pd (.str q)), some (.pd (.list (L.map fun p => .str (mk p)))), none]
  have start : mDef Γ 6 T.is_address [.str (mk l)] = out (exes Γ T.is_address ρ0) := rfl
  rw [start]
  unfold T.is_address
  rw [ex_nx (ρ' := ρ0) (by rw [ife_f rfl]; rfl), ex_nx (ρ' := ρ1) ((asg_tp (ds := [.str (mk p), .str s, .str q]) (by
      show pur (miD .partition (.str (mk l)) [.str "?"]) = _
      rw [qus_, part_at 63, cl_mk, hpar]; rfl) rfl).trans rfl), ex_nx (ρ' := ρ2) ((asg_nm (d := .list (L.map fun p => .str (mk p))) (by
      show pur (miD .split (.str (mk p)) [.str "/"]) = _
      rw [sla_, split_at 47 (by rw [len_mk]; exact hn), cl_mk]; rfl)).trans rfl)]
  have c1 : sem Γ (.cmp .gt (.ex (.len (.ex (.var 4)))) (.ex (.bin .add (.gl 4) (.int 1)))) ρ2 = .ok (.bool (decide (7 < L.length))) := by
    show (Rs.ok (PyData.int ((L.map fun p => PyData.str (mk p)).length : Nat))).bind (fun x => ((glG Γ 4).bind fun x => (Rs.ok (PyData.int 1)).bind fun y => pur (binD .add x y)).bind fun y => pur (toB (cmpB .gt x y))) = _
    rw [g.ms, List.length_map]
    exact intGt (a := L.length) (b := 7)
  have c2 := names_all (i := 4) (j := 5) (ρ := ρ2) (L := L) g.nm rfl tL (by show (spl 47 p).length ≤ _; omega) (by show 5 < 6; omega)
  have c3 := sem_or c1 (fun _ => sem_not c2)
  have rest : sem Γ (.or (.cmp .eq (.ex (.var 2)) (.ex (.str ""))) (.call 6 (.cons (.var 3) .nil))) ρ2 = .ok (.bool (match (cutAt 63 l).2 with
      | some q => queryL q
      | none => true)) := by
    have e1 : sem Γ (.cmp .eq (.ex (.var 2)) (.ex (.str ""))) ρ2 = .ok (.bool (cutAt 63 l).2.isNone) := by
      show pur (toB (cmpB .eq (.str s) (.str ""))) = _
      rw [strEq, hs.1]
    cases e : (cutAt 63 l).2 with
    | none =>
      rw [e] at e1
      rw [sem_or (l := true) e1 (fun z => by cases z)]
      rfl
    | some v =>
      rw [e] at e1
      rw [sem_or (l := queryL v) e1 (fun _ => by
        show callG Γ 6 [.str q] = _
        rw [hs.2 v e]
        exact g.qu v (h.cut2 e))]
      show Rs.ok (PyData.bool (false || (!false && queryL v))) = Rs.ok (PyData.bool (queryL v))
      cases queryL v <;> rfl
  unfold addrL
  show _ = Rs.ok (PyData.bool (decide (L.length ≤ 7) && L.all nameL && _))
  by_cases h7 : L.length ≤ 7
  · rw [decide_eq_true h7]
    rw [decide_eq_false (by omega)] at c3
    cases ha : L.all nameL with
    | true =>
      rw [ha] at c3
      rw [ex_nx (ρ' := ρ2) (by rw [ife_f c3]; rfl), ex_rt (ret_ok rest)]
      rfl
    | false =>
      rw [ha] at c3
      rw [ex_rt (by rw [ife_t c3, ex_rt (ret_ok (d := .bool false) rfl)])]
      rfl
  · rw [decide_eq_false h7]
    rw [decide_eq_true (by omega)] at c3
    rw [ex_rt (by rw [ife_t c3, ex_rt (ret_ok (d := .bool false) rfl)])]
    rfl
/-! ### the law's own -/
theorem strLe (a b : List Nat) : cmpB .le (.str (mk a)) (.str (mk b)) = .ok (!decide (b < a)) := by
  show Rs.ok (!decide (cl (mk b) < cl (mk a))) = _
  rw [cl_mk, cl_mk]
theorem az_ : ("a" : Str) = mk [97] ∧ ("z" : Str) = mk [122] ∧ ("0" : Str) = mk [48] ∧ ("9" : Str) = mk [57] := by decide
theorem le_one (a c : Nat) : (!decide ([c] < [a])) = decide (a ≤ c) := by
  have : ([c] < [a]) ↔ c < a := by
    constructor
    · intro h
      cases h with
      | rel h => exact h
      | cons h => cases h
    · intro h
      exact List.Lex.rel h
  by_cases q : a ≤ c
  · rw [decide_eq_true q, decide_eq_false (fun z => by have := this.mp z; omega)]; rfl
  · rw [decide_eq_false q, decide_eq_true (this.mpr (by omega))]; rfl
theorem chainS {x y z : Str} {f g h : Sto → Rs D} {ρ : Sto} {k l : Bool} (hf : f ρ = .ok (.str x)) (hg : g ρ = .ok (.str y)) (hh : h ρ = .ok (.str z)) (h1 : cmpB .le (.str x) (.str y) = .ok k) (h2 : cmpB .le (.str y) (.str z) = .ok l) : toB (chainF .le .le f g h ρ) = .ok (.bool (k && l)) := by
  unfold chainF
  rw [hf, Rs.bind_ok, hg, Rs.bind_ok, h1, Rs.bind_ok]
  cases k with
  | true =>
    rw [if_pos rfl, hh, Rs.bind_ok, h2]
    rfl
  | false => rfl
theorem eq_nil {xs : List D} (h : ∀ d ∈ xs, ∃ s, d = .str s) : pur (toB (cmpB .eq (.list xs) (.list []))) = .ok (.bool xs.isEmpty) := by
  have dd : PyData.hasDictAll xs = false ∧ PyData.depthAll xs ≤ 0 := by
    induction xs with
    | nil => exact ⟨by simp only [PyData.hasDictAll], by simp only [PyData.depthAll]; omega⟩
    | cons d xs ih =>
      obtain ⟨s, rfl⟩ := h d (by simp)
      obtain ⟨h1, h2⟩ := ih fun e he => h e (List.mem_cons_of_mem _ he)
      refine ⟨?_, ?_⟩
      · simp only [PyData.hasDictAll, PyData.hasDict]
        exact h1
      · simp only [PyData.depthAll, PyData.depth]
        omega
  have pl : Pf.plain (.list xs) = true := by
    unfold Pf.plain
    have h1 : (PyData.list xs).hasDict = false := by simp only [PyData.hasDict]; exact dd.1
    have h2 : (PyData.list xs).depth ≤ 64 := by simp only [PyData.depth]; omega
    rw [h1, decide_eq_true h2]
    rfl
  show pur (toB (if Pf.plain (.list xs) = true ∧ Pf.plain (.list []) = true then Rs.ok (PyData.eqv (.list xs) (.list [])) else .bad)) = _
  rw [if_pos ⟨pl, by decide⟩]
  cases xs with
  | nil => simp only [PyData.eqv, PyData.eqvAll]; rfl
  | cons d xs => simp only [PyData.eqv, PyData.eqvAll]; rfl
def notP (p : Nat → Bool) : D → Bool
  | .str z => !((cl z).all p)
  | _ => false
theorem notP_one (p : Nat → Bool) (c : Nat) : notP p (.str (mk [c])) = !p c := by
  show (!((cl (mk [c])).all p)) = _
  rw [cl_mk]
  simp
theorem filt_nil {p : Nat → Bool} : ∀ l : List Nat, ((chs l).filter (notP p)).isEmpty = l.all p
  | [] => rfl
  | c :: l => by
    show ((PyData.str (mk [c]) :: chs l).filter (notP p)).isEmpty = _
    rw [List.filter_cons, List.all_cons, notP_one, ← filt_nil l]
    cases p c <;> rfl
theorem l_is_name_str {x : Str} (a : asc x = true) (hl : x.length ≤ LIM) : mDef Γ 2 T.l_is_name [.str x] = .ok (.bool (nameL (cl x))) := by
  let ρ : Sto := [some (.pd (.str x)), none]
  have c1 : sem Γ (.not (.ch .le .le (.ex (.int 1)) (.ex (.len (.ex (.var 0)))) (.ex (.int 8)))) ρ = .ok (.bool (!(decide (1 ≤ x.length) && decide (x.length ≤ 8)))) := sem_not (by
    show toB (chainF .le .le (fun _ => .ok (.int 1)) _ (fun _ => .ok (.int 8)) ρ) = _
    rw [chain18 (n := x.length) rfl]
    rfl)
  have c2 : sem Γ (.or (.not (.isa (.ex (.var 0)) .str)) (.not (.ch .le .le (.ex (.int 1)) (.ex (.len (.ex (.var 0)))) (.ex (.int 8))))) ρ = .ok (.bool (!(decide (1 ≤ x.length) && decide (x.length ≤ 8)))) := by
    rw [sem_or (k := false) rfl fun _ => c1]
    rfl
  have c3 : sem Γ (.cmp .eq (.ex (.lc (.nm 1) [1] (.val (.var 0)) (.some (.not (.ch .le .le (.ex (.str "a")) (.ex (.var 1)) (.ex (.str "z"))))) (.var 1))) (.ex (.lst .nil))) ρ = .ok (.bool ((cl x).all letter)) := by
    have e1 := lc_filter (i := 1) (items := semi Γ (.val (.var 0))) (cond := semc Γ (.some (.not (.ch .le .le (.ex (.str "a")) (.ex (.var 1)) (.ex (.str "z")))))) (elt := sem Γ (.var 1)) (ρ := ρ) (ds := chs (cl x)) (p := notP letter) rfl (len_ch hl) fun d hd => by
        obtain ⟨c, hc, rfl⟩ := List.mem_map.mp hd
        refine ⟨?_, rfl⟩
        have ch : toB (chainF .le .le (seml Γ (.ex (.str "a"))) (seml Γ (.ex (.var 1))) (seml Γ (.ex (.str "z"))) [some (.pd (.str x)), some (.pd (.str (mk [c])))]) = .ok (.bool (letter c)) := by
          rw [chainS (x := "a") (y := mk [c]) (z := "z") (k := decide (97 ≤ c)) (l := decide (c ≤ 122)) rfl rfl rfl (by rw [az_.1, strLe, le_one]) (by rw [az_.2.1, strLe, le_one])]
          rfl
        show ((((toB (chainF .le .le (seml Γ (.ex (.str "a"))) (seml Γ (.ex (.var 1))) (seml Γ (.ex (.str "z"))) [some (.pd (.str x)), some (.pd (.str (mk [c])))])).bind asB).bind fun b => Rs.ok (PyData.bool (!b))).bind asB) = .ok (notP letter (.str (mk [c])))
        rw [ch, notP_one]
        rfl
    show ((lcF (.nm 1) [1] (semi Γ (.val (.var 0))) (semc Γ (.some (.not (.ch .le .le (.ex (.str "a")) (.ex (.var 1)) (.ex (.str "z")))))) (sem Γ (.var 1)) ρ).bind fun ds => .ok (.list ds)).bind (fun x => (Rs.ok (PyData.list [])).bind fun y => pur (toB (cmpB .eq x y))) = _
    rw [e1, Rs.bind_ok, Rs.bind_ok, Rs.bind_ok, eq_nil, filt_nil]
    intro d hd
    have := (List.mem_filter.mp hd).1
    obtain ⟨c, _, rfl⟩ := List.mem_map.mp this
    exact ⟨_, rfl⟩
  have start : mDef Γ 2 T.l_is_name [.str x] = out (exes Γ T.l_is_name ρ) := rfl
  rw [start]
  unfold T.l_is_name nameL
  rw [← len_cl]
  cases hb : (decide (1 ≤ x.length) && decide (x.length ≤ 8)) with
  | true =>
    rw [hb] at c2
    rw [ex_nx (ρ' := ρ) (by rw [ife_f c2]; rfl), ex_rt (ret_ok c3)]
    rfl
  | false =>
    rw [hb] at c2
    rw [ex_rt (by rw [ife_t c2, ex_rt (ret_ok (d := .bool false) rfl)])]
    rfl
end
end Pf

set_option Elab.async false
set_option linter.all false
set_option maxRecDepth 100000
/-! The laws' own checks of queries and addresses. -/
namespace Pf
open PySem PySem.Spec L2

section
variable {Γ : Gs}
theorem ife_b {ρ : Sto} {c : E} {a b : Ss} {k : Bool} (h : sem Γ c ρ = .ok (.bool k)) : exe Γ (.ife c a b) ρ = if k = true then exes Γ a ρ else exes Γ b ρ := by
  cases k with
  | true => rw [ife_t h]; rfl
  | false => rw [ife_f h]; rfl
theorem atI_0 {α : Type} {a : α} {l : List α} : atI (a :: l) 0 = some a := by
  unfold atI ixN
  rw [if_pos (by omega), if_pos (by simp only [List.length_cons]; omega)]
  rfl
theorem atI_1 {α : Type} {a b : α} {l : List α} : atI (a :: b :: l) 1 = some b := by
  unfold atI ixN
  rw [if_pos (by omega), if_pos (by simp only [List.length_cons]; omega)]
  rfl
def qBody : Ss := (.cons (.asg (.nm 4) (.mt .split (.var 3) (.cons (.str "=") .nil))) (.cons (.ife (.or (.cmp .ne (.ex (.len (.ex (.var 4)))) (.ex (.int 2))) (.or (.not (.call 1096 (.cons (.ix (.var 4) (.int 0)) .nil))) (.cmp .gt (.ex (.len (.ex (.ix (.var 4) (.int 1))))) (.ex (.int 8))))) (.cons (.ret (.bl false)) .nil) .nil) (.cons (.ife (.cmp .ne (.ex (.lc (.nm 5) [5] (.val (.ix (.var 4) (.int 1))) (.some (.not (.or (.ch .le .le (.ex (.str "a")) (.ex (.var 5)) (.ex (.str "z"))) (.ch .le .le (.ex (.str "0")) (.ex (.var 5)) (.ex (.str "9")))))) (.var 5))) (.ex (.lst .nil))) (.cons (.ret (.bl false)) .nil) .nil) (.cons (.app 2 (.ix (.var 4) (.int 0))) .nil))))
theorem ne_of {r : Rs D} {k : Bool} {x y : D} (h : pur (toB (cmpB .eq x y)) = .ok (.bool k)) : pur (toB (cmpB .ne x y)) = .ok (.bool (!k)) := by
  show pur (toB ((eqD x y).bind fun b => .ok (!b))) = _
  have h : pur (toB (eqD x y)) = .ok (.bool k) := h
  cases e : eqD x y with
  | ok b => rw [e] at h; cases h; rfl
  | ex e' => rw [e] at h; cases h
  | bad => rw [e] at h; cases h
theorem q_turn (hc : ∀ l, Tx l → callG Γ 1096 [.str (mk l)] = .ok (.bool (nameL l))) {w : List Nat} (h : Tx w) {o0 o1 o3 o4 o5 : Option SV} {ks : List D} (hk : ks.length < LIM) :
    if goodP w then exes Γ qBody [o0, o1, some (.own ks), some (.pd (.str (mk w))), o4, o5] = .nx [o0, o1, some (.own (ks ++ [.str (mk (cutAt 61 w).1)])), some (.pd (.str (mk w))), some (.pd (.list ((spl 61 w).map fun p => .str (mk p)))), o5]
    else exes Γ qBody [o0, o1, some (.own ks), some (.pd (.str (mk w))), o4, o5] = .rt (.bool false) := by
  let L := (spl 61 w).map fun p => PyData.str (mk p)
  let ρ : Sto := [o0, o1, some (.own ks), some (.pd (.str (mk w))), some (.pd (.list L)), o5]
  have hlen : L.length = (spl 61 w).length := List.length_map ..
  have step1 : exes Γ qBody [o0, o1, some (.own ks), some (.pd (.str (mk w))), o4, o5] = exes Γ (.cons (.ife (.or (.cmp .ne (.ex (.len (.ex (.var 4)))) (.ex (.int 2))) (.or (.not (.call 1096 (.cons (.ix (.var 4) (.int 0)) .nil))) (.cmp .gt (.ex (.len (.ex (.ix (.var 4) (.int 1))))) (.ex (.int 8))))) (.cons (.ret (.bl false)) .nil) .nil) (.cons (.ife (.cmp .ne (.ex (.lc (.nm 5) [5] (.val (.ix (.var 4) (.int 1))) (.some (.not (.or (.ch .le .le (.ex (.str "a")) (.ex (.var 5)) (.ex (.str "z"))) (.ch .le .le (.ex (.str "0")) (.ex (.var 5)) (.ex (.str "9")))))) (.var 5))) (.ex (.lst .nil))) (.cons (.ret (.bl false)) .nil) .nil) (.cons (.app 2 (.ix (.var 4) (.int 0))) .nil))) ρ := by
    unfold qBody
    rw [ex_nx (ρ' := ρ) ((asg_nm (d := .list L) (by
      show pur (miD .split (.str (mk w)) [.str "="]) = _
      rw [eqs_, split_at 61 (by rw [len_mk]; exact h.n), cl_mk]; rfl)).trans rfl)]
  rw [step1]
  have c1 : sem Γ (.cmp .ne (.ex (.len (.ex (.var 4)))) (.ex (.int 2))) ρ = .ok (.bool (!decide (((spl 61 w).length : Int) = 2))) := by
    show pur (toB (cmpB .ne (.int L.length) (.int 2))) = _
    rw [hlen]
    exact intNe _ _
  have fail : ((spl 61 w).length ≠ 2) → exes Γ (.cons (.ife (.or (.cmp .ne (.ex (.len (.ex (.var 4)))) (.ex (.int 2))) (.or (.not (.call 1096 (.cons (.ix (.var 4) (.int 0)) .nil))) (.cmp .gt (.ex (.len (.ex (.ix (.var 4) (.int 1))))) (.ex (.int 8))))) (.cons (.ret (.bl false)) .nil) .nil) (.cons (.ife (.cmp .ne (.ex (.lc (.nm 5) [5] (.val (.ix (.var 4) (.int 1))) (.some (.not (.or (.ch .le .le (.ex (.str "a")) (.ex (.var 5)) (.ex (.str "z"))) (.ch .le .le (.ex (.str "0")) (.ex (.var 5)) (.ex (.str "9")))))) (.var 5))) (.ex (.lst .nil))) (.cons (.ret (.bl false)) .nil) .nil) (.cons (.app 2 (.ix (.var 4) (.int 0))) .nil))) ρ = .rt (.bool false) := fun hn => by
    rw [decide_eq_false (by omega)] at c1
    rw [ex_rt (by rw [ife_t (sem_or (l := false) c1 (fun z => by cases z)), ex_rt (ret_ok (d := .bool false) rfl)])]
  cases e : (cutAt 61 w).2 with
  | none =>
    have : goodP w = false := by unfold goodP; rw [e]
    rw [this]
    exact fail (by rw [spl_cut, e]; simp)
  | some v =>
    have hs : spl 61 w = (cutAt 61 w).1 :: spl 61 v := by rw [spl_cut, e]
    by_cases hv : 61 ∈ v
    · have : goodP w = false := by
        unfold goodP
        rw [e]
        cases hb : (nameL (cutAt 61 w).1 && valueL v) with
        | false => exact hb
        | true =>
          rw [Bool.and_eq_true] at hb
          have := value_no hb.2 hv
          omega
      rw [this]
      refine fail ?_
      have := spl_two hv
      rw [hs, List.length_cons]
      omega
    · have hs2 : spl 61 w = [(cutAt 61 w).1, v] := by rw [hs, spl_out hv]
      have hL : L = [.str (mk (cutAt 61 w).1), .str (mk v)] := by
        show (spl 61 w).map _ = _
        rw [hs2]; rfl
      rw [hs2] at c1
      have c1 : sem Γ (.cmp .ne (.ex (.len (.ex (.var 4)))) (.ex (.int 2))) ρ = .ok (.bool false) := c1
      have ix0 : sem Γ (.ix (.var 4) (.int 0)) ρ = .ok (.str (mk (cutAt 61 w).1)) := by
        show pur (ixD (.list L) (.int 0)) = _
        rw [hL]
        show pur (opt (atI [PyData.str (mk (cutAt 61 w).1), PyData.str (mk v)] 0) id) = _
        rw [atI_0]; rfl
      have ix1 : sem Γ (.ix (.var 4) (.int 1)) ρ = .ok (.str (mk v)) := by
        show pur (ixD (.list L) (.int 1)) = _
        rw [hL]
        show pur (opt (atI [PyData.str (mk (cutAt 61 w).1), PyData.str (mk v)] 1) id) = _
        rw [atI_1]; rfl
      have hvx : Tx v := h.cut2 e
      have c2 : sem Γ (.call 1096 (.cons (.ix (.var 4) (.int 0)) .nil)) ρ = .ok (.bool (nameL (cutAt 61 w).1)) := by
        show ((sem Γ (.ix (.var 4) (.int 0)) ρ).bind fun x => (Rs.ok []).bind fun xs => Rs.ok (x :: xs)).bind (fun ds => callG Γ 1096 ds) = _
        rw [ix0]
        exact hc _ h.cut1
      have c3 : sem Γ (.cmp .gt (.ex (.len (.ex (.ix (.var 4) (.int 1))))) (.ex (.int 8))) ρ = .ok (.bool (decide (8 < v.length))) := by
        show ((sem Γ (.ix (.var 4) (.int 1)) ρ).bind fun d => pur (lenD d)).bind (fun x => (Rs.ok (PyData.int 8)).bind fun y => pur (toB (cmpB .gt x y))) = _
        rw [ix1]
        show pur (toB (cmpB .gt (.int (mk v).length) (.int 8))) = _
        rw [len_mk]
        exact intGt (a := v.length) (b := 8)
      have c4 := sem_or c1 fun _ => sem_or (sem_not c2) fun _ => c3
      have e1 := lc_filter (i := 5) (items := semi Γ (.val (.ix (.var 4) (.int 1)))) (cond := semc Γ (.some (.not (.or (.ch .le .le (.ex (.str "a")) (.ex (.var 5)) (.ex (.str "z"))) (.ch .le .le (.ex (.str "0")) (.ex (.var 5)) (.ex (.str "9"))))))) (elt := sem Γ (.var 5)) (ρ := ρ) (ds := chs v) (p := notP fun c => letter c || digit c)
        (by
          show (sem Γ (.ix (.var 4) (.int 1)) ρ).bind itemsD = _
          rw [ix1]
          show Rs.ok ((cl (mk v)).map fun c => PyData.str (mk [c])) = _
          rw [cl_mk]; rfl) (by unfold chs; rw [List.length_map]; have := hvx.n; omega) fun d hd => by
          obtain ⟨c, _, rfl⟩ := List.mem_map.mp hd
          refine ⟨?_, rfl⟩
          let ρ5 : Sto := [o0, o1, some (.own ks), some (.pd (.str (mk w))), some (.pd (.list L)), some (.pd (.str (mk [c])))]
          have a1 : sem Γ (.ch .le .le (.ex (.str "a")) (.ex (.var 5)) (.ex (.str "z"))) ρ5 = .ok (.bool (letter c)) := by
            show toB (chainF .le .le (seml Γ (.ex (.str "a"))) (seml Γ (.ex (.var 5))) (seml Γ (.ex (.str "z"))) ρ5) = _
            rw [chainS (x := "a") (y := mk [c]) (z := "z") (k := decide (97 ≤ c)) (l := decide (c ≤ 122)) rfl rfl rfl (by rw [az_.1, strLe, le_one]) (by rw [az_.2.1, strLe, le_one])]
            rfl
          have a2 : sem Γ (.ch .le .le (.ex (.str "0")) (.ex (.var 5)) (.ex (.str "9"))) ρ5 = .ok (.bool (digit c)) := by
            show toB (chainF .le .le (seml Γ (.ex (.str "0"))) (seml Γ (.ex (.var 5))) (seml Γ (.ex (.str "9"))) ρ5) = _
            rw [chainS (x := "0") (y := mk [c]) (z := "9") (k := decide (48 ≤ c)) (l := decide (c ≤ 57)) rfl rfl rfl (by rw [az_.2.2.1, strLe, le_one]) (by rw [az_.2.2.2, strLe, le_one])]
            rfl
          show (sem Γ (.not (.or (.ch .le .le (.ex (.str "a")) (.ex (.var 5)) (.ex (.str "z"))) (.ch .le .le (.ex (.str "0")) (.ex (.var 5)) (.ex (.str "9"))))) ρ5).bind asB = _
          rw [sem_not (sem_or a1 fun _ => a2), notP_one]
          cases letter c <;> cases digit c <;> rfl
      have c5 : sem Γ (.cmp .ne (.ex (.lc (.nm 5) [5] (.val (.ix (.var 4) (.int 1))) (.some (.not (.or (.ch .le .le (.ex (.str "a")) (.ex (.var 5)) (.ex (.str "z"))) (.ch .le .le (.ex (.str "0")) (.ex (.var 5)) (.ex (.str "9")))))) (.var 5))) (.ex (.lst .nil))) ρ = .ok (.bool (!(v.all fun c => letter c || digit c))) := by
        show ((lcF (.nm 5) [5] (semi Γ (.val (.ix (.var 4) (.int 1)))) (semc Γ (.some (.not (.or (.ch .le .le (.ex (.str "a")) (.ex (.var 5)) (.ex (.str "z"))) (.ch .le .le (.ex (.str "0")) (.ex (.var 5)) (.ex (.str "9"))))))) (sem Γ (.var 5)) ρ).bind fun ds => .ok (.list ds)).bind (fun x => (Rs.ok (PyData.list [])).bind fun y => pur (toB (cmpB .ne x y))) = _
        rw [e1, Rs.bind_ok, Rs.bind_ok, Rs.bind_ok]
        rw [ne_of (r := .bad) (eq_nil fun d hd => ?_), filt_nil]
        have := (List.mem_filter.mp hd).1
        obtain ⟨c, _, rfl⟩ := List.mem_map.mp this
        exact ⟨_, rfl⟩
      have g : goodP w = (nameL (cutAt 61 w).1 && (decide (v.length ≤ 8) && v.all fun c => letter c || digit c)) := by
        unfold goodP
        rw [e]
        rfl
      cases hn : nameL (cutAt 61 w).1 with
      | false =>
        rw [g, hn, Bool.false_and]
        rw [hn] at c4
        rw [if_neg Bool.false_ne_true]
        rw [ex_rt (by rw [ife_t c4, ex_rt (ret_ok (d := .bool false) rfl)])]
      | true =>
        rw [hn] at c4
        by_cases h8 : v.length ≤ 8
        · rw [decide_eq_false (by omega)] at c4
          rw [ex_nx (ρ' := ρ) (by rw [ife_f c4]; rfl)]
          rw [g, hn, decide_eq_true h8, Bool.true_and, Bool.true_and]
          cases ha : v.all fun c => letter c || digit c with
          | true =>
            rw [ha] at c5
            rw [if_pos rfl, ex_nx (ρ' := ρ) (by rw [ife_f c5]; rfl), ex_nx (ρ' := [o0, o1, some (.own (ks ++ [.str (mk (cutAt 61 w).1)])), some (.pd (.str (mk w))), some (.pd (.list L)), o5]) ((app_ok (xs := ks) (d := .str (mk (cutAt 61 w).1)) rfl ix0 hk).trans rfl)]
            rfl
          | false =>
            rw [ha] at c5
            rw [if_neg Bool.false_ne_true]
            rw [ex_rt (by rw [ife_t c5, ex_rt (ret_ok (d := .bool false) rfl)])]
        · rw [decide_eq_true (by omega)] at c4
          rw [g, hn, decide_eq_false h8, Bool.false_and, Bool.and_false, if_neg Bool.false_ne_true]
          rw [ex_rt (by rw [ife_t c4, ex_rt (ret_ok (d := .bool false) rfl)])]
def keyD_ (w : List Nat) : D := .str (mk (cutAt 61 w).1)
theorem q_loop (hc : ∀ l, Tx l → callG Γ 1096 [.str (mk l)] = .ok (.bool (nameL l))) {o0 o1 : Option SV} : ∀ {ws : List (List Nat)} {ks : List D} {o3 o4 o5 : Option SV}, (∀ w ∈ ws, Tx w) → ks.length + ws.length ≤ LIM →
    if ws.all goodP then ∃ p3 p4, forL (fun d ρ' => (asgO (.nm 3) d ρ').seq (exes Γ qBody)) (ws.map fun p => .str (mk p)) [o0, o1, some (.own ks), o3, o4, o5] = .nx [o0, o1, some (.own (ks ++ ws.map keyD_)), p3, p4, o5]
    else forL (fun d ρ' => (asgO (.nm 3) d ρ').seq (exes Γ qBody)) (ws.map fun p => .str (mk p)) [o0, o1, some (.own ks), o3, o4, o5] = .rt (.bool false)
  | [], ks, o3, o4, o5, _, _ => by
    rw [show ([] : List (List Nat)).all goodP = true from rfl, if_pos rfl]
    exact ⟨o3, o4, by simp [forL]⟩
  | w :: ws, ks, o3, o4, o5, hw, hl => by
    rw [List.length_cons] at hl
    have t := q_turn hc (hw w (by simp)) (o0 := o0) (o1 := o1) (o3 := o3) (o4 := o4) (o5 := o5) (ks := ks) (by omega)
    have one : forL (fun d ρ' => (asgO (.nm 3) d ρ').seq (exes Γ qBody)) ((w :: ws).map fun p => .str (mk p)) [o0, o1, some (.own ks), o3, o4, o5] = (match exes Γ qBody [o0, o1, some (.own ks), some (.pd (.str (mk w))), o4, o5] with
      | .nx ρ' => forL (fun d ρ' => (asgO (.nm 3) d ρ').seq (exes Γ qBody)) (ws.map fun p => .str (mk p)) ρ'
      | .ct ρ' => forL (fun d ρ' => (asgO (.nm 3) d ρ').seq (exes Γ qBody)) (ws.map fun p => .str (mk p)) ρ'
      | .bk ρ' => .nx ρ'
      | o => o) := rfl
    rw [List.all_cons]
    cases hg : goodP w with
    | false =>
      rw [hg, if_neg Bool.false_ne_true] at t
      rw [Bool.false_and, if_neg Bool.false_ne_true, one, t]
    | true =>
      rw [hg, if_pos rfl] at t
      rw [Bool.true_and]
      have ih := q_loop hc (o0 := o0) (o1 := o1) (ws := ws) (ks := ks ++ [keyD_ w]) (o3 := some (.pd (.str (mk w)))) (o4 := some (.pd (.list ((spl 61 w).map fun p => .str (mk p))))) (o5 := o5) (fun x hx => hw x (List.mem_cons_of_mem _ hx)) (by rw [List.length_append, List.length_singleton]; omega)
      rw [one, t]
      cases ha : ws.all goodP with
      | true =>
        rw [ha, if_pos rfl] at ih
        obtain ⟨p3, p4, e⟩ := ih
        rw [if_pos rfl]
        refine ⟨p3, p4, ?_⟩
        rw [List.map_cons, show ks ++ keyD_ w :: ws.map keyD_ = (ks ++ [keyD_ w]) ++ ws.map keyD_ by simp]
        exact e
      | false =>
        rw [ha, if_neg Bool.false_ne_true] at ih
        rw [if_neg Bool.false_ne_true]
        exact ih
theorem l_is_query_str (hc : ∀ l, Tx l → callG Γ 1096 [.str (mk l)] = .ok (.bool (nameL l))) {l : List Nat} (h : Tx l) : mDef Γ 6 T.l_is_query [.str (mk l)] = .ok (.bool (queryL l)) := by
  let W := spl 38 l
  let L := W.map fun p => PyData.str (mk p)
  have cnt := spl_cnt 38 l
  have hn := h.n
  have start : mDef Γ 6 T.l_is_query [.str (mk l)] = out (exes Γ T.l_is_query [some (.pd (.str (mk l))), none, none, none, none, none]) := rfl
  have shape : T.l_is_query = (.cons (.asg (.nm 1) (.mt .split (.var 0) (.cons (.str "&") .nil))) (.cons (.own 2 .nil) (.cons (.for (.nm 3) (.val (.var 1)) qBody) (.cons (.ret (.and (.cmp .le (.ex (.len (.ex (.var 1)))) (.ex (.int 4))) (.cmp .eq (.ex (.lenset (.ov 2))) (.ex (.len (.ov 2)))))) .nil)))) := rfl
  rw [start, shape]
  rw [ex_nx (ρ' := [some (.pd (.str (mk l))), some (.pd (.list L)), none, none, none, none]) ((asg_nm (d := .list L) (by
      show pur (miD .split (.str (mk l)) [.str "&"]) = _
      rw [amp_, split_at 38 (by rw [len_mk]; exact hn), cl_mk]; rfl)).trans rfl),
    ex_nx (ρ' := [some (.pd (.str (mk l))), some (.pd (.list L)), some (.own []), none, none, none]) rfl]
  have lp := q_loop hc (o0 := some (.pd (.str (mk l)))) (o1 := some (.pd (.list L))) (ws := W) (ks := []) (o3 := none) (o4 := none) (o5 := none) (fun w hw => h.spl hw) (by show 0 + (spl 38 l).length ≤ _; omega)
  unfold queryL
  cases ha : W.all goodP with
  | false =>
    rw [ha, if_neg Bool.false_ne_true] at lp
    rw [ex_rt ((for_ok (ds := L) rfl).trans lp), Bool.and_false]
    rfl
  | true =>
    rw [ha, if_pos rfl] at lp
    obtain ⟨p3, p4, lp⟩ := lp
    rw [List.nil_append] at lp
    rw [ex_nx ((for_ok (ds := L) rfl).trans lp), Bool.and_true]
    let ρ : Sto := [some (.pd (.str (mk l))), some (.pd (.list L)), some (.own (W.map keyD_)), p3, p4, none]
    have c1 : sem Γ (.cmp .le (.ex (.len (.ex (.var 1)))) (.ex (.int 4))) ρ = .ok (.bool (decide (W.length ≤ 4))) := by
      show Rs.ok (PyData.bool (decide ((L.length : Int) ≤ 4))) = _
      rw [List.length_map]
      congr 2
      by_cases q : W.length ≤ 4
      · rw [decide_eq_true q, decide_eq_true (by omega)]
      · rw [decide_eq_false q, decide_eq_false (by omega)]
    have fin : sem Γ (.and (.cmp .le (.ex (.len (.ex (.var 1)))) (.ex (.int 4))) (.cmp .eq (.ex (.lenset (.ov 2))) (.ex (.len (.ov 2))))) ρ = .ok (.bool (decide (W.length ≤ 4) && decide ((met (W.map keyP)).length = W.length))) := by
      by_cases q : W.length ≤ 4
      · rw [decide_eq_true q] at c1 ⊢
        have go : getO ρ 2 = .ok (.list (W.map keyD_)) := by
          show (if (W.map keyD_).length ≤ LIM then Rs.ok (PyData.list (W.map keyD_)) else .bad) = _
          rw [if_pos (by rw [List.length_map]; show (spl 38 l).length ≤ _; omega)]
        have kk : keysO (W.map keyD_) = some (W.map keyP) := by
          have : ∀ ws : List (List Nat), keysO (ws.map keyD_) = some (ws.map keyP) := by
            intro ws
            induction ws with
            | nil => rfl
            | cons w ws ih =>
              show (match keyO (keyD_ w), keysO (ws.map keyD_) with
                | some k, some ks => some (k :: ks)
                | _, _ => none) = _
              rw [ih]
              rfl
          exact this W
        have sd : setD (.list (W.map keyD_)) = .ok (met (W.map keyP)) := by
          show (match keysO (W.map keyD_) with
            | some ks => if ks.length ≤ 4000 then Rs.ok (met ks) else .bad
            | none => .bad) = _
          rw [kk]
          show (if (W.map keyP).length ≤ 4000 then Rs.ok (met (W.map keyP)) else .bad) = _
          rw [if_pos (by rw [List.length_map]; omega)]
        refine (sem_and (l := decide ((met (W.map keyP)).length = W.length)) c1 (fun _ => ?_) (fun z => by cases z)).trans (by rw [Bool.true_and])
        show (((getO ρ 2).bind setD).bind fun ks => Rs.ok (PyData.int ks.length)).bind (fun x => ((getO ρ 2).bind fun d => pur (lenD d)).bind fun y => pur (toB (cmpB .eq x y))) = _
        rw [go]
        simp only [Rs.bind_ok]
        rw [sd]
        show pur (toB (cmpB .eq (.int (met (W.map keyP)).length) (.int (W.map keyD_).length))) = _
        rw [intEq, List.length_map]
        congr 2
        by_cases z : (met (W.map keyP)).length = W.length
        · rw [decide_eq_true z, decide_eq_true (by omega)]
        · rw [decide_eq_false z, decide_eq_false (by omega)]
      · rw [decide_eq_false q] at c1 ⊢
        rw [sem_and (l := false) c1 (fun z => by cases z) (fun _ => rfl), Bool.false_and]
    rw [ex_rt (ret_ok fin)]
    rfl
end
end Pf

set_option Elab.async false
set_option linter.all false
set_option maxRecDepth 100000
/-! .. and of addresses; all of them over any datum. -/
namespace Pf
open PySem PySem.Spec L2

section
variable {Γ : Gs}
def notN : D → Bool
  | .str z => !nameL (cl z)
  | _ => false
theorem filt_names : ∀ L : List (List Nat), ((L.map fun p => PyData.str (mk p)).filter notN).isEmpty = L.all nameL
  | [] => rfl
  | w :: L => by
    show ((PyData.str (mk w) :: L.map fun p => PyData.str (mk p)).filter notN).isEmpty = _
    have : notN (.str (mk w)) = !nameL w := by
      show (!nameL (cl (mk w))) = _
      rw [cl_mk]
    rw [List.filter_cons, List.all_cons, this, ← filt_names L]
    cases nameL w <;> rfl
theorem l_is_address_str (hc : ∀ l, Tx l → callG Γ 1096 [.str (mk l)] = .ok (.bool (nameL l))) (hq : ∀ l, Tx l → callG Γ 1100 [.str (mk l)] = .ok (.bool (queryL l))) {l : List Nat} (h : Tx l) : mDef Γ 4 T.l_is_address [.str (mk l)] = .ok (.bool (addrL l)) := by
  let p := (cutAt 63 l).1
  let P := spl 63 l
  let L := spl 47 p
  have tp : Tx p := h.cut1
  have cnt := spl_cnt 47 p
  have hn := tp.n
  have headP : ∃ r, P = p :: r ∧ (match (cutAt 63 l).2 with
      | some q => r = spl 63 q
      | none => r = []) := by
    show ∃ r, spl 63 l = p :: r ∧ _
    rw [spl_cut]
    cases e : (cutAt 63 l).2 with
    | none => exact ⟨[], by show [l] = [p]; rw [show p = l from cut_none e], rfl⟩
    | some q => exact ⟨spl 63 q, rfl, rfl⟩
  obtain ⟨r, hP, hr⟩ := headP
  let DP : List D := P.map fun p => .str (mk p)
  let DL : List D := L.map fun p => .str (mk p)
  let ρ0 : Sto := [some (.pd (.str (mk l))), none, none, none]
  let ρ1 : Sto := [some (.pd (.str (mk l))), some (.pd (.list DP)), none, none]
  let ρ2 : Sto := [some (.pd (.str (mk l))), some (.pd (.list DP)), some (.pd (.list DL)), none]
  have ix0 : ∀ τ, sem Γ (.ix (.var 1) (.int 0)) (some (.pd (.str (mk l))) :: some (.pd (.list DP)) :: τ) = .ok (.str (mk p)) := fun τ => by
    show pur (ixD (.list DP) (.int 0)) = _
    show pur (opt (atI (P.map fun p => PyData.str (mk p)) 0) id) = _
    rw [hP, List.map_cons, atI_0]; rfl
  have start : mDef Γ 4 T.l_is_address [.str (mk l)] = out (exes Γ T.l_is_address ρ0) := rfl
  rw [start]
  unfold T.l_is_address
  rw [ex_nx (ρ' := ρ0) (by rw [ife_f rfl]; rfl), ex_nx (ρ' := ρ1) ((asg_nm (d := .list DP) (by
      show pur (miD .split (.str (mk l)) [.str "?"]) = _
      rw [qus_, split_at 63 (by rw [len_mk]; exact h.n), cl_mk]; rfl)).trans rfl), ex_nx (ρ' := ρ2) ((asg_nm (d := .list DL) (by
      show (sem Γ (.ix (.var 1) (.int 0)) ρ1).bind (fun x => (strR x).bind fun z => pur (miD .split (.str z) [.str "/"])) = _
      rw [ix0]
      show pur (miD .split (.str (mk p)) [.str "/"]) = _
      rw [sla_, split_at 47 (by rw [len_mk]; exact hn), cl_mk]; rfl)).trans rfl)]
  have c1 : sem Γ (.cmp .gt (.ex (.len (.ex (.var 2)))) (.ex (.int 7))) ρ2 = .ok (.bool (decide (7 < L.length))) := by
    show pur (toB (cmpB .gt (.int DL.length) (.int 7))) = _
    rw [List.length_map]
    exact intGt (a := L.length) (b := 7)
  have c2 : sem Γ (.cmp .gt (.ex (.len (.ex (.var 1)))) (.ex (.int 2))) ρ2 = .ok (.bool (decide (2 < P.length))) := by
    show pur (toB (cmpB .gt (.int DP.length) (.int 2))) = _
    rw [List.length_map]
    exact intGt (a := P.length) (b := 2)
  have c3 : sem Γ (.cmp .ne (.ex (.lc (.nm 3) [3] (.val (.var 2)) (.some (.not (.call 1096 (.cons (.var 3) .nil)))) (.var 3))) (.ex (.lst .nil))) ρ2 = .ok (.bool (!L.all nameL)) := by
    have e1 := lc_filter (i := 3) (items := semi Γ (.val (.var 2))) (cond := semc Γ (.some (.not (.call 1096 (.cons (.var 3) .nil))))) (elt := sem Γ (.var 3)) (ρ := ρ2) (ds := DL) (p := notN) rfl (by show (L.map _).length ≤ _; rw [List.length_map]; show (spl 47 p).length ≤ _; omega) fun d hd => by
      obtain ⟨w, hw, rfl⟩ := List.mem_map.mp hd
      refine ⟨?_, rfl⟩
      show (((callG Γ 1096 [.str (mk w)]).bind asB).bind fun b => Rs.ok (PyData.bool (!b))).bind asB = .ok (!nameL (cl (mk w)))
      rw [hc w (tp.spl hw), cl_mk]
      rfl
    show ((lcF (.nm 3) [3] (semi Γ (.val (.var 2))) (semc Γ (.some (.not (.call 1096 (.cons (.var 3) .nil))))) (sem Γ (.var 3)) ρ2).bind fun ds => .ok (.list ds)).bind (fun x => (Rs.ok (PyData.list [])).bind fun y => pur (toB (cmpB .ne x y))) = _
    rw [e1, Rs.bind_ok, Rs.bind_ok, Rs.bind_ok, ne_of (r := .bad) (eq_nil fun d hd => ?_), filt_names]
    have := (List.mem_filter.mp hd).1
    obtain ⟨w, _, rfl⟩ := List.mem_map.mp this
    exact ⟨_, rfl⟩
  have c4 := sem_or c1 fun _ => sem_or c2 fun _ => c3
  have fail : ∀ {k : Bool}, sem Γ (.or (.cmp .gt (.ex (.len (.ex (.var 2)))) (.ex (.int 7))) (.or (.cmp .gt (.ex (.len (.ex (.var 1)))) (.ex (.int 2))) (.cmp .ne (.ex (.lc (.nm 3) [3] (.val (.var 2)) (.some (.not (.call 1096 (.cons (.var 3) .nil)))) (.var 3))) (.ex (.lst .nil))))) ρ2 = .ok (.bool k) → k = true → ∀ ss, out (exes Γ (.cons (.ife (.or (.cmp .gt (.ex (.len (.ex (.var 2)))) (.ex (.int 7))) (.or (.cmp .gt (.ex (.len (.ex (.var 1)))) (.ex (.int 2))) (.cmp .ne (.ex (.lc (.nm 3) [3] (.val (.var 2)) (.some (.not (.call 1096 (.cons (.var 3) .nil)))) (.var 3))) (.ex (.lst .nil))))) (.cons (.ret (.bl false)) .nil) .nil) ss) ρ2) = .ok (.bool false) := by
    intro k hk ht ss
    subst ht
    rw [ex_rt (by rw [ife_t hk, ex_rt (ret_ok (d := .bool false) rfl)])]
    rfl
  unfold addrL
  show _ = Rs.ok (PyData.bool (decide (L.length ≤ 7) && L.all nameL && _))
  by_cases h7 : L.length ≤ 7
  · rw [decide_eq_true h7, Bool.true_and]
    rw [decide_eq_false (by omega)] at c4
    cases ha : L.all nameL with
    | false =>
      rw [ha] at c4
      rw [fail c4 (by cases decide (2 < P.length) <;> rfl)]
      rfl
    | true =>
      rw [ha] at c4
      rw [Bool.true_and]
      by_cases h2 : 2 < P.length
      · rw [decide_eq_true h2] at c4
        rw [fail c4 rfl]
        cases e : (cutAt 63 l).2 with
        | none =>
          rw [e] at hr
          rw [hP, hr] at h2
          simp at h2
        | some q =>
          rw [e] at hr
          have : 63 ∈ q := by
            cases hb : decide (63 ∈ q) with
            | true => exact of_decide_eq_true hb
            | false =>
              have := of_decide_eq_false hb
              rw [hP, hr, spl_out this] at h2
              simp at h2
          show _ = Rs.ok (PyData.bool (queryL q))
          rw [query_no this (by omega) (by omega) (by omega) (by omega)]
      · rw [decide_eq_false h2] at c4
        rw [ex_nx (ρ' := ρ2) (by rw [ife_f c4]; rfl)]
        have c5 : sem Γ (.cmp .eq (.ex (.len (.ex (.var 1)))) (.ex (.int 1))) ρ2 = .ok (.bool (decide ((P.length : Int) = 1))) := by
          show pur (toB (cmpB .eq (.int DP.length) (.int 1))) = _
          rw [List.length_map]
          exact intEq _ _
        cases e : (cutAt 63 l).2 with
        | none =>
          rw [e] at hr
          have : P.length = 1 := by rw [hP, hr]; rfl
          rw [decide_eq_true (by omega)] at c5
          rw [ex_rt (ret_ok (sem_or (l := true) c5 fun z => by cases z))]
          rfl
        | some q =>
          rw [e] at hr
          have h1 := spl_ne 63 q
          have hq1 : r = [q] := by
            by_cases hb : 63 ∈ q
            · have := spl_two hb
              rw [hP, hr, List.length_cons] at h2
              omega
            · rw [hr, spl_out hb]
          have : P.length = 2 := by rw [hP, hq1]; rfl
          rw [decide_eq_false (by omega)] at c5
          have c6 : sem Γ (.call 1100 (.cons (.ix (.var 1) (.int 1)) .nil)) ρ2 = .ok (.bool (queryL q)) := by
            have ix1 : sem Γ (.ix (.var 1) (.int 1)) ρ2 = .ok (.str (mk q)) := by
              show pur (opt (atI (P.map fun p => PyData.str (mk p)) 1) id) = _
              rw [hP, hq1]
              show pur (opt (atI [PyData.str (mk p), PyData.str (mk q)] 1) id) = _
              rw [atI_1]; rfl
            show ((sem Γ (.ix (.var 1) (.int 1)) ρ2).bind fun x => (Rs.ok []).bind fun xs => Rs.ok (x :: xs)).bind (fun ds => callG Γ 1100 ds) = _
            rw [ix1]
            exact hq q (h.cut2 e)
          rw [ex_rt (ret_ok (sem_or c5 fun _ => c6))]
          show Rs.ok (PyData.bool (false || (!false && queryL q))) = Rs.ok (PyData.bool (queryL q))
          cases queryL q <;> rfl
  · rw [decide_eq_false h7, Bool.false_and, Bool.false_and]
    rw [decide_eq_true (by omega)] at c4
    rw [fail c4 rfl]
end
/-! ### over any datum -/
/-- a text among them is a plain one -/
def okTop : D → Prop
  | .str x => asc x = true ∧ x.length + 1 ≤ LIM
  | _ => True
theorem tx_of {x : Str} (h : okTop (.str x)) : Tx (cl x) ∧ mk (cl x) = x := ⟨⟨asc_iff.mp h.1, by rw [← len_cl]; exact h.2⟩, by cases x; rfl⟩
section
variable {Γ : Gs}
theorem is_name_D (g : G1 Γ) {d : D} (h : okTop d) : mDef Γ 2 T.is_name [d] = .ok (.bool (nameD d)) := by
  cases d with
  | str x => exact is_name_str g h.1 (by have := h.2; omega)
  | none => rfl
  | bool b => rfl
  | int i => rfl
  | list xs => rfl
  | tuple xs => rfl
  | dict kvs => rfl
theorem is_address_D (g : G3 Γ) {d : D} (h : okTop d) : mDef Γ 6 T.is_address [d] = .ok (.bool (addrD d)) := by
  cases d with
  | str x =>
    obtain ⟨t, e⟩ := tx_of h
    rw [← e, is_address_str g t]
    show Rs.ok (PyData.bool (addrL (cl x))) = Rs.ok (PyData.bool (addrL (cl (mk (cl x)))))
    rw [cl_mk]
  | none => rfl
  | bool b => rfl
  | int i => rfl
  | list xs => rfl
  | tuple xs => rfl
  | dict kvs => rfl
theorem l_is_name_D {d : D} (h : okTop d) : mDef Γ 2 T.l_is_name [d] = .ok (.bool (nameD d)) := by
  cases d with
  | str x => exact l_is_name_str h.1 (by have := h.2; omega)
  | none => rfl
  | bool b => rfl
  | int i => rfl
  | list xs => rfl
  | tuple xs => rfl
  | dict kvs => rfl
theorem l_is_address_D (hc : ∀ l, Tx l → callG Γ 1096 [.str (mk l)] = .ok (.bool (nameL l))) (hq : ∀ l, Tx l → callG Γ 1100 [.str (mk l)] = .ok (.bool (queryL l))) {d : D} (h : okTop d) : mDef Γ 4 T.l_is_address [d] = .ok (.bool (addrD d)) := by
  cases d with
  | str x =>
    obtain ⟨t, e⟩ := tx_of h
    rw [← e, l_is_address_str hc hq t]
    show Rs.ok (PyData.bool (addrL (cl x))) = Rs.ok (PyData.bool (addrL (cl (mk (cl x)))))
    rw [cl_mk]
  | none => rfl
  | bool b => rfl
  | int i => rfl
  | list xs => rfl
  | tuple xs => rfl
  | dict kvs => rfl
end
end Pf

set_option Elab.async false
set_option linter.all false
set_option maxRecDepth 100000
/-! What is known of calls without a look into them. -/
namespace Ax
open PySem PySem.Spec L2 Pf

theorem stage_cons {base : Gs} (i : Nat) (x : Str) (ar n : Nat) (b : Ss) (r : List DefE) : stage base (⟨i, x, ar, n, b⟩ :: r) = { stage base r with fs := (stage base r).fs ++ [(i, x, ar, mDef (stage base r) n b)] } := rfl
mutual
def okA : A → Bool
  | .d (.str x) => asc x && decide (x.length + 1 ≤ LIM)
  | .str n => decide (n + 1 ≤ LIM)
  | .alt xs => okAs xs
  | .q _ _ a => okA a
  | .tm _ _ a => okA a
  | _ => true
def okAs : List A → Bool
  | [] => true
  | a :: r => okA a && okAs r
end
mutual
theorem okA_ok {m : Mg} {v : D} : ∀ {a : A}, okA a = true → γ m a v → okTop v
  | .d x, e, g => by
    unfold γ at g
    subst g
    cases v with
    | str x =>
      unfold okA at e
      simp only [Bool.and_eq_true, decide_eq_true_eq] at e
      exact e
    | _ => trivial
  | .str n, e, g => by
    unfold γ at g
    obtain ⟨x, rfl, h1, h2⟩ := g
    unfold okA at e
    have := of_decide_eq_true e
    exact ⟨h1, by omega⟩
  | .alt xs, e, g => by unfold γ at g; unfold okA at e; exact okAs_ok e g
  | .q _ _ a, e, g => by unfold γ at g; unfold okA at e; exact okA_ok e g.2
  | .tm _ _ a, e, g => by unfold γ at g; unfold okA at e; exact okA_ok e g.2
  | .int _ _, _, g => by unfold γ at g; obtain ⟨_, rfl, _⟩ := g; trivial
  | .any, _, g => by unfold γ at g; obtain ⟨_, rfl⟩ := g; trivial
  | .bool, _, g => by unfold γ at g; obtain ⟨_, rfl⟩ := g; trivial
  | .lst _ _, _, g => by unfold γ at g; obtain ⟨_, rfl, _⟩ := g; trivial
  | .tpl _ _, _, g => by unfold γ at g; obtain ⟨_, rfl, _⟩ := g; trivial
  | .ls _, _, g => by unfold γ at g; obtain ⟨_, rfl, _⟩ := g; trivial
  | .tp _, _, g => by unfold γ at g; obtain ⟨_, rfl, _⟩ := g; trivial
theorem okAs_ok {m : Mg} {v : D} : ∀ {xs : List A}, okAs xs = true → γa m xs v → okTop v
  | [], _, g => by unfold γa at g; exact g.elim
  | a :: r, e, g => by
    unfold okAs at e
    rw [Bool.and_eq_true] at e
    unfold γa at g
    exact g.elim (okA_ok e.1) (okAs_ok e.2)
end
/-- what is known of predicate p -/
def qOf (p : Nat) : A → Option Bool
  | .q p' b a => if p' = p then some b else qOf p a
  | .tm _ _ a => qOf p a
  | _ => none
theorem qOf_ok {m : Mg} {p : Nat} {v : D} : ∀ {a : A} {b : Bool}, qOf p a = some b → γ m a v → m.pr p v = b
  | .q p' b' a, b, e, g => by
    unfold γ at g
    unfold qOf at e
    split at e
    · rename_i h
      cases e
      rw [← h]
      exact g.1
    · exact qOf_ok (a := a) e g.2
  | .tm _ _ a, b, e, g => by unfold γ at g; unfold qOf at e; exact qOf_ok (a := a) e g.2
  | .d _, _, e, _ => by unfold qOf at e; cases e
  | .int _ _, _, e, _ => by unfold qOf at e; cases e
  | .any, _, e, _ => by unfold qOf at e; cases e
  | .bool, _, e, _ => by unfold qOf at e; cases e
  | .str _, _, e, _ => by unfold qOf at e; cases e
  | .lst _ _, _, e, _ => by unfold qOf at e; cases e
  | .tpl _ _, _, e, _ => by unfold qOf at e; cases e
  | .ls _, _, e, _ => by unfold qOf at e; cases e
  | .tp _, _, e, _ => by unfold qOf at e; cases e
  | .alt _, _, e, _ => by unfold qOf at e; cases e
/-- a def that answers predicate p, f as it is reckoned -/
def prO (p : Nat) (f : D → Bool) : List A → Os A
  | [a] => if okA a = true then (match qOf p a with
    | some b => ret (.d (.bool b))
    | none => match conc a with
      | some x => ret (.d (.bool (f x)))
      | none => ret .bool) else none
  | _ => none
theorem prO_ok {m : Mg} {p : Nat} {f : D → Bool} (hp : m.pr p = f) {w : List D → Rs D} (hw : ∀ d, okTop d → w [d] = .ok (.bool (f d))) {as : List A} {os : List (Ro A)} (e : prO p f as = some os) {ds : List D} (g : γs m as ds) : ∃ o ∈ os, Γr m (γ m) o (w ds) := by
  unfold prO at e
  split at e
  · rename_i a
    match ds, g with
    | [d], g =>
      unfold γs at g
      split at e
      · rename_i hok
        have h := hw d (okA_ok hok g.1)
        rw [h]
        split at e
        · rename_i b hb
          cases e
          refine ⟨.ok (.d (.bool b)), by simp, ?_⟩
          show γ m (.d (.bool b)) (.bool (f d))
          rw [← hp, qOf_ok hb g.1]
          exact γd _
        · split at e
          · rename_i x hx
            cases e
            refine ⟨.ok (.d (.bool (f x))), by simp, ?_⟩
            show γ m (.d (.bool (f x))) (.bool (f d))
            rw [conc_ok hx g.1]
            exact γd _
          · cases e
            refine ⟨.ok .bool, by simp, ?_⟩
            show γ m .bool (.bool (f d))
            unfold γ
            exact ⟨_, rfl⟩
      · cases e
    | [], g => simp [γs] at g
    | _ :: _ :: _, g => simp [γs] at g
  · cases e
/-- the sizes of digits -/
def sizes : List D → Option (List Int)
  | [] => some []
  | .int s :: r => if 0 < s ∧ s < 1073741824 then (sizes r).map (s :: ·) else none
  | _ :: _ => none
theorem sizes_ok : ∀ {ds : List D} {ss : List Int}, sizes ds = some ss → ds = ss.map PyData.int ∧ ∀ s ∈ ss, 0 < s ∧ s < 1073741824
  | [], ss, e => by cases e; exact ⟨rfl, fun s h => by cases h⟩
  | d :: r, ss, e => by
    unfold sizes at e
    split at e
    · rename_i heq; cases heq
    · rename_i s r' heq
      cases heq
      split at e
      · rename_i hs
        obtain ⟨ts, e1, rfl⟩ := Option.map_eq_some_iff.mp e
        obtain ⟨h1, h2⟩ := sizes_ok e1
        rw [h1]
        refine ⟨rfl, fun t ht => ?_⟩
        rcases List.mem_cons.mp ht with rfl | ht
        · exact hs
        · exact h2 t ht
      · cases e
    · cases e
/-- the digits that a law draws of a cell -/
def numO : List A → Os A
  | [a, b, c] => match isI a, asInt b, conc c with
    | true, some (lo, hi), some (.list ds) => match sizes ds with
      | some ss => if 0 ≤ lo ∧ hi ≤ 1000000 ∧ ss.length < 1000 then ret (.ls (ss.map fun s => .int 0 (s - 1))) else none
      | none => none
    | _, _, _ => none
  | _ => none
theorem numO_ok {m : Mg} {w : List D → Rs D} (hw : ∀ (cell salt : Int) (ss : List Int), (∀ s ∈ ss, 0 < s ∧ s < 1073741824) → ss.length < 1000 → 0 ≤ salt → salt ≤ 1000000 →
    ∃ rs : List Int, w [.int cell, .int salt, .list (ss.map PyData.int)] = .ok (.list (rs.map PyData.int)) ∧ rs.length = ss.length ∧ ∀ (i : Nat) (r s : Int), rs[i]? = some r → ss[i]? = some s → 0 ≤ r ∧ r < s)
    {as : List A} {os : List (Ro A)} (e : numO as = some os) {ds : List D} (g : γs m as ds) : ∃ o ∈ os, Γr m (γ m) o (w ds) := by
  unfold numO at e
  split at e
  · rename_i a b c
    match ds, g with
    | [x, y, z], g =>
      simp only [γs, and_true] at g
      obtain ⟨g1, g2, g3⟩ := g
      split at e
      · rename_i lo hi es e1 e2 e3
        split at e
        · rename_i ss e4
          split at e
          · rename_i hh
            cases e
            obtain ⟨i, rfl⟩ := isI_ok e1 g1
            obtain ⟨j, rfl, j1, j2⟩ := asInt_ok e2 g2
            have := conc_ok e3 g3
            subst this
            obtain ⟨h1, h2⟩ := sizes_ok e4
            subst h1
            obtain ⟨rs, q1, q2, q3⟩ := hw i j ss h2 hh.2.2 (by omega) (by omega)
            rw [q1]
            refine ⟨.ok (.ls (ss.map fun s => .int 0 (s - 1))), by simp, ?_⟩
            show γ m (.ls _) (.list _)
            unfold γ
            refine ⟨_, rfl, ?_⟩
            have key : ∀ (ss rs : List Int), rs.length = ss.length → (∀ (i : Nat) (r s : Int), rs[i]? = some r → ss[i]? = some s → 0 ≤ r ∧ r < s) → γs m (ss.map fun s => .int 0 (s - 1)) (rs.map PyData.int) := by
              intro ss
              induction ss with
              | nil =>
                intro rs hl _
                have : rs = [] := List.length_eq_zero_iff.mp hl
                subst this
                simp [γs]
              | cons s ss ih =>
                intro rs hl hq
                cases rs with
                | nil => cases hl
                | cons r rs =>
                  show γs m (.int 0 (s - 1) :: _) (.int r :: _)
                  unfold γs
                  have := hq 0 r s rfl rfl
                  refine ⟨by unfold γ; exact ⟨r, rfl, by omega, by omega⟩, ih rs (by simpa using hl) fun i r' s' h1 h2 => hq (i + 1) r' s' (by simpa using h1) (by simpa using h2)⟩
            exact key ss rs q2 q3
          · cases e
        · cases e
      · cases e
    | [], g => simp [γs] at g
    | [_], g => simp [γs] at g
    | [_, _], g => simp [γs] at g
    | _ :: _ :: _ :: _ :: _, g => simp [γs] at g
  · cases e
/-- all outcomes are True -/
def okT : Os A → Bool
  | some os => os.all fun o => match o with
    | .ok (.d (.bool true)) => true
    | _ => false
  | none => false
theorem okT_ok {m : Mg} {w : Rs D} {r : Os A} (e : okT r = true) (h : ∀ os, r = some os → ∃ o ∈ os, Γr m (γ m) o w) : w = .ok (.bool true) := by
  cases r with
  | none => cases e
  | some os =>
    obtain ⟨o, ho, g⟩ := h os rfl
    have := List.all_eq_true.mp e o ho
    split at this
    · cases w with
      | ok d =>
        have g : γ m (.d (.bool true)) d := g
        unfold γ at g
        rw [g]
      | ex e => exact g.elim
      | bad => exact g.elim
    · cases this
/-- the law, by the run -/
theorem law_by {m : Mg} {c : Cc} {L : List DefE} (K : Ok m c L) {n k : Nat} (e : okT (cal c n L k [.lst .any 63]) = true) (ns : List Int) (hl : ns.length ≤ 63) : callG (stage c.base L) k [.list (ns.map PyData.int)] = .ok (.bool true) := by
  refine okT_ok (m := m) e fun os eo => run_ok K eo ?_
  simp only [γs, and_true]
  unfold γ
  refine ⟨_, rfl, by rw [List.length_map]; exact hl, fun d hd => ?_⟩
  obtain ⟨i, _, rfl⟩ := List.mem_map.mp hd
  unfold γ
  exact ⟨i, rfl⟩
end Ax

set_option Elab.async false
set_option linter.all false
set_option maxRecDepth 100000
namespace K01
open PySem PySem.Spec PyProof.Rows L2 Pf
def top (i : Nat) : Stmt := PySem.Challenge.pw_pagesasseen_k01_valid_addresses.main.body.getD i (.Pass ⟨0, 0, 0, 0⟩)
def gls : List (Nat × Str × D) := [(0, "LETTERS", (.str "abcdefghijklmnopqrstuvwxyz")), (1, "DIGITS", (.str "0123456789")), (2, "MAX_LENGTH", (.int 8)), (3, "LAST_MOMENT", (.int 29)), (4, "MAX_SEGMENTS", (.int 6)), (5, "MAX_PARAMETERS", (.int 4))]
def bls : List Str := ["all", "bool", "enumerate", "int", "isinstance", "len", "max", "range", "repr", "set", "str"]
def sbl : List (Str × Str × Bool) := []
def atl : List (Str × Str) := []
def hsl : List Str := []
abbrev s_is_integer : Stmt := top 7
def n_is_integer : List Str := ["value"]
abbrev t_is_integer : Ss := T.is_integer
def g_is_integer : Gs := ⟨gls, [], bls, sbT sbl, atT atl, hsl⟩
def m_is_integer : List D → Rs D := mDef g_is_integer 1 t_is_integer
theorem ck_is_integer : (Ck.mk g_is_integer n_is_integer (defScope s_is_integer) true true).ss t_is_integer (defBody s_is_integer) = true := by decide +kernel
theorem sc_is_integer : FnScope n_is_integer ["value"] (defScope s_is_integer) := ⟨rfl, rfl, rfl, by decide +kernel, rfl, by decide +kernel, by decide +kernel⟩
abbrev s_is_between : Stmt := top 8
def n_is_between : List Str := ["value", "least", "most"]
abbrev t_is_between : Ss := T.is_between
def g_is_between : Gs := ⟨gls, [(0, "is_integer", 1, m_is_integer)], bls, sbT sbl, atT atl, hsl⟩
def m_is_between : List D → Rs D := mDef g_is_between 3 t_is_between
theorem ck_is_between : (Ck.mk g_is_between n_is_between (defScope s_is_between) true true).ss t_is_between (defBody s_is_between) = true := by decide +kernel
theorem sc_is_between : FnScope n_is_between ["value", "least", "most"] (defScope s_is_between) := ⟨rfl, rfl, rfl, by decide +kernel, rfl, by decide +kernel, by decide +kernel⟩
abbrev s_is_moment : Stmt := top 9
def n_is_moment : List Str := ["value"]
abbrev t_is_moment : Ss := T.is_moment
def g_is_moment : Gs := ⟨gls, [(0, "is_integer", 1, m_is_integer), (1, "is_between", 3, m_is_between)], bls, sbT sbl, atT atl, hsl⟩
def m_is_moment : List D → Rs D := mDef g_is_moment 1 t_is_moment
theorem ck_is_moment : (Ck.mk g_is_moment n_is_moment (defScope s_is_moment) true true).ss t_is_moment (defBody s_is_moment) = true := by decide +kernel
theorem sc_is_moment : FnScope n_is_moment ["value"] (defScope s_is_moment) := ⟨rfl, rfl, rfl, by decide +kernel, rfl, by decide +kernel, by decide +kernel⟩
abbrev s_is_name : Stmt := top 10
def n_is_name : List Str := ["value", "sign"]
abbrev t_is_name : Ss := T.is_name
def g_is_name : Gs := ⟨gls, [(0, "is_integer", 1, m_is_integer), (1, "is_between", 3, m_is_between), (2, "is_moment", 1, m_is_moment)], bls, sbT sbl, atT atl, hsl⟩
def m_is_name : List D → Rs D := mDef g_is_name 2 t_is_name
theorem ck_is_name : (Ck.mk g_is_name n_is_name (defScope s_is_name) true true).ss t_is_name (defBody s_is_name) = true := by decide +kernel
theorem sc_is_name : FnScope n_is_name ["value"] (defScope s_is_name) := ⟨rfl, rfl, rfl, by decide +kernel, rfl, by decide +kernel, by decide +kernel⟩
abbrev s_is_value : Stmt := top 11
def n_is_value : List Str := ["text", "sign"]
abbrev t_is_value : Ss := T.is_value
def g_is_value : Gs := ⟨gls, [(0, "is_integer", 1, m_is_integer), (1, "is_between", 3, m_is_between), (2, "is_moment", 1, m_is_moment), (3, "is_name", 1, m_is_name)], bls, sbT sbl, atT atl, hsl⟩
def m_is_value : List D → Rs D := mDef g_is_value 2 t_is_value
theorem ck_is_value : (Ck.mk g_is_value n_is_value (defScope s_is_value) true true).ss t_is_value (defBody s_is_value) = true := by decide +kernel
theorem sc_is_value : FnScope n_is_value ["text"] (defScope s_is_value) := ⟨rfl, rfl, rfl, by decide +kernel, rfl, by decide +kernel, by decide +kernel⟩
abbrev s_split_query : Stmt := top 12
def n_split_query : List Str := ["text", "parameter"]
abbrev t_split_query : Ss := T.split_query
def g_split_query : Gs := ⟨gls, [(0, "is_integer", 1, m_is_integer), (1, "is_between", 3, m_is_between), (2, "is_moment", 1, m_is_moment), (3, "is_name", 1, m_is_name), (4, "is_value", 1, m_is_value)], bls, sbT sbl, atT atl, hsl⟩
def m_split_query : List D → Rs D := mDef g_split_query 2 t_split_query
theorem ck_split_query : (Ck.mk g_split_query n_split_query (defScope s_split_query) true true).ss t_split_query (defBody s_split_query) = true := by decide +kernel
theorem sc_split_query : FnScope n_split_query ["text"] (defScope s_split_query) := ⟨rfl, rfl, rfl, by decide +kernel, rfl, by decide +kernel, by decide +kernel⟩
abbrev s_is_query : Stmt := top 13
def n_is_query : List Str := ["text", "parts", "key", "sign", "value"]
abbrev t_is_query : Ss := T.is_query
def g_is_query : Gs := ⟨gls, [(0, "is_integer", 1, m_is_integer), (1, "is_between", 3, m_is_between), (2, "is_moment", 1, m_is_moment), (3, "is_name", 1, m_is_name), (4, "is_value", 1, m_is_value), (5, "split_query", 1, m_split_query)], bls, sbT sbl, atT atl, hsl⟩
def m_is_query : List D → Rs D := mDef g_is_query 5 t_is_query
theorem ck_is_query : (Ck.mk g_is_query n_is_query (defScope s_is_query) true true).ss t_is_query (defBody s_is_query) = true := by decide +kernel
theorem sc_is_query : FnScope n_is_query ["text"] (defScope s_is_query) := ⟨rfl, rfl, rfl, by decide +kernel, rfl, by decide +kernel, by decide +kernel⟩
abbrev s_is_address : Stmt := top 14
def n_is_address : List Str := ["value", "path", "mark", "query", "names", "name"]
abbrev t_is_address : Ss := T.is_address
def g_is_address : Gs := ⟨gls, [(0, "is_integer", 1, m_is_integer), (1, "is_between", 3, m_is_between), (2, "is_moment", 1, m_is_moment), (3, "is_name", 1, m_is_name), (4, "is_value", 1, m_is_value), (5, "split_query", 1, m_split_query), (6, "is_query", 1, m_is_query)], bls, sbT sbl, atT atl, hsl⟩
def m_is_address : List D → Rs D := mDef g_is_address 6 t_is_address
theorem ck_is_address : (Ck.mk g_is_address n_is_address (defScope s_is_address) true true).ss t_is_address (defBody s_is_address) = true := by decide +kernel
theorem sc_is_address : FnScope n_is_address ["value"] (defScope s_is_address) := ⟨rfl, rfl, rfl, by decide +kernel, rfl, by decide +kernel, by decide +kernel⟩
abbrev s_l_numbers : Stmt := top 16
def n_l_numbers : List Str := ["_law_cell", "_law_salt", "_law_sizes", "_law_number", "_law_left", "_law_result", "_law_k", "_law_one"]
abbrev t_l_numbers : Ss := T.l_numbers
def g_l_numbers : Gs := ⟨gls, [(0, "is_integer", 1, m_is_integer), (1, "is_between", 3, m_is_between), (2, "is_moment", 1, m_is_moment), (3, "is_name", 1, m_is_name), (4, "is_value", 1, m_is_value), (5, "split_query", 1, m_split_query), (6, "is_query", 1, m_is_query), (7, "is_address", 1, m_is_address)], bls, sbT sbl, atT atl, hsl⟩
def m_l_numbers : List D → Rs D := mDef g_l_numbers 8 t_l_numbers
theorem ck_l_numbers : (Ck.mk g_l_numbers n_l_numbers (defScope s_l_numbers) true true).ss t_l_numbers (defBody s_l_numbers) = true := by decide +kernel
theorem sc_l_numbers : FnScope n_l_numbers ["_law_cell", "_law_salt", "_law_sizes"] (defScope s_l_numbers) := ⟨rfl, rfl, rfl, by decide +kernel, rfl, by decide +kernel, by decide +kernel⟩
abbrev s_l_odd : Stmt := top 17
def n_l_odd : List Str := ["_law_digit", "_law_some"]
abbrev t_l_odd : Ss := T.l_odd
def g_l_odd : Gs := ⟨gls, [(0, "is_integer", 1, m_is_integer), (1, "is_between", 3, m_is_between), (2, "is_moment", 1, m_is_moment), (3, "is_name", 1, m_is_name), (4, "is_value", 1, m_is_value), (5, "split_query", 1, m_split_query), (6, "is_query", 1, m_is_query), (7, "is_address", 1, m_is_address), (1138, "_law_numbers", 3, m_l_numbers)], bls, sbT sbl, atT atl, hsl⟩
def m_l_odd : List D → Rs D := mDef g_l_odd 2 t_l_odd
theorem ck_l_odd : (Ck.mk g_l_odd n_l_odd (defScope s_l_odd) true true).ss t_l_odd (defBody s_l_odd) = true := by decide +kernel
theorem sc_l_odd : FnScope n_l_odd ["_law_digit"] (defScope s_l_odd) := ⟨rfl, rfl, rfl, by decide +kernel, rfl, by decide +kernel, by decide +kernel⟩
abbrev s_l_address : Stmt := top 18
def n_l_address : List Str := ["_law_digits", "_law_letters", "_law_signs", "_law_names", "_law_digit", "_law_some", "_law_keys", "_law_parameters", "_law_k", "_law_value"]
abbrev t_l_address : Ss := T.l_address
def g_l_address : Gs := ⟨gls, [(0, "is_integer", 1, m_is_integer), (1, "is_between", 3, m_is_between), (2, "is_moment", 1, m_is_moment), (3, "is_name", 1, m_is_name), (4, "is_value", 1, m_is_value), (5, "split_query", 1, m_split_query), (6, "is_query", 1, m_is_query), (7, "is_address", 1, m_is_address), (1138, "_law_numbers", 3, m_l_numbers), (1140, "_law_odd", 1, m_l_odd)], bls, sbT sbl, atT atl, hsl⟩
def m_l_address : List D → Rs D := mDef g_l_address 10 t_l_address
theorem ck_l_address : (Ck.mk g_l_address n_l_address (defScope s_l_address) true true).ss t_l_address (defBody s_l_address) = true := by decide +kernel
theorem sc_l_address : FnScope n_l_address ["_law_digits"] (defScope s_l_address) := ⟨rfl, rfl, rfl, by decide +kernel, rfl, by decide +kernel, by decide +kernel⟩
abbrev s_l_is_name : Stmt := top 19
def n_l_is_name : List Str := ["_law_value", "_law_sign"]
abbrev t_l_is_name : Ss := T.l_is_name
def g_l_is_name : Gs := ⟨gls, [(0, "is_integer", 1, m_is_integer), (1, "is_between", 3, m_is_between), (2, "is_moment", 1, m_is_moment), (3, "is_name", 1, m_is_name), (4, "is_value", 1, m_is_value), (5, "split_query", 1, m_split_query), (6, "is_query", 1, m_is_query), (7, "is_address", 1, m_is_address), (1138, "_law_numbers", 3, m_l_numbers), (1140, "_law_odd", 1, m_l_odd), (1000, "_law_address", 1, m_l_address)], bls, sbT sbl, atT atl, hsl⟩
def m_l_is_name : List D → Rs D := mDef g_l_is_name 2 t_l_is_name
theorem ck_l_is_name : (Ck.mk g_l_is_name n_l_is_name (defScope s_l_is_name) true true).ss t_l_is_name (defBody s_l_is_name) = true := by decide +kernel
theorem sc_l_is_name : FnScope n_l_is_name ["_law_value"] (defScope s_l_is_name) := ⟨rfl, rfl, rfl, by decide +kernel, rfl, by decide +kernel, by decide +kernel⟩
abbrev s_l_is_query : Stmt := top 20
def n_l_is_query : List Str := ["_law_text", "_law_parts", "_law_keys", "_law_part", "_law_words", "_law_sign"]
abbrev t_l_is_query : Ss := T.l_is_query
def g_l_is_query : Gs := ⟨gls, [(0, "is_integer", 1, m_is_integer), (1, "is_between", 3, m_is_between), (2, "is_moment", 1, m_is_moment), (3, "is_name", 1, m_is_name), (4, "is_value", 1, m_is_value), (5, "split_query", 1, m_split_query), (6, "is_query", 1, m_is_query), (7, "is_address", 1, m_is_address), (1138, "_law_numbers", 3, m_l_numbers), (1140, "_law_odd", 1, m_l_odd), (1000, "_law_address", 1, m_l_address), (1096, "_law_is_name", 1, m_l_is_name)], bls, sbT sbl, atT atl, hsl⟩
def m_l_is_query : List D → Rs D := mDef g_l_is_query 6 t_l_is_query
theorem ck_l_is_query : (Ck.mk g_l_is_query n_l_is_query (defScope s_l_is_query) true true).ss t_l_is_query (defBody s_l_is_query) = true := by decide +kernel
theorem sc_l_is_query : FnScope n_l_is_query ["_law_text"] (defScope s_l_is_query) := ⟨rfl, rfl, rfl, by decide +kernel, rfl, by decide +kernel, by decide +kernel⟩
abbrev s_l_is_address : Stmt := top 21
def n_l_is_address : List Str := ["_law_value", "_law_parts", "_law_names", "_law_name"]
abbrev t_l_is_address : Ss := T.l_is_address
def g_l_is_address : Gs := ⟨gls, [(0, "is_integer", 1, m_is_integer), (1, "is_between", 3, m_is_between), (2, "is_moment", 1, m_is_moment), (3, "is_name", 1, m_is_name), (4, "is_value", 1, m_is_value), (5, "split_query", 1, m_split_query), (6, "is_query", 1, m_is_query), (7, "is_address", 1, m_is_address), (1138, "_law_numbers", 3, m_l_numbers), (1140, "_law_odd", 1, m_l_odd), (1000, "_law_address", 1, m_l_address), (1096, "_law_is_name", 1, m_l_is_name), (1100, "_law_is_query", 1, m_l_is_query)], bls, sbT sbl, atT atl, hsl⟩
def m_l_is_address : List D → Rs D := mDef g_l_is_address 4 t_l_is_address
theorem ck_l_is_address : (Ck.mk g_l_is_address n_l_is_address (defScope s_l_is_address) true true).ss t_l_is_address (defBody s_l_is_address) = true := by decide +kernel
theorem sc_l_is_address : FnScope n_l_is_address ["_law_value"] (defScope s_l_is_address) := ⟨rfl, rfl, rfl, by decide +kernel, rfl, by decide +kernel, by decide +kernel⟩
abbrev s_l_altered : Stmt := top 22
def n_l_altered : List Str := ["_law_digits", "_law_address_here", "_law_at", "_law_sign", "_law_some"]
def t_l_altered : Ss := (.cons (.asg (.nm 2) (.bin .mod (.ix (.var 0) (.int 0)) (.bin .add (.len (.ex (.var 1))) (.int 1)))) (.cons (.asg (.nm 3) (.ix (.str "/?&=a9Z -") (.bin .mod (.ix (.var 0) (.int 1)) (.int 9)))) (.cons (.asg (.nm 4) (.lst (.cons (.bin .add (.bin .add (.sl (.var 1) .none (.some (.var 2))) (.var 3)) (.sl (.var 1) (.some (.var 2)) .none)) (.cons (.bin .add (.sl (.var 1) .none (.some (.var 2))) (.sl (.var 1) (.some (.bin .add (.var 2) (.int 1))) .none)) (.cons (.bin .add (.bin .add (.sl (.var 1) .none (.some (.var 2))) (.var 3)) (.sl (.var 1) (.some (.bin .add (.var 2) (.int 1))) .none)) .nil))))) (.cons (.asg (.nm 4) (.bin .add (.var 4) (.lst (.cons (.bin .add (.var 1) (.str "/a/b/c/d/e/f")) (.cons (.bin .add (.var 1) (.str "?a=1")) (.cons (.bin .add (.var 1) (.str "&a=1")) (.cons (.bin .add (.var 1) (.str "&b=2&c=3&d=4&e=5")) .nil))))))) (.cons (.asg (.nm 4) (.bin .add (.var 4) (.lstR (.var 1) "/" (.cons (.mz .upper (.var 1)) (.cons (.bin .add (.str " ") (.var 1)) (.cons (.bin .add (.var 1) (.str "?")) (.cons (.lst (.cons (.var 1) .nil)) (.rep (.var 1) "=" "==" .nil)))))))) (.cons (.ret (.bin .add (.var 4) (.lst (.cons (.bin .mul (.var 1) (.int 2)) .nil)))) .nil))))))
def g_l_altered : Gs := ⟨gls, [(0, "is_integer", 1, m_is_integer), (1, "is_between", 3, m_is_between), (2, "is_moment", 1, m_is_moment), (3, "is_name", 1, m_is_name), (4, "is_value", 1, m_is_value), (5, "split_query", 1, m_split_query), (6, "is_query", 1, m_is_query), (7, "is_address", 1, m_is_address), (1138, "_law_numbers", 3, m_l_numbers), (1140, "_law_odd", 1, m_l_odd), (1000, "_law_address", 1, m_l_address), (1096, "_law_is_name", 1, m_l_is_name), (1100, "_law_is_query", 1, m_l_is_query), (1089, "_law_is_address", 1, m_l_is_address)], bls, sbT sbl, atT atl, hsl⟩
def m_l_altered : List D → Rs D := mDef g_l_altered 5 t_l_altered
theorem ck_l_altered : (Ck.mk g_l_altered n_l_altered (defScope s_l_altered) true true).ss t_l_altered (defBody s_l_altered) = true := by decide +kernel
theorem sc_l_altered : FnScope n_l_altered ["_law_digits", "_law_address_here"] (defScope s_l_altered) := ⟨rfl, rfl, rfl, by decide +kernel, rfl, by decide +kernel, by decide +kernel⟩
abbrev s_l_edges : Stmt := top 23
def n_l_edges : List Str := ["_law_names", "_law_moments", "_law_want", "_law_one", "_law_some"]
def t_l_edges : Ss := (.cons (.asg (.nm 0) (.lst (.cons (.str "a") (.cons (.str "z") (.cons (.str "abcdefgh") (.cons (.str "abcdefghi") (.cons (.str "") (.cons (.str "A") (.cons (.str "a1") (.cons (.str "a b") (.cons (.int 5) (.cons .non (.cons (.lst (.cons (.str "a") .nil)) (.cons (.tup (.cons (.str "a") .nil)) .nil)))))))))))))) (.cons (.asg (.nm 0) (.bin .add (.var 0) (.lst (.cons (.str "news\n") (.cons (.str "\nnews") (.cons (.str "ne\nws") .nil)))))) (.cons (.asg (.nm 1) (.lst (.cons (.int 0) (.cons (.int 29) (.cons (.int 30) (.cons (.neg (.int 1)) (.cons (.bl true) (.cons (.bl false) (.cons (.str "5") (.cons .non (.cons (.lst (.cons (.int 5) .nil)) (.cons (.bin .pow (.int 10) (.int 30)) .nil)))))))))))) (.cons (.ownLc 2 (.nm 3) [3] (.val (.var 1)) .none (.and (.isa (.ex (.var 3)) .int) (.and (.not (.isa (.ex (.var 3)) .bool)) (.ch .le .le (.ex (.int 0)) (.ex (.var 3)) (.ex (.int 29)))))) (.frz 2 (.cons (.ife (.cmp .ne (.ex (.lc (.nm 3) [3] (.val (.var 1)) .none (.call 2 (.cons (.var 3) .nil)))) (.ex (.var 2))) (.cons (.ret (.bl false)) .nil) .nil) (.cons (.asg (.nm 4) (.lst (.cons (.str "a/b/c/d/e/f/g") (.cons (.str "a/b/c/d/e/f/g/h") (.cons (.str "a?a=&b=&c=&d=") (.cons (.str "a?a=&b=&c=&d=&e=") (.cons (.str "a?a=12345678") (.cons (.str "a?a=123456789") .nil)))))))) (.cons (.ife (.cmp .ne (.ex (.lc (.nm 3) [3] (.val (.var 4)) .none (.call 7 (.cons (.var 3) .nil)))) (.ex (.lst (.cons (.bl true) (.cons (.bl false) (.cons (.bl true) (.cons (.bl false) (.cons (.bl true) (.cons (.bl false) .nil))))))))) (.cons (.ret (.bl false)) .nil) .nil) (.cons (.ife (.cmp .ne (.ex (.lc (.nm 3) [3] (.val (.lst (.cons (.str "a/b\n") (.cons (.str "a\n/b") (.cons (.str "a?a=1\n") (.cons (.str "a\n") .nil)))))) .none (.call 7 (.cons (.var 3) .nil)))) (.ex (.bin .mul (.lst (.cons (.bl false) .nil)) (.int 4)))) (.cons (.ret (.bl false)) .nil) .nil) (.cons (.ret (.cmp .eq (.ex (.lc (.nm 3) [3] (.val (.var 0)) .none (.call 3 (.cons (.var 3) .nil)))) (.ex (.lc (.nm 3) [3] (.val (.var 0)) .none (.call 1096 (.cons (.var 3) .nil)))))) .nil))))))))))
def g_l_edges : Gs := ⟨gls, [(0, "is_integer", 1, m_is_integer), (1, "is_between", 3, m_is_between), (2, "is_moment", 1, m_is_moment), (3, "is_name", 1, m_is_name), (4, "is_value", 1, m_is_value), (5, "split_query", 1, m_split_query), (6, "is_query", 1, m_is_query), (7, "is_address", 1, m_is_address), (1138, "_law_numbers", 3, m_l_numbers), (1140, "_law_odd", 1, m_l_odd), (1000, "_law_address", 1, m_l_address), (1096, "_law_is_name", 1, m_l_is_name), (1100, "_law_is_query", 1, m_l_is_query), (1089, "_law_is_address", 1, m_l_is_address), (1007, "_law_altered", 2, m_l_altered)], bls, sbT sbl, atT atl, hsl⟩
def m_l_edges : List D → Rs D := mDef g_l_edges 5 t_l_edges
theorem ck_l_edges : (Ck.mk g_l_edges n_l_edges (defScope s_l_edges) true true).ss t_l_edges (defBody s_l_edges) = true := by decide +kernel
theorem sc_l_edges : FnScope n_l_edges [] (defScope s_l_edges) := ⟨rfl, rfl, rfl, by decide +kernel, rfl, by decide +kernel, by decide +kernel⟩
abbrev s_law : Stmt := top 24
def n_law : List Str := ["_law_script", "_law_k", "_law_cell", "_law_digits", "_law_address_here", "_law_value"]
def t_law : Ss := (.cons (.for (.tp [1, 2]) (.enum (.bin .add (.sl (.var 0) .none (.some (.int 10))) (.bin .mul (.lst (.cons (.int 7) .nil)) (.ti .int (.cons (.cmp .eq (.ex (.var 0)) (.ex (.lst .nil))) .nil))))) (.cons (.asg (.nm 3) (.call 1138 (.cons (.var 2) (.cons (.bin .add (.int 100) (.var 1)) (.cons (.bin .mul (.lst (.cons (.int 420) .nil)) (.int 20)) .nil))))) (.cons (.asg (.nm 4) (.call 1000 (.cons (.var 3) .nil))) (.cons (.ife (.cmp .isn (.ex (.call 7 (.cons (.var 4) .nil))) (.ex (.bl true))) (.cons (.ret (.bl false)) .nil) .nil) (.cons (.for (.nm 5) (.val (.bin .add (.call 1007 (.cons (.sl (.var 3) (.some (.int 16)) .none) (.cons (.var 4) .nil))) (.lst (.cons (.call 1140 (.cons (.ix (.var 3) (.int 18)) .nil)) .nil)))) (.cons (.ife (.cmp .ne (.ex (.bi .repr (.cons (.call 7 (.cons (.var 5) .nil)) .nil))) (.ex (.bi .repr (.cons (.call 1089 (.cons (.var 5) .nil)) .nil)))) (.cons (.ret (.bl false)) .nil) .nil) .nil)) .nil))))) (.cons (.ret (.call 1053 .nil)) .nil))
def g_law : Gs := ⟨gls, [(0, "is_integer", 1, m_is_integer), (1, "is_between", 3, m_is_between), (2, "is_moment", 1, m_is_moment), (3, "is_name", 1, m_is_name), (4, "is_value", 1, m_is_value), (5, "split_query", 1, m_split_query), (6, "is_query", 1, m_is_query), (7, "is_address", 1, m_is_address), (1138, "_law_numbers", 3, m_l_numbers), (1140, "_law_odd", 1, m_l_odd), (1000, "_law_address", 1, m_l_address), (1096, "_law_is_name", 1, m_l_is_name), (1100, "_law_is_query", 1, m_l_is_query), (1089, "_law_is_address", 1, m_l_is_address), (1007, "_law_altered", 2, m_l_altered), (1053, "_law_edges", 0, m_l_edges)], bls, sbT sbl, atT atl, hsl⟩
def m_law : List D → Rs D := mDef g_law 6 t_law
theorem ck_law : (Ck.mk g_law n_law (defScope s_law) true true).ss t_law (defBody s_law) = true := by decide +kernel
theorem sc_law : FnScope n_law ["_law_script"] (defScope s_law) := ⟨rfl, rfl, rfl, by decide +kernel, rfl, by decide +kernel, by decide +kernel⟩
def B : Gs := ⟨gls, [], bls, sbT sbl, atT atl, hsl⟩
def L0 : List Ax.DefE := []
theorem st0 : Ax.stage B L0 = g_is_integer := rfl
def L1 : List Ax.DefE := ⟨0, "is_integer", 1, 1, t_is_integer⟩ :: L0
theorem st1 : Ax.stage B L1 = g_is_between := by
  show Ax.stage B (⟨0, "is_integer", 1, 1, t_is_integer⟩ :: L0) = _
  rw [Ax.stage_cons, st0]; rfl
def L2 : List Ax.DefE := ⟨1, "is_between", 3, 3, t_is_between⟩ :: L1
theorem st2 : Ax.stage B L2 = g_is_moment := by
  show Ax.stage B (⟨1, "is_between", 3, 3, t_is_between⟩ :: L1) = _
  rw [Ax.stage_cons, st1]; rfl
def L3 : List Ax.DefE := ⟨2, "is_moment", 1, 1, t_is_moment⟩ :: L2
theorem st3 : Ax.stage B L3 = g_is_name := by
  show Ax.stage B (⟨2, "is_moment", 1, 1, t_is_moment⟩ :: L2) = _
  rw [Ax.stage_cons, st2]; rfl
def L4 : List Ax.DefE := ⟨3, "is_name", 1, 2, t_is_name⟩ :: L3
theorem st4 : Ax.stage B L4 = g_is_value := by
  show Ax.stage B (⟨3, "is_name", 1, 2, t_is_name⟩ :: L3) = _
  rw [Ax.stage_cons, st3]; rfl
def L5 : List Ax.DefE := ⟨4, "is_value", 1, 2, t_is_value⟩ :: L4
theorem st5 : Ax.stage B L5 = g_split_query := by
  show Ax.stage B (⟨4, "is_value", 1, 2, t_is_value⟩ :: L4) = _
  rw [Ax.stage_cons, st4]; rfl
def L6 : List Ax.DefE := ⟨5, "split_query", 1, 2, t_split_query⟩ :: L5
theorem st6 : Ax.stage B L6 = g_is_query := by
  show Ax.stage B (⟨5, "split_query", 1, 2, t_split_query⟩ :: L5) = _
  rw [Ax.stage_cons, st5]; rfl
def L7 : List Ax.DefE := ⟨6, "is_query", 1, 5, t_is_query⟩ :: L6
theorem st7 : Ax.stage B L7 = g_is_address := by
  show Ax.stage B (⟨6, "is_query", 1, 5, t_is_query⟩ :: L6) = _
  rw [Ax.stage_cons, st6]; rfl
def L8 : List Ax.DefE := ⟨7, "is_address", 1, 6, t_is_address⟩ :: L7
theorem st8 : Ax.stage B L8 = g_l_numbers := by
  show Ax.stage B (⟨7, "is_address", 1, 6, t_is_address⟩ :: L7) = _
  rw [Ax.stage_cons, st7]; rfl
def L9 : List Ax.DefE := ⟨1138, "_law_numbers", 3, 8, t_l_numbers⟩ :: L8
theorem st9 : Ax.stage B L9 = g_l_odd := by
  show Ax.stage B (⟨1138, "_law_numbers", 3, 8, t_l_numbers⟩ :: L8) = _
  rw [Ax.stage_cons, st8]; rfl
def L10 : List Ax.DefE := ⟨1140, "_law_odd", 1, 2, t_l_odd⟩ :: L9
theorem st10 : Ax.stage B L10 = g_l_address := by
  show Ax.stage B (⟨1140, "_law_odd", 1, 2, t_l_odd⟩ :: L9) = _
  rw [Ax.stage_cons, st9]; rfl
def L11 : List Ax.DefE := ⟨1000, "_law_address", 1, 10, t_l_address⟩ :: L10
theorem st11 : Ax.stage B L11 = g_l_is_name := by
  show Ax.stage B (⟨1000, "_law_address", 1, 10, t_l_address⟩ :: L10) = _
  rw [Ax.stage_cons, st10]; rfl
def L12 : List Ax.DefE := ⟨1096, "_law_is_name", 1, 2, t_l_is_name⟩ :: L11
theorem st12 : Ax.stage B L12 = g_l_is_query := by
  show Ax.stage B (⟨1096, "_law_is_name", 1, 2, t_l_is_name⟩ :: L11) = _
  rw [Ax.stage_cons, st11]; rfl
def L13 : List Ax.DefE := ⟨1100, "_law_is_query", 1, 6, t_l_is_query⟩ :: L12
theorem st13 : Ax.stage B L13 = g_l_is_address := by
  show Ax.stage B (⟨1100, "_law_is_query", 1, 6, t_l_is_query⟩ :: L12) = _
  rw [Ax.stage_cons, st12]; rfl
def L14 : List Ax.DefE := ⟨1089, "_law_is_address", 1, 4, t_l_is_address⟩ :: L13
theorem st14 : Ax.stage B L14 = g_l_altered := by
  show Ax.stage B (⟨1089, "_law_is_address", 1, 4, t_l_is_address⟩ :: L13) = _
  rw [Ax.stage_cons, st13]; rfl
def L15 : List Ax.DefE := ⟨1007, "_law_altered", 2, 5, t_l_altered⟩ :: L14
theorem st15 : Ax.stage B L15 = g_l_edges := by
  show Ax.stage B (⟨1007, "_law_altered", 2, 5, t_l_altered⟩ :: L14) = _
  rw [Ax.stage_cons, st14]; rfl
def L16 : List Ax.DefE := ⟨1053, "_law_edges", 0, 5, t_l_edges⟩ :: L15
theorem st16 : Ax.stage B L16 = g_law := by
  show Ax.stage B (⟨1053, "_law_edges", 0, 5, t_l_edges⟩ :: L15) = _
  rw [Ax.stage_cons, st15]; rfl
def L17 : List Ax.DefE := ⟨999, "law", 1, 6, t_law⟩ :: L16
theorem lk_is_integer : Ax.lookD 0 L17 = some (⟨0, "is_integer", 1, 1, t_is_integer⟩, L0) := rfl
theorem lk_is_between : Ax.lookD 1 L17 = some (⟨1, "is_between", 3, 3, t_is_between⟩, L1) := rfl
theorem lk_is_moment : Ax.lookD 2 L17 = some (⟨2, "is_moment", 1, 1, t_is_moment⟩, L2) := rfl
theorem lk_is_name : Ax.lookD 3 L17 = some (⟨3, "is_name", 1, 2, t_is_name⟩, L3) := rfl
theorem lk_is_value : Ax.lookD 4 L17 = some (⟨4, "is_value", 1, 2, t_is_value⟩, L4) := rfl
theorem lk_split_query : Ax.lookD 5 L17 = some (⟨5, "split_query", 1, 2, t_split_query⟩, L5) := rfl
theorem lk_is_query : Ax.lookD 6 L17 = some (⟨6, "is_query", 1, 5, t_is_query⟩, L6) := rfl
theorem lk_is_address : Ax.lookD 7 L17 = some (⟨7, "is_address", 1, 6, t_is_address⟩, L7) := rfl
theorem lk_l_numbers : Ax.lookD 1138 L17 = some (⟨1138, "_law_numbers", 3, 8, t_l_numbers⟩, L8) := rfl
theorem lk_l_odd : Ax.lookD 1140 L17 = some (⟨1140, "_law_odd", 1, 2, t_l_odd⟩, L9) := rfl
theorem lk_l_address : Ax.lookD 1000 L17 = some (⟨1000, "_law_address", 1, 10, t_l_address⟩, L10) := rfl
theorem lk_l_is_name : Ax.lookD 1096 L17 = some (⟨1096, "_law_is_name", 1, 2, t_l_is_name⟩, L11) := rfl
theorem lk_l_is_query : Ax.lookD 1100 L17 = some (⟨1100, "_law_is_query", 1, 6, t_l_is_query⟩, L12) := rfl
theorem lk_l_is_address : Ax.lookD 1089 L17 = some (⟨1089, "_law_is_address", 1, 4, t_l_is_address⟩, L13) := rfl
theorem lk_l_altered : Ax.lookD 1007 L17 = some (⟨1007, "_law_altered", 2, 5, t_l_altered⟩, L14) := rfl
theorem lk_l_edges : Ax.lookD 1053 L17 = some (⟨1053, "_law_edges", 0, 5, t_l_edges⟩, L15) := rfl
theorem lk_law : Ax.lookD 999 L17 = some (⟨999, "law", 1, 6, t_law⟩, L16) := rfl
theorem all {P : Program} {w : World} {K : PySem.W.Frag} {h : Heap} {mg : Str → Option Value} {fa ais_integer ais_between ais_moment ais_name ais_value asplit_query ais_query ais_address al_numbers al_odd al_address al_is_name al_is_query al_is_address al_altered al_edges alaw : Addr} {odis_integer anis_integer odis_between anis_between odis_moment anis_moment odis_name anis_name odis_value anis_value odsplit_query ansplit_query odis_query anis_query odis_address anis_address odl_numbers anl_numbers odl_odd anl_odd odl_address anl_address odl_is_name anl_is_name odl_is_query anl_is_query odl_is_address anl_is_address odl_altered anl_altered odl_edges anl_edges odlaw anlaw : Option Addr} {slis_integer slis_between slis_moment slis_name slis_value slsplit_query slis_query slis_address sll_numbers sll_odd sll_address sll_is_name sll_is_query sll_is_address sll_altered sll_edges sllaw : Array (Option Value)} {ocis_integer kVis_integer dcis_integer pmis_integer cdis_integer ctis_integer ocis_between kVis_between dcis_between pmis_between cdis_between ctis_between ocis_moment kVis_moment dcis_moment pmis_moment cdis_moment ctis_moment ocis_name kVis_name dcis_name pmis_name cdis_name ctis_name ocis_value kVis_value dcis_value pmis_value cdis_value ctis_value ocsplit_query kVsplit_query dcsplit_query pmsplit_query cdsplit_query ctsplit_query ocis_query kVis_query dcis_query pmis_query cdis_query ctis_query ocis_address kVis_address dcis_address pmis_address cdis_address ctis_address ocl_numbers kVl_numbers dcl_numbers pml_numbers cdl_numbers ctl_numbers ocl_odd kVl_odd dcl_odd pml_odd cdl_odd ctl_odd ocl_address kVl_address dcl_address pml_address cdl_address ctl_address ocl_is_name kVl_is_name dcl_is_name pml_is_name cdl_is_name ctl_is_name ocl_is_query kVl_is_query dcl_is_query pml_is_query cdl_is_query ctl_is_query ocl_is_address kVl_is_address dcl_is_address pml_is_address cdl_is_address ctl_is_address ocl_altered kVl_altered dcl_altered pml_altered cdl_altered ctl_altered ocl_edges kVl_edges dcl_edges pml_edges cdl_edges ctl_edges oclaw kVlaw dclaw pmlaw cdlaw ctlaw : Value} {tk_LETTERS tk_DIGITS tk_MAX_LENGTH tk_LAST_MOMENT tk_MAX_SEGMENTS tk_MAX_PARAMETERS : Tok} (X : K.In h) (G : h.Ns mainGlobals mg) (hfa : mg "law" = some (.ref fa))
    (g_LETTERS : PySem.W.nsIn K mainGlobals "LETTERS" = some (some (.str "abcdefghijklmnopqrstuvwxyz" tk_LETTERS)))
    (g_DIGITS : PySem.W.nsIn K mainGlobals "DIGITS" = some (some (.str "0123456789" tk_DIGITS)))
    (g_MAX_LENGTH : PySem.W.nsIn K mainGlobals "MAX_LENGTH" = some (some (.int 8 tk_MAX_LENGTH)))
    (g_LAST_MOMENT : PySem.W.nsIn K mainGlobals "LAST_MOMENT" = some (some (.int 29 tk_LAST_MOMENT)))
    (g_MAX_SEGMENTS : PySem.W.nsIn K mainGlobals "MAX_SEGMENTS" = some (some (.int 6 tk_MAX_SEGMENTS)))
    (g_MAX_PARAMETERS : PySem.W.nsIn K mainGlobals "MAX_PARAMETERS" = some (some (.int 4 tk_MAX_PARAMETERS)))
    (b_all : PySem.W.nsIn K mainGlobals "all" = some none)
    (b_bool : PySem.W.nsIn K mainGlobals "bool" = some none)
    (b_enumerate : PySem.W.nsIn K mainGlobals "enumerate" = some none)
    (b_int : PySem.W.nsIn K mainGlobals "int" = some none)
    (b_isinstance : PySem.W.nsIn K mainGlobals "isinstance" = some none)
    (b_len : PySem.W.nsIn K mainGlobals "len" = some none)
    (b_max : PySem.W.nsIn K mainGlobals "max" = some none)
    (b_range : PySem.W.nsIn K mainGlobals "range" = some none)
    (b_repr : PySem.W.nsIn K mainGlobals "repr" = some none)
    (b_set : PySem.W.nsIn K mainGlobals "set" = some none)
    (b_str : PySem.W.nsIn K mainGlobals "str" = some none)
    (a_is_integer : PySem.W.nsIn K mainGlobals "is_integer" = some (some (.ref ais_integer)))
    (l_is_integer : K.lookup ais_integer = some ⟨ocis_integer, odis_integer, .func (PySem.W.fnOf "is_integer" "is_integer" (defArgs s_is_integer) (defBody s_is_integer) (defScope s_is_integer) .none kVis_integer dcis_integer pmis_integer anis_integer cdis_integer ctis_integer), slis_integer⟩)
    (c_is_integer : PySem.W.codeIn K cdis_integer "is_integer" = true)
    (k_is_integer : PySem.W.keepIn K (.ref ais_integer) = true)
    (a_is_between : PySem.W.nsIn K mainGlobals "is_between" = some (some (.ref ais_between)))
    (l_is_between : K.lookup ais_between = some ⟨ocis_between, odis_between, .func (PySem.W.fnOf "is_between" "is_between" (defArgs s_is_between) (defBody s_is_between) (defScope s_is_between) .none kVis_between dcis_between pmis_between anis_between cdis_between ctis_between), slis_between⟩)
    (c_is_between : PySem.W.codeIn K cdis_between "is_between" = true)
    (k_is_between : PySem.W.keepIn K (.ref ais_between) = true)
    (a_is_moment : PySem.W.nsIn K mainGlobals "is_moment" = some (some (.ref ais_moment)))
    (l_is_moment : K.lookup ais_moment = some ⟨ocis_moment, odis_moment, .func (PySem.W.fnOf "is_moment" "is_moment" (defArgs s_is_moment) (defBody s_is_moment) (defScope s_is_moment) .none kVis_moment dcis_moment pmis_moment anis_moment cdis_moment ctis_moment), slis_moment⟩)
    (c_is_moment : PySem.W.codeIn K cdis_moment "is_moment" = true)
    (k_is_moment : PySem.W.keepIn K (.ref ais_moment) = true)
    (a_is_name : PySem.W.nsIn K mainGlobals "is_name" = some (some (.ref ais_name)))
    (l_is_name : K.lookup ais_name = some ⟨ocis_name, odis_name, .func (PySem.W.fnOf "is_name" "is_name" (defArgs s_is_name) (defBody s_is_name) (defScope s_is_name) .none kVis_name dcis_name pmis_name anis_name cdis_name ctis_name), slis_name⟩)
    (c_is_name : PySem.W.codeIn K cdis_name "is_name" = true)
    (k_is_name : PySem.W.keepIn K (.ref ais_name) = true)
    (a_is_value : PySem.W.nsIn K mainGlobals "is_value" = some (some (.ref ais_value)))
    (l_is_value : K.lookup ais_value = some ⟨ocis_value, odis_value, .func (PySem.W.fnOf "is_value" "is_value" (defArgs s_is_value) (defBody s_is_value) (defScope s_is_value) .none kVis_value dcis_value pmis_value anis_value cdis_value ctis_value), slis_value⟩)
    (c_is_value : PySem.W.codeIn K cdis_value "is_value" = true)
    (k_is_value : PySem.W.keepIn K (.ref ais_value) = true)
    (a_split_query : PySem.W.nsIn K mainGlobals "split_query" = some (some (.ref asplit_query)))
    (l_split_query : K.lookup asplit_query = some ⟨ocsplit_query, odsplit_query, .func (PySem.W.fnOf "split_query" "split_query" (defArgs s_split_query) (defBody s_split_query) (defScope s_split_query) .none kVsplit_query dcsplit_query pmsplit_query ansplit_query cdsplit_query ctsplit_query), slsplit_query⟩)
    (c_split_query : PySem.W.codeIn K cdsplit_query "split_query" = true)
    (k_split_query : PySem.W.keepIn K (.ref asplit_query) = true)
    (a_is_query : PySem.W.nsIn K mainGlobals "is_query" = some (some (.ref ais_query)))
    (l_is_query : K.lookup ais_query = some ⟨ocis_query, odis_query, .func (PySem.W.fnOf "is_query" "is_query" (defArgs s_is_query) (defBody s_is_query) (defScope s_is_query) .none kVis_query dcis_query pmis_query anis_query cdis_query ctis_query), slis_query⟩)
    (c_is_query : PySem.W.codeIn K cdis_query "is_query" = true)
    (k_is_query : PySem.W.keepIn K (.ref ais_query) = true)
    (a_is_address : PySem.W.nsIn K mainGlobals "is_address" = some (some (.ref ais_address)))
    (l_is_address : K.lookup ais_address = some ⟨ocis_address, odis_address, .func (PySem.W.fnOf "is_address" "is_address" (defArgs s_is_address) (defBody s_is_address) (defScope s_is_address) .none kVis_address dcis_address pmis_address anis_address cdis_address ctis_address), slis_address⟩)
    (c_is_address : PySem.W.codeIn K cdis_address "is_address" = true)
    (k_is_address : PySem.W.keepIn K (.ref ais_address) = true)
    (a_l_numbers : PySem.W.nsIn K mainGlobals "_law_numbers" = some (some (.ref al_numbers)))
    (l_l_numbers : K.lookup al_numbers = some ⟨ocl_numbers, odl_numbers, .func (PySem.W.fnOf "_law_numbers" "_law_numbers" (defArgs s_l_numbers) (defBody s_l_numbers) (defScope s_l_numbers) .none kVl_numbers dcl_numbers pml_numbers anl_numbers cdl_numbers ctl_numbers), sll_numbers⟩)
    (c_l_numbers : PySem.W.codeIn K cdl_numbers "_law_numbers" = true)
    (k_l_numbers : PySem.W.keepIn K (.ref al_numbers) = true)
    (a_l_odd : PySem.W.nsIn K mainGlobals "_law_odd" = some (some (.ref al_odd)))
    (l_l_odd : K.lookup al_odd = some ⟨ocl_odd, odl_odd, .func (PySem.W.fnOf "_law_odd" "_law_odd" (defArgs s_l_odd) (defBody s_l_odd) (defScope s_l_odd) .none kVl_odd dcl_odd pml_odd anl_odd cdl_odd ctl_odd), sll_odd⟩)
    (c_l_odd : PySem.W.codeIn K cdl_odd "_law_odd" = true)
    (k_l_odd : PySem.W.keepIn K (.ref al_odd) = true)
    (a_l_address : PySem.W.nsIn K mainGlobals "_law_address" = some (some (.ref al_address)))
    (l_l_address : K.lookup al_address = some ⟨ocl_address, odl_address, .func (PySem.W.fnOf "_law_address" "_law_address" (defArgs s_l_address) (defBody s_l_address) (defScope s_l_address) .none kVl_address dcl_address pml_address anl_address cdl_address ctl_address), sll_address⟩)
    (c_l_address : PySem.W.codeIn K cdl_address "_law_address" = true)
    (k_l_address : PySem.W.keepIn K (.ref al_address) = true)
    (a_l_is_name : PySem.W.nsIn K mainGlobals "_law_is_name" = some (some (.ref al_is_name)))
    (l_l_is_name : K.lookup al_is_name = some ⟨ocl_is_name, odl_is_name, .func (PySem.W.fnOf "_law_is_name" "_law_is_name" (defArgs s_l_is_name) (defBody s_l_is_name) (defScope s_l_is_name) .none kVl_is_name dcl_is_name pml_is_name anl_is_name cdl_is_name ctl_is_name), sll_is_name⟩)
    (c_l_is_name : PySem.W.codeIn K cdl_is_name "_law_is_name" = true)
    (k_l_is_name : PySem.W.keepIn K (.ref al_is_name) = true)
    (a_l_is_query : PySem.W.nsIn K mainGlobals "_law_is_query" = some (some (.ref al_is_query)))
    (l_l_is_query : K.lookup al_is_query = some ⟨ocl_is_query, odl_is_query, .func (PySem.W.fnOf "_law_is_query" "_law_is_query" (defArgs s_l_is_query) (defBody s_l_is_query) (defScope s_l_is_query) .none kVl_is_query dcl_is_query pml_is_query anl_is_query cdl_is_query ctl_is_query), sll_is_query⟩)
    (c_l_is_query : PySem.W.codeIn K cdl_is_query "_law_is_query" = true)
    (k_l_is_query : PySem.W.keepIn K (.ref al_is_query) = true)
    (a_l_is_address : PySem.W.nsIn K mainGlobals "_law_is_address" = some (some (.ref al_is_address)))
    (l_l_is_address : K.lookup al_is_address = some ⟨ocl_is_address, odl_is_address, .func (PySem.W.fnOf "_law_is_address" "_law_is_address" (defArgs s_l_is_address) (defBody s_l_is_address) (defScope s_l_is_address) .none kVl_is_address dcl_is_address pml_is_address anl_is_address cdl_is_address ctl_is_address), sll_is_address⟩)
    (c_l_is_address : PySem.W.codeIn K cdl_is_address "_law_is_address" = true)
    (k_l_is_address : PySem.W.keepIn K (.ref al_is_address) = true)
    (a_l_altered : PySem.W.nsIn K mainGlobals "_law_altered" = some (some (.ref al_altered)))
    (l_l_altered : K.lookup al_altered = some ⟨ocl_altered, odl_altered, .func (PySem.W.fnOf "_law_altered" "_law_altered" (defArgs s_l_altered) (defBody s_l_altered) (defScope s_l_altered) .none kVl_altered dcl_altered pml_altered anl_altered cdl_altered ctl_altered), sll_altered⟩)
    (c_l_altered : PySem.W.codeIn K cdl_altered "_law_altered" = true)
    (k_l_altered : PySem.W.keepIn K (.ref al_altered) = true)
    (a_l_edges : PySem.W.nsIn K mainGlobals "_law_edges" = some (some (.ref al_edges)))
    (l_l_edges : K.lookup al_edges = some ⟨ocl_edges, odl_edges, .func (PySem.W.fnOf "_law_edges" "_law_edges" (defArgs s_l_edges) (defBody s_l_edges) (defScope s_l_edges) .none kVl_edges dcl_edges pml_edges anl_edges cdl_edges ctl_edges), sll_edges⟩)
    (c_l_edges : PySem.W.codeIn K cdl_edges "_law_edges" = true)
    (k_l_edges : PySem.W.keepIn K (.ref al_edges) = true)
    (a_law : PySem.W.nsIn K mainGlobals "law" = some (some (.ref alaw)))
    (l_law : K.lookup alaw = some ⟨oclaw, odlaw, .func (PySem.W.fnOf "law" "law" (defArgs s_law) (defBody s_law) (defScope s_law) .none kVlaw dclaw pmlaw anlaw cdlaw ctlaw), sllaw⟩)
    (c_law : PySem.W.codeIn K cdlaw "law" = true)
    (k_law : PySem.W.keepIn K (.ref alaw) = true) :
    ∃ fd : FuncData, (∀ (s : Shared) (u : Value), BindsTo s fd ⟨[u], []⟩ [("_law_script", u)]) ∧ ∀ base : Heap, K.In base → base.Ns mainGlobals mg → FnG P w K mg base 19 fa fd ["_law_script"] (spF K mg 1 m_law) := by
  cases hfa.symm.trans (PySem.W.mg_of X G a_law)
  have F_is_integer := fun_mk (st := s_is_integer) l_is_integer c_is_integer k_is_integer
  have B_is_integer := F_is_integer.binds (ps := ["value"]) fun _ _ _ _ _ _ us hl => match us, hl with | [_], _ => rfl
  have F_is_between := fun_mk (st := s_is_between) l_is_between c_is_between k_is_between
  have B_is_between := F_is_between.binds (ps := ["value", "least", "most"]) fun _ _ _ _ _ _ us hl => match us, hl with | [_, _, _], _ => rfl
  have F_is_moment := fun_mk (st := s_is_moment) l_is_moment c_is_moment k_is_moment
  have B_is_moment := F_is_moment.binds (ps := ["value"]) fun _ _ _ _ _ _ us hl => match us, hl with | [_], _ => rfl
  have F_is_name := fun_mk (st := s_is_name) l_is_name c_is_name k_is_name
  have B_is_name := F_is_name.binds (ps := ["value"]) fun _ _ _ _ _ _ us hl => match us, hl with | [_], _ => rfl
  have F_is_value := fun_mk (st := s_is_value) l_is_value c_is_value k_is_value
  have B_is_value := F_is_value.binds (ps := ["text"]) fun _ _ _ _ _ _ us hl => match us, hl with | [_], _ => rfl
  have F_split_query := fun_mk (st := s_split_query) l_split_query c_split_query k_split_query
  have B_split_query := F_split_query.binds (ps := ["text"]) fun _ _ _ _ _ _ us hl => match us, hl with | [_], _ => rfl
  have F_is_query := fun_mk (st := s_is_query) l_is_query c_is_query k_is_query
  have B_is_query := F_is_query.binds (ps := ["text"]) fun _ _ _ _ _ _ us hl => match us, hl with | [_], _ => rfl
  have F_is_address := fun_mk (st := s_is_address) l_is_address c_is_address k_is_address
  have B_is_address := F_is_address.binds (ps := ["value"]) fun _ _ _ _ _ _ us hl => match us, hl with | [_], _ => rfl
  have F_l_numbers := fun_mk (st := s_l_numbers) l_l_numbers c_l_numbers k_l_numbers
  have B_l_numbers := F_l_numbers.binds (ps := ["_law_cell", "_law_salt", "_law_sizes"]) fun _ _ _ _ _ _ us hl => match us, hl with | [_, _, _], _ => rfl
  have F_l_odd := fun_mk (st := s_l_odd) l_l_odd c_l_odd k_l_odd
  have B_l_odd := F_l_odd.binds (ps := ["_law_digit"]) fun _ _ _ _ _ _ us hl => match us, hl with | [_], _ => rfl
  have F_l_address := fun_mk (st := s_l_address) l_l_address c_l_address k_l_address
  have B_l_address := F_l_address.binds (ps := ["_law_digits"]) fun _ _ _ _ _ _ us hl => match us, hl with | [_], _ => rfl
  have F_l_is_name := fun_mk (st := s_l_is_name) l_l_is_name c_l_is_name k_l_is_name
  have B_l_is_name := F_l_is_name.binds (ps := ["_law_value"]) fun _ _ _ _ _ _ us hl => match us, hl with | [_], _ => rfl
  have F_l_is_query := fun_mk (st := s_l_is_query) l_l_is_query c_l_is_query k_l_is_query
  have B_l_is_query := F_l_is_query.binds (ps := ["_law_text"]) fun _ _ _ _ _ _ us hl => match us, hl with | [_], _ => rfl
  have F_l_is_address := fun_mk (st := s_l_is_address) l_l_is_address c_l_is_address k_l_is_address
  have B_l_is_address := F_l_is_address.binds (ps := ["_law_value"]) fun _ _ _ _ _ _ us hl => match us, hl with | [_], _ => rfl
  have F_l_altered := fun_mk (st := s_l_altered) l_l_altered c_l_altered k_l_altered
  have B_l_altered := F_l_altered.binds (ps := ["_law_digits", "_law_address_here"]) fun _ _ _ _ _ _ us hl => match us, hl with | [_, _], _ => rfl
  have F_l_edges := fun_mk (st := s_l_edges) l_l_edges c_l_edges k_l_edges
  have B_l_edges := F_l_edges.binds (ps := []) fun _ _ _ _ _ _ us hl => match us, hl with | [], _ => rfl
  have F_law := fun_mk (st := s_law) l_law c_law k_law
  have B_law := F_law.binds (ps := ["_law_script"]) fun _ _ _ _ _ _ us hl => match us, hl with | [_], _ => rfl
  refine ⟨PySem.W.fnOf "law" "law" (defArgs s_law) (defBody s_law) (defScope s_law) .none kVlaw dclaw pmlaw anlaw cdlaw ctlaw, fun s u => .of_eq rfl, fun base _ _ => ?_⟩
  have G0 : Glo P w K mg base 2 g_is_integer := by
    refine Glo.init (gl := gls) (bs := bls) (hs := hsl) (sb := sbl) (at_ := atl) ?_ ?_ ?_ ?_ ?_
    · intro p hp
      simp only [gls, List.mem_cons, List.not_mem_nil, or_false] at hp
      rcases hp with rfl | rfl | rfl | rfl | rfl | rfl
      · exact gl_str (PySem.W.mg_of X G g_LETTERS) (by decide +kernel) (by decide +kernel)
      · exact gl_str (PySem.W.mg_of X G g_DIGITS) (by decide +kernel) (by decide +kernel)
      · exact gl_int (PySem.W.mg_of X G g_MAX_LENGTH)
      · exact gl_int (PySem.W.mg_of X G g_LAST_MOMENT)
      · exact gl_int (PySem.W.mg_of X G g_MAX_SEGMENTS)
      · exact gl_int (PySem.W.mg_of X G g_MAX_PARAMETERS)
    · intro p hp
      simp only [bls, List.mem_cons, List.not_mem_nil, or_false] at hp
      rcases hp with rfl | rfl | rfl | rfl | rfl | rfl | rfl | rfl | rfl | rfl | rfl
      · exact PySem.W.mg_none_of X G b_all
      · exact PySem.W.mg_none_of X G b_bool
      · exact PySem.W.mg_none_of X G b_enumerate
      · exact PySem.W.mg_none_of X G b_int
      · exact PySem.W.mg_none_of X G b_isinstance
      · exact PySem.W.mg_none_of X G b_len
      · exact PySem.W.mg_none_of X G b_max
      · exact PySem.W.mg_none_of X G b_range
      · exact PySem.W.mg_none_of X G b_repr
      · exact PySem.W.mg_none_of X G b_set
      · exact PySem.W.mg_none_of X G b_str
    · intro p hp; cases hp
    · intro p hp; cases hp
    · intro p hp; cases hp
  have G1 : Glo P w K mg base 3 g_is_between := Glo.step G0 (fnG_def F_is_integer sc_is_integer G0 ck_is_integer) (PySem.W.mg_of X G a_is_integer) k_is_integer B_is_integer
  have G2 : Glo P w K mg base 4 g_is_moment := Glo.step G1 (fnG_def F_is_between sc_is_between G1 ck_is_between) (PySem.W.mg_of X G a_is_between) k_is_between B_is_between
  have G3 : Glo P w K mg base 5 g_is_name := Glo.step G2 (fnG_def F_is_moment sc_is_moment G2 ck_is_moment) (PySem.W.mg_of X G a_is_moment) k_is_moment B_is_moment
  have G4 : Glo P w K mg base 6 g_is_value := Glo.step G3 (fnG_def F_is_name sc_is_name G3 ck_is_name) (PySem.W.mg_of X G a_is_name) k_is_name B_is_name
  have G5 : Glo P w K mg base 7 g_split_query := Glo.step G4 (fnG_def F_is_value sc_is_value G4 ck_is_value) (PySem.W.mg_of X G a_is_value) k_is_value B_is_value
  have G6 : Glo P w K mg base 8 g_is_query := Glo.step G5 (fnG_def F_split_query sc_split_query G5 ck_split_query) (PySem.W.mg_of X G a_split_query) k_split_query B_split_query
  have G7 : Glo P w K mg base 9 g_is_address := Glo.step G6 (fnG_def F_is_query sc_is_query G6 ck_is_query) (PySem.W.mg_of X G a_is_query) k_is_query B_is_query
  have G8 : Glo P w K mg base 10 g_l_numbers := Glo.step G7 (fnG_def F_is_address sc_is_address G7 ck_is_address) (PySem.W.mg_of X G a_is_address) k_is_address B_is_address
  have G9 : Glo P w K mg base 11 g_l_odd := Glo.step G8 (fnG_def F_l_numbers sc_l_numbers G8 ck_l_numbers) (PySem.W.mg_of X G a_l_numbers) k_l_numbers B_l_numbers
  have G10 : Glo P w K mg base 12 g_l_address := Glo.step G9 (fnG_def F_l_odd sc_l_odd G9 ck_l_odd) (PySem.W.mg_of X G a_l_odd) k_l_odd B_l_odd
  have G11 : Glo P w K mg base 13 g_l_is_name := Glo.step G10 (fnG_def F_l_address sc_l_address G10 ck_l_address) (PySem.W.mg_of X G a_l_address) k_l_address B_l_address
  have G12 : Glo P w K mg base 14 g_l_is_query := Glo.step G11 (fnG_def F_l_is_name sc_l_is_name G11 ck_l_is_name) (PySem.W.mg_of X G a_l_is_name) k_l_is_name B_l_is_name
  have G13 : Glo P w K mg base 15 g_l_is_address := Glo.step G12 (fnG_def F_l_is_query sc_l_is_query G12 ck_l_is_query) (PySem.W.mg_of X G a_l_is_query) k_l_is_query B_l_is_query
  have G14 : Glo P w K mg base 16 g_l_altered := Glo.step G13 (fnG_def F_l_is_address sc_l_is_address G13 ck_l_is_address) (PySem.W.mg_of X G a_l_is_address) k_l_is_address B_l_is_address
  have G15 : Glo P w K mg base 17 g_l_edges := Glo.step G14 (fnG_def F_l_altered sc_l_altered G14 ck_l_altered) (PySem.W.mg_of X G a_l_altered) k_l_altered B_l_altered
  have G16 : Glo P w K mg base 18 g_law := Glo.step G15 (fnG_def F_l_edges sc_l_edges G15 ck_l_edges) (PySem.W.mg_of X G a_l_edges) k_l_edges B_l_edges
  exact fnG_def F_law sc_law G16 ck_law
end K01

set_option Elab.async false
set_option linter.all false
set_option maxRecDepth 1000000
/-! The addresses that the laws build of digits. -/
namespace Pf
open PySem PySem.Spec L2

theorem name_ok {n : List Nat} (h : nameL n = true) : asc (mk n) = true ∧ n.length ≤ 8 ∧ 1 ≤ n.length ∧ ∀ c ∈ n, 97 ≤ c ∧ c ≤ 122 := by
  have all := fun c hc => name_no h (c := c) hc
  unfold nameL at h
  simp only [Bool.and_eq_true, decide_eq_true_eq] at h
  exact ⟨asc_iff.mpr fun c hc => by rw [cl_mk] at hc; have := all c hc; omega, h.1.2, h.1.1, all⟩
theorem joinL_le9 {c : Nat} : ∀ ns : List (List Nat), (∀ n ∈ ns, n.length ≤ 8) → (TL.joinL [c] ns).length ≤ 9 * ns.length
  | [], _ => Nat.zero_le _
  | [n], h => by
    show n.length ≤ 9 * 1
    have := h n (by simp)
    omega
  | n :: m :: r, h => by
    show (n ++ ([c] ++ TL.joinL [c] (m :: r))).length ≤ _
    have h1 := h n (by simp)
    have ih := joinL_le9 (c := c) (m :: r) fun k hk => h k (List.mem_cons_of_mem _ hk)
    simp only [List.length_append, List.length_cons, List.length_nil] at ih ⊢
    omega
theorem mk_app (a b : List Nat) : mk a ++ mk b = mk (a ++ b) := by
  show (⟨a.toArray ++ b.toArray⟩ : Str) = ⟨(a ++ b).toArray⟩
  simp
theorem join_len20 (c : Nat) : ∀ L : List (List Nat), (∀ w ∈ L, w.length ≤ 20) → (TL.joinL [c] L).length ≤ 21 * L.length
  | [], _ => Nat.zero_le _
  | [w], h => by
    show w.length ≤ 21 * 1
    have := h w (by simp)
    omega
  | w :: v :: L, h => by
    have h1 := h w (by simp)
    have ih := join_len20 c (v :: L) fun x hx => h x (List.mem_cons_of_mem _ hx)
    show (w ++ ([c] ++ TL.joinL [c] (v :: L))).length ≤ _
    simp only [List.length_append, List.length_cons, List.length_nil] at ih ⊢
    omega
/-! ### what is built of names and parameters is an address -/
def parL (kv : List Nat × List Nat) : List Nat := kv.1 ++ 61 :: kv.2
def builtL (ns : List (List Nat)) (ps : List (List Nat × List Nat)) : List Nat := TL.joinL [47] ns ++ if ps = [] then [] else 63 :: TL.joinL [38] (ps.map parL)
theorem joinL_no {c s : Nat} (ne : c ≠ s) {ns : List (List Nat)} (h : ∀ n ∈ ns, c ∉ n) : c ∉ TL.joinL [s] ns := fun hc => by
  rcases join_mem hc with z | ⟨p, hp, z⟩
  · exact ne (List.mem_singleton.mp z)
  · exact h p hp z
theorem cut_hit {c : Nat} {p q : List Nat} (h : c ∉ p) : cutAt c (p ++ c :: q) = (p, some q) := by
  unfold cutAt
  have e : TL.par [c] [] (p ++ ([c] ++ q)) = some ([] ++ p, q) := TL.par_part1 h
  rw [show p ++ c :: q = p ++ ([c] ++ q) from rfl, e]
  rfl
theorem spl_joined {c : Nat} {ns : List (List Nat)} (hn : ns ≠ []) (h : ∀ n ∈ ns, c ∉ n) : spl c (TL.joinL [c] ns) = ns := TL.spl_join hn h
theorem name_out {l : List Nat} (h : nameL l = true) {c : Nat} (hc : ¬ (97 ≤ c ∧ c ≤ 122)) : c ∉ l := fun z => hc (name_no h z)
theorem value_out {l : List Nat} (h : valueL l = true) {c : Nat} (h1 : ¬ (97 ≤ c ∧ c ≤ 122)) (h2 : ¬ (48 ≤ c ∧ c ≤ 57)) : c ∉ l := fun z => (value_no h z).elim h1 h2
theorem built_ok {ns : List (List Nat)} {ps : List (List Nat × List Nat)} (h0 : ns ≠ []) (h7 : ns.length ≤ 7) (hn : ∀ n ∈ ns, nameL n = true) (h4 : ps.length ≤ 4) (hp : ∀ p ∈ ps, nameL p.1 = true ∧ valueL p.2 = true)
    (hd : (met (ps.map fun p => Sum.inr (mk p.1))).length = ps.length) : addrL (builtL ns ps) = true := by
  have j63 : 63 ∉ TL.joinL [47] ns := joinL_no (by omega) fun n h => name_out (hn n h) (by omega)
  have s47 : spl 47 (TL.joinL [47] ns) = ns := spl_joined h0 fun n h => name_out (hn n h) (by omega)
  unfold addrL builtL
  by_cases e : ps = []
  · rw [if_pos e, List.append_nil, cut_out j63, s47, decide_eq_true h7, List.all_eq_true.mpr hn]
    rfl
  · rw [if_neg e, cut_hit j63, s47, decide_eq_true h7, List.all_eq_true.mpr hn]
    show queryL (TL.joinL [38] (ps.map parL)) = true
    have s38 : spl 38 (TL.joinL [38] (ps.map parL)) = ps.map parL := spl_joined (by simpa using e) fun w hw => by
      obtain ⟨p, h, rfl⟩ := List.mem_map.mp hw
      obtain ⟨h1, h2⟩ := hp p h
      intro z
      rcases List.mem_append.mp z with z | z
      · exact name_out h1 (by omega) z
      · rcases List.mem_cons.mp z with z | z
        · cases z
        · exact value_out h2 (by omega) (by omega) z
    have cutp : ∀ p ∈ ps, cutAt 61 (parL p) = (p.1, some p.2) := fun p h => cut_hit (name_out (hp p h).1 (by omega))
    unfold queryL
    rw [s38, List.length_map, decide_eq_true h4]
    have keys : (ps.map parL).map keyP = ps.map fun p => Sum.inr (mk p.1) := by
      rw [List.map_map]
      apply List.map_congr_left
      intro p h
      show keyP (parL p) = _
      unfold keyP
      rw [cutp p h]
    rw [keys, decide_eq_true hd, Bool.true_and, Bool.true_and]
    refine List.all_eq_true.mpr fun w hw => ?_
    obtain ⟨p, h, rfl⟩ := List.mem_map.mp hw
    unfold goodP
    rw [cutp p h]
    show (nameL p.1 && valueL p.2) = true
    rw [(hp p h).1, (hp p h).2]
    rfl
/-! ### the terms -/
def ΓZ : Gs := ⟨[], [], [], fun _ _ => none, fun _ => none, []⟩
def adSome : E := .ix (.lst (.cons (.str "a") (.cons (.str "news") (.cons (.str "zz") (.cons (.str "abcdefgh") (.cons (.str "x") .nil)))))) (.bin .mod (.var 4) (.int 5))
def adName : E := .ife (.cmp .eq (.ex (.bin .mod (.var 4) (.int 2))) (.ex (.int 0))) (.var 5) (.sl (.sl (.var 1) (.some (.bin .mod (.var 4) (.int 26))) .none) .none (.some (.bin .add (.int 1) (.bin .mod (.bin .fdiv (.var 4) (.int 26)) (.int 8)))))
def adVal : E := .sl (.sl (.var 2) (.some (.bin .mod (.var 4) (.int 36))) .none) .none (.some (.bin .mod (.bin .fdiv (.var 4) (.int 36)) (.int 9)))
def LET : D := .str "abcdefghijklmnopqrstuvwxyz"
def SIG : D := .str "0123456789abcdefghijklmnopqrstuvwxyz"
def adNameR (r : Int) : Rs D := (sem ΓZ adSome [none, none, none, none, some (.pd (.int r))]).bind fun s => sem ΓZ adName [none, some (.pd LET), none, none, some (.pd (.int r)), some (.pd s)]
def adValR (r : Int) : Rs D := sem ΓZ adVal [none, none, some (.pd SIG), none, some (.pd (.int r))]
def isNm (p : List Nat → Bool) : Rs D → Bool
  | .ok (.str x) => p (cl x)
  | _ => false
theorem adName_all : (List.range 420).all (fun r => isNm nameL (adNameR r)) = true := by decide +kernel
theorem adVal_all : (List.range 420).all (fun r => isNm valueL (adValR r)) = true := by decide +kernel
theorem isNm_ok {p : List Nat → Bool} {r : Rs D} (h : isNm p r = true) : ∃ w, r = .ok (.str (mk w)) ∧ p w = true := by
  unfold isNm at h
  split at h
  · rename_i x
    exact ⟨cl x, by rw [show mk (cl x) = x from by cases x; rfl], h⟩
  · cases h
theorem digit_all {f : Int → Bool} (h : (List.range 420).all (fun r => f r) = true) {r : Int} (h0 : 0 ≤ r) (h1 : r < 420) : f r = true := by
  obtain ⟨n, rfl⟩ := Int.eq_ofNat_of_zero_le h0
  exact List.all_eq_true.mp h n (List.mem_range.mpr (by omega))
theorem adName_at {r : Int} (h0 : 0 ≤ r) (h1 : r < 420) : ∃ s w, sem ΓZ adSome [none, none, none, none, some (.pd (.int r))] = .ok s ∧ sem ΓZ adName [none, some (.pd LET), none, none, some (.pd (.int r)), some (.pd s)] = .ok (.str (mk w)) ∧ nameL w = true := by
  obtain ⟨w, e, h⟩ := isNm_ok (digit_all (f := fun r => isNm nameL (adNameR r)) adName_all h0 h1)
  unfold adNameR at e
  cases q : sem ΓZ adSome [none, none, none, none, some (.pd (.int r))] with
  | ok s => rw [q] at e; exact ⟨s, w, rfl, e, h⟩
  | ex x => rw [q] at e; cases e
  | bad => rw [q] at e; cases e
theorem adVal_at {r : Int} (h0 : 0 ≤ r) (h1 : r < 420) : ∃ w, adValR r = .ok (.str (mk w)) ∧ valueL w = true := isNm_ok (digit_all (f := fun r => isNm valueL (adValR r)) adVal_all h0 h1)
section
variable {Γ : Gs}
def nmBody : Ss := .cons (.asg (.nm 5) adSome) (.cons (.app 3 adName) .nil)
theorem nm_turn {o0 o2 o4 o5 o6 o7 o8 o9 : Option SV} {ks : List D} {r : Int} (h0 : 0 ≤ r) (h1 : r < 420) (hk : ks.length < LIM) : ∃ s w, nameL w = true ∧ (asgO (.nm 4) (.int r) [o0, some (.pd LET), o2, some (.own ks), o4, o5, o6, o7, o8, o9]).seq (exes Γ nmBody) = .nx [o0, some (.pd LET), o2, some (.own (ks ++ [.str (mk w)])), some (.pd (.int r)), some (.pd s), o6, o7, o8, o9] := by
  obtain ⟨s, w, e1, e2, hw⟩ := adName_at h0 h1
  refine ⟨s, w, hw, ?_⟩
  show exes Γ nmBody [o0, some (.pd LET), o2, some (.own ks), some (.pd (.int r)), o5, o6, o7, o8, o9] = _
  unfold nmBody
  rw [ex_nx (ρ' := [o0, some (.pd LET), o2, some (.own ks), some (.pd (.int r)), some (.pd s), o6, o7, o8, o9]) ((asg_nm (d := s) (show sem Γ adSome [o0, some (.pd LET), o2, some (.own ks), some (.pd (.int r)), o5, o6, o7, o8, o9] = .ok s from e1)).trans rfl),
    ex_nx (ρ' := [o0, some (.pd LET), o2, some (.own (ks ++ [.str (mk w)])), some (.pd (.int r)), some (.pd s), o6, o7, o8, o9]) ((app_ok (xs := ks) (d := .str (mk w)) rfl (show sem Γ adName [o0, some (.pd LET), o2, some (.own ks), some (.pd (.int r)), some (.pd s), o6, o7, o8, o9] = .ok (.str (mk w)) from e2) hk).trans rfl)]
  rfl
theorem nm_loop {o0 o2 o6 o7 o8 o9 : Option SV} : ∀ {rs : List Int} {ks : List D} {o4 o5 : Option SV}, (∀ r ∈ rs, 0 ≤ r ∧ r < 420) → ks.length + rs.length ≤ LIM → ∃ (ws : List (List Nat)) (p4 p5 : Option SV), (∀ w ∈ ws, nameL w = true) ∧ ws.length = rs.length ∧
    forL (fun d ρ' => (asgO (.nm 4) d ρ').seq (exes Γ nmBody)) (rs.map PyData.int) [o0, some (.pd LET), o2, some (.own ks), o4, o5, o6, o7, o8, o9] = .nx [o0, some (.pd LET), o2, some (.own (ks ++ ws.map fun w => .str (mk w))), p4, p5, o6, o7, o8, o9]
  | [], ks, o4, o5, _, _ => ⟨[], o4, o5, (fun w h => by cases h), rfl, by simp [forL]⟩
  | r :: rs, ks, o4, o5, h, hl => by
    rw [List.length_cons] at hl
    obtain ⟨s, w, hw, t⟩ := nm_turn (Γ := Γ) (o0 := o0) (o2 := o2) (o4 := o4) (o5 := o5) (o6 := o6) (o7 := o7) (o8 := o8) (o9 := o9) (ks := ks) (h r (by simp)).1 (h r (by simp)).2 (by omega)
    obtain ⟨ws, p4, p5, h1, h2, e⟩ := nm_loop (o0 := o0) (o2 := o2) (o6 := o6) (o7 := o7) (o8 := o8) (o9 := o9) (rs := rs) (ks := ks ++ [.str (mk w)]) (o4 := some (.pd (.int r))) (o5 := some (.pd s)) (fun x hx => h x (List.mem_cons_of_mem _ hx)) (by rw [List.length_append, List.length_singleton]; omega)
    refine ⟨w :: ws, p4, p5, fun x hx => ?_, by simp [h2], ?_⟩
    · rcases List.mem_cons.mp hx with rfl | hx
      · exact hw
      · exact h1 x hx
    · rw [List.map_cons]
      unfold forL
      rw [t]
      show forL _ _ _ = _
      rw [e]
      simp
def pmBody : Ss := .cons (.asg (.nm 4) (.ix (.var 0) (.bin .add (.int 11) (.var 8)))) (.cons (.asg (.nm 9) adVal) (.cons (.app 7 (.bin .add (.bin .add (.ix (.var 6) (.var 8)) (.str "=")) (.var 9))) .nil))
theorem pm_turn {rs : List Int} {K : List (List Nat)} (hK : K.length = 4) (hN : ∀ k ∈ K, nameL k = true) (len : rs.length = 20) (hr : ∀ r ∈ rs, 0 ≤ r ∧ r < 420) {o1 o3 o4 o5 o8 o9 : Option SV} {ks : List D} {j : Nat} {k : List Nat} (hj : K[j]? = some k) (hk : ks.length < LIM) :
    ∃ v p4 p9, valueL v = true ∧ (asgO (.nm 8) (.int j) [some (.pd (.list (rs.map PyData.int))), o1, some (.pd SIG), o3, o4, o5, some (.pd (.list (K.map fun w => .str (mk w)))), some (.own ks), o8, o9]).seq (exes Γ pmBody) =
      .nx [some (.pd (.list (rs.map PyData.int))), o1, some (.pd SIG), o3, p4, o5, some (.pd (.list (K.map fun w => .str (mk w)))), some (.own (ks ++ [.str (mk (parL (k, v)))])), some (.pd (.int j)), p9] := by
  have hj4 : j < 4 := by rw [← hK]; exact (List.getElem?_eq_some_iff.mp hj).1
  obtain ⟨r, e1⟩ : ∃ r, rs[11 + j]? = some r := ⟨_, List.getElem?_eq_getElem (by omega)⟩
  obtain ⟨h0, h1⟩ := hr r (List.mem_of_getElem? e1)
  obtain ⟨v, e2, hv⟩ := adVal_at h0 h1
  refine ⟨v, some (.pd (.int r)), some (.pd (.str (mk v))), hv, ?_⟩
  have vl : v.length ≤ 8 := by
    unfold valueL at hv
    simp only [Bool.and_eq_true, decide_eq_true_eq] at hv
    exact hv.1
  have kn := name_ok (hN k (List.mem_of_getElem? hj))
  let ρ1 : Sto := [some (.pd (.list (rs.map PyData.int))), o1, some (.pd SIG), o3, o4, o5, some (.pd (.list (K.map fun w => .str (mk w)))), some (.own ks), some (.pd (.int j)), o9]
  let ρ2 : Sto := [some (.pd (.list (rs.map PyData.int))), o1, some (.pd SIG), o3, some (.pd (.int r)), o5, some (.pd (.list (K.map fun w => .str (mk w)))), some (.own ks), some (.pd (.int j)), o9]
  let ρ3 : Sto := [some (.pd (.list (rs.map PyData.int))), o1, some (.pd SIG), o3, some (.pd (.int r)), o5, some (.pd (.list (K.map fun w => .str (mk w)))), some (.own ks), some (.pd (.int j)), some (.pd (.str (mk v)))]
  show exes Γ pmBody ρ1 = _
  unfold pmBody
  have ixk : ixD (.list (K.map fun w => .str (mk w))) (.int j) = .ok (.str (mk k)) := by
    show opt (atI (K.map fun w => PyData.str (mk w)) (j : Int)) id = _
    have : atI (K.map fun w => PyData.str (mk w)) (j : Int) = some (.str (mk k)) := by
      unfold atI ixN
      rw [if_pos (by omega), if_pos (by rw [List.length_map]; omega)]
      show (K.map fun w => PyData.str (mk w))[(j : Int).toNat]? = _
      rw [Int.toNat_natCast, List.getElem?_map, hj]
      rfl
    rw [this]
    rfl
  rw [ex_nx (ρ' := ρ2) ((asg_nm (d := .int r) (by
      show pur (ixD (.list (rs.map PyData.int)) (.int (11 + (j : Int)))) = _
      rw [show (11 + (j : Int)) = ((11 + j : Nat) : Int) by push_cast; rfl, ix_at e1]; rfl)).trans rfl),
    ex_nx (ρ' := ρ3) ((asg_nm (d := .str (mk v)) (show sem Γ adVal ρ2 = _ from e2)).trans rfl),
    ex_nx (ρ' := [some (.pd (.list (rs.map PyData.int))), o1, some (.pd SIG), o3, some (.pd (.int r)), o5, some (.pd (.list (K.map fun w => .str (mk w)))), some (.own (ks ++ [.str (mk (parL (k, v)))])), some (.pd (.int j)), some (.pd (.str (mk v)))]) ((app_ok (xs := ks) (d := .str (mk (parL (k, v)))) rfl (by
      have a1 : binD .add (.str (mk k)) (.str "=") = .ok (.str (mk (k ++ [61]))) := by
        show (if (mk k).length + ("=" : Str).length ≤ LIM then Rs.ok (PyData.str (mk k ++ ("=" : Str))) else .bad) = _
        rw [len_mk, if_pos (by show k.length + 1 ≤ 1000000; have := kn.2.1; omega), eqs_, mk_app]
      have a2 : binD .add (.str (mk (k ++ [61]))) (.str (mk v)) = .ok (.str (mk (parL (k, v)))) := by
        show (if (mk (k ++ [61])).length + (mk v).length ≤ LIM then Rs.ok (PyData.str (mk (k ++ [61]) ++ mk v)) else .bad) = _
        rw [len_mk, len_mk, if_pos (by rw [List.length_append]; show k.length + 1 + v.length ≤ 1000000; have := kn.2.1; omega)]
        rw [mk_app]
        unfold parL
        simp
      exact sem_bin (sem_bin (sem_ix (x := .list (K.map fun w => .str (mk w))) (y := .int j) rfl rfl ixk) rfl a1) rfl a2) hk).trans rfl)]
  rfl
theorem pm_loop {rs : List Int} {K : List (List Nat)} (hK : K.length = 4) (hN : ∀ k ∈ K, nameL k = true) (len : rs.length = 20) (hr : ∀ r ∈ rs, 0 ≤ r ∧ r < 420) {o1 o3 o5 : Option SV} : ∀ {n j : Nat} {ks : List D} {o4 o8 o9 : Option SV}, j + n ≤ 4 → ks.length + n ≤ LIM →
    ∃ (ps : List (List Nat × List Nat)) (p4 p8 p9 : Option SV), ps.map (·.1) = (K.drop j).take n ∧ (∀ p ∈ ps, valueL p.2 = true) ∧ forL (fun d ρ' => (asgO (.nm 8) d ρ').seq (exes Γ pmBody)) (rng j n) [some (.pd (.list (rs.map PyData.int))), o1, some (.pd SIG), o3, o4, o5, some (.pd (.list (K.map fun w => .str (mk w)))), some (.own ks), o8, o9] =
      .nx [some (.pd (.list (rs.map PyData.int))), o1, some (.pd SIG), o3, p4, o5, some (.pd (.list (K.map fun w => .str (mk w)))), some (.own (ks ++ ps.map fun p => .str (mk (parL p)))), p8, p9]
  | 0, j, ks, o4, o8, o9, _, _ => ⟨[], o4, o8, o9, by simp, (fun p h => by cases h), by simp [rng, forL]⟩
  | n + 1, j, ks, o4, o8, o9, hj, hl => by
    have jl : j < K.length := by omega
    obtain ⟨v, p4, p9, hv, t⟩ := pm_turn (Γ := Γ) hK hN len hr (o1 := o1) (o3 := o3) (o4 := o4) (o5 := o5) (o8 := o8) (o9 := o9) (ks := ks) (List.getElem?_eq_getElem jl) (by omega)
    obtain ⟨ps, q4, q8, q9, h1, h2, e⟩ := pm_loop hK hN len hr (o1 := o1) (o3 := o3) (o5 := o5) (n := n) (j := j + 1) (ks := ks ++ [.str (mk (parL (K[j], v)))]) (o4 := p4) (o8 := some (.pd (.int j))) (o9 := p9) (by omega) (by rw [List.length_append, List.length_singleton]; omega)
    refine ⟨(K[j], v) :: ps, q4, q8, q9, ?_, fun p hp => ?_, ?_⟩
    · rw [List.map_cons, h1, List.drop_eq_getElem_cons jl, List.take_succ_cons]
    · rcases List.mem_cons.mp hp with rfl | hp
      · exact hv
      · exact h2 p hp
    · have : rng j (n + 1) = .int j :: rng ((j + 1 : Nat) : Int) n := by
        unfold rng
        rw [List.range_succ_eq_map, List.map_cons, List.map_map]
        congr 1
        apply List.map_congr_left
        intro i _
        simp only [Function.comp_apply]
        congr 1
        push_cast
        omega
      rw [this]
      unfold forL
      rw [t]
      show forL _ _ _ = _
      rw [e]
      simp
/-! the keys of the parameters -/
def ky0 : Es := .cons (.str "a") (.cons (.str "b") (.cons (.str "key") (.cons (.str "t") .nil)))
def adK1 : E := .bin .add (.sl (.lst ky0) (.some (.bin .mod (.ix (.var 0) (.int 8)) (.int 4))) .none) (.sl (.lst ky0) .none (.some (.bin .mod (.ix (.var 0) (.int 8)) (.int 4))))
def adK2 : E := .ife (.cmp .eq (.ex (.bin .mod (.ix (.var 0) (.int 9)) (.int 2))) (.ex (.int 1))) (.rev (.var 6)) (.var 6)
def kyL : List (List Nat) := [[97], [98], [107, 101, 121], [116]]
/-- the keys, turned and perhaps reversed -/
def kyOf (a b : Nat) : List (List Nat) := if b = 1 then (kyL.drop a ++ kyL.take a).reverse else kyL.drop a ++ kyL.take a
theorem ky_ok : ∀ a < 4, ∀ b < 2, (kyOf a b).length = 4 ∧ (kyOf a b).all nameL = true ∧ ∀ n ≤ 4, (met (((kyOf a b).take n).map fun w => Sum.inr (mk w))).length = n := by decide +kernel
section
variable {rs : List Int} {ρ : Sto}
theorem dig_at (len : rs.length = 20) (hr : ∀ r ∈ rs, 0 ≤ r ∧ r < 420) {i : Nat} (hi : i < 20) (h0 : getP ρ 0 = .ok (.list (rs.map PyData.int))) {p : Int} (hp : 0 < p) : ∃ n : Nat, sem Γ (.bin .mod (.ix (.var 0) (.int i)) (.int p)) ρ = .ok (.int n) ∧ (n : Int) < p := by
  obtain ⟨r, e1⟩ : ∃ r, rs[i]? = some r := ⟨_, List.getElem?_eq_getElem (by omega)⟩
  have m1 := Int.emod_nonneg r (show p ≠ 0 by omega)
  have m2 := Int.emod_lt_of_pos r hp
  refine ⟨(r % p).toNat, ?_, by omega⟩
  have := sem_bin (Γ := Γ) (o := .mod) (a := .ix (.var 0) (.int i)) (b := .int p) (ρ := ρ) (sem_ix (x := .list (rs.map PyData.int)) (y := .int i) h0 rfl (ix_at e1)) rfl (modI hp)
  rw [this, Int.toNat_of_nonneg m1]
theorem semo_of {e : E} {i : Int} (h : sem Γ e ρ = .ok (.int i)) : semo Γ (.some e) ρ = .ok (some i) := by
  show (sem Γ e ρ).bind asI = _
  rw [h]; rfl
theorem semo_none : semo Γ .none ρ = .ok none := by simp only [semo]
theorem sem_sl {a : E} {lo hi : Eo} {x z : D} {l h : Option Int} (ha : sem Γ a ρ = .ok x) (hl : semo Γ lo ρ = .ok l) (hh : semo Γ hi ρ = .ok h) (e : slD x l h = .ok z) : sem Γ (.sl a lo hi) ρ = .ok z := by
  show (sem Γ a ρ).bind (fun x => (semo Γ lo ρ).bind fun l => (semo Γ hi ρ).bind fun u => pur (slD x l u)) = _
  rw [ha, Rs.bind_ok, hl, Rs.bind_ok, hh, Rs.bind_ok, e]; rfl
theorem k1_at (len : rs.length = 20) (hr : ∀ r ∈ rs, 0 ≤ r ∧ r < 420) (h0 : getP ρ 0 = .ok (.list (rs.map PyData.int))) : ∃ a < 4, sem Γ adK1 ρ = .ok (.list ((kyL.drop a ++ kyL.take a).map fun w => .str (mk w))) := by
  obtain ⟨n, e, hn⟩ := dig_at (Γ := Γ) len hr (i := 8) (by omega) h0 (p := 4) (by omega)
  have e : sem Γ (.bin .mod (.ix (.var 0) (.int 8)) (.int 4)) ρ = .ok (.int n) := e
  have l4 : sem Γ (.lst ky0) ρ = .ok (.list (kyL.map fun w => .str (mk w))) := rfl
  have n4 : n = 0 ∨ n = 1 ∨ n = 2 ∨ n = 3 := by omega
  refine ⟨n, by omega, ?_⟩
  rcases n4 with rfl | rfl | rfl | rfl
  · exact sem_bin (sem_sl l4 (semo_of e) semo_none rfl) (sem_sl l4 semo_none (semo_of e) rfl) rfl
  · exact sem_bin (sem_sl l4 (semo_of e) semo_none rfl) (sem_sl l4 semo_none (semo_of e) rfl) rfl
  · exact sem_bin (sem_sl l4 (semo_of e) semo_none rfl) (sem_sl l4 semo_none (semo_of e) rfl) rfl
  · exact sem_bin (sem_sl l4 (semo_of e) semo_none rfl) (sem_sl l4 semo_none (semo_of e) rfl) rfl
theorem k2_at (len : rs.length = 20) (hr : ∀ r ∈ rs, 0 ≤ r ∧ r < 420) (h0 : getP ρ 0 = .ok (.list (rs.map PyData.int))) {a : Nat} (h6 : getP ρ 6 = .ok (.list ((kyL.drop a ++ kyL.take a).map fun w => .str (mk w)))) : ∃ b < 2, sem Γ adK2 ρ = .ok (.list ((kyOf a b).map fun w => .str (mk w))) := by
  obtain ⟨n, e, hn⟩ := dig_at (Γ := Γ) len hr (i := 9) (by omega) h0 (p := 2) (by omega)
  have e : sem Γ (.bin .mod (.ix (.var 0) (.int 9)) (.int 2)) ρ = .ok (.int n) := e
  have c : sem Γ (.cmp .eq (.ex (.bin .mod (.ix (.var 0) (.int 9)) (.int 2))) (.ex (.int 1))) ρ = .ok (.bool (decide ((n : Int) = 1))) := by
    show (sem Γ (.bin .mod (.ix (.var 0) (.int 9)) (.int 2)) ρ).bind (fun x => (Rs.ok (PyData.int 1)).bind fun y => pur (toB (cmpB .eq x y))) = _
    rw [e]
    exact intEq _ _
  refine ⟨n, by omega, ?_⟩
  show ((sem Γ (.cmp .eq (.ex (.bin .mod (.ix (.var 0) (.int 9)) (.int 2))) (.ex (.int 1))) ρ).bind asB).bind (fun k => if k = true then (getP ρ 6).bind revD else getP ρ 6) = _
  rw [c, h6]
  unfold kyOf
  by_cases q : n = 1
  · rw [if_pos q, decide_eq_true (by omega)]
    show Rs.ok (PyData.list _) = _
    rw [← List.map_reverse]
  · rw [if_neg q, decide_eq_false (by omega)]
    rfl
theorem cut_mid {α : Type} {xs : List α} {k : Nat} (h : k + 2 ≤ xs.length) : cut xs (some 1) (some (2 + (k : Int))) = (xs.drop 1).take (k + 1) := by
  unfold cut
  have a : HT.sIx xs.length 0 (some 1) = 1 := by
    show (if (1 : Int) < 0 then ((1 : Int) + (xs.length : Int)).toNat else min (1 : Int).toNat xs.length) = 1
    rw [if_neg (by omega)]
    have : (1 : Int).toNat = 1 := rfl
    omega
  have b : HT.sIx xs.length xs.length (some (2 + (k : Int))) = k + 2 := by
    show (if (2 + (k : Int)) < 0 then ((2 + (k : Int)) + (xs.length : Int)).toNat else min (2 + (k : Int)).toNat xs.length) = _
    rw [if_neg (by omega)]
    omega
  rw [a, b]
  rfl
/-- what is built of twenty digits -/
theorem address_built (len : rs.length = 20) (hr : ∀ r ∈ rs, 0 ≤ r ∧ r < 420) : ∃ ns ps, ns ≠ [] ∧ ns.length ≤ 7 ∧ (∀ n ∈ ns, nameL n = true) ∧ ps.length ≤ 4 ∧ (∀ p ∈ ps, nameL p.1 = true ∧ valueL p.2 = true) ∧ (met (ps.map fun p => Sum.inr (mk p.1))).length = ps.length ∧
    mDef Γ 10 T.l_address [.list (rs.map PyData.int)] = .ok (.str (mk (builtL ns ps))) := by
  let R : D := .list (rs.map PyData.int)
  let ρ0 : Sto := [some (.pd R), none, none, none, none, none, none, none, none, none]
  let ρ1 : Sto := [some (.pd R), some (.pd LET), some (.pd SIG), none, none, none, none, none, none, none]
  let ρ2 : Sto := [some (.pd R), some (.pd LET), some (.pd SIG), some (.own []), none, none, none, none, none, none]
  obtain ⟨n0, e0, hn0⟩ := dig_at (Γ := Γ) (ρ := ρ2) len hr (i := 0) (by omega) rfl (p := 7) (by omega)
  have e0 : sem Γ (.bin .mod (.ix (.var 0) (.int 0)) (.int 7)) ρ2 = .ok (.int n0) := e0
  let rs1 := (rs.drop 1).take (n0 + 1)
  have len1 : rs1.length = n0 + 1 := by
    show ((rs.drop 1).take (n0 + 1)).length = _
    rw [List.length_take, List.length_drop]
    omega
  have it1 : semi Γ (.val (.sl (.var 0) (.some (.int 1)) (.some (.bin .add (.int 2) (.bin .mod (.ix (.var 0) (.int 0)) (.int 7)))))) ρ2 = .ok (rs1.map PyData.int) := by
    show (sem Γ (.sl (.var 0) (.some (.int 1)) (.some (.bin .add (.int 2) (.bin .mod (.ix (.var 0) (.int 0)) (.int 7))))) ρ2).bind itemsD = _
    rw [sem_sl (x := R) (l := some 1) (h := some (2 + (n0 : Int))) (z := .list (rs1.map PyData.int)) rfl (by simp only [semo, sem]; rfl) (semo_of (sem_bin rfl e0 rfl)) (by
      show Rs.ok (PyData.list (cut (rs.map PyData.int) (some 1) (some (2 + (n0 : Int))))) = _
      rw [cut_mid (by rw [List.length_map]; omega), ← List.map_drop, ← List.map_take])]
    rfl
  obtain ⟨ns, p4, p5, hns, lns, lp1⟩ := nm_loop (Γ := Γ) (o0 := some (.pd R)) (o2 := some (.pd SIG)) (o6 := none) (o7 := none) (o8 := none) (o9 := none) (rs := rs1) (ks := []) (o4 := none) (o5 := none) (fun r h => hr r (List.mem_of_mem_drop (List.mem_of_mem_take h))) (by show 0 + rs1.length ≤ 1000000; omega)
  rw [List.nil_append] at lp1
  let NS : List D := ns.map fun w => .str (mk w)
  let ρ3 : Sto := [some (.pd R), some (.pd LET), some (.pd SIG), some (.own NS), p4, p5, none, none, none, none]
  obtain ⟨a, ha, k1⟩ := k1_at (Γ := Γ) (ρ := ρ3) len hr rfl
  let ρ4 : Sto := [some (.pd R), some (.pd LET), some (.pd SIG), some (.own NS), p4, p5, some (.pd (.list ((kyL.drop a ++ kyL.take a).map fun w => .str (mk w)))), none, none, none]
  obtain ⟨b, hb, k2⟩ := k2_at (Γ := Γ) (ρ := ρ4) len hr rfl (a := a) rfl
  obtain ⟨hK, hN, hM⟩ := ky_ok a ha b hb
  have hN := List.all_eq_true.mp hN
  let KS : D := .list ((kyOf a b).map fun w => .str (mk w))
  let ρ5 : Sto := [some (.pd R), some (.pd LET), some (.pd SIG), some (.own NS), p4, p5, some (.pd KS), none, none, none]
  let ρ6 : Sto := [some (.pd R), some (.pd LET), some (.pd SIG), some (.own NS), p4, p5, some (.pd KS), some (.own []), none, none]
  obtain ⟨n1, e1, hn1⟩ := dig_at (Γ := Γ) (ρ := ρ6) len hr (i := 10) (by omega) rfl (p := 5) (by omega)
  have e1 : sem Γ (.bin .mod (.ix (.var 0) (.int 10)) (.int 5)) ρ6 = .ok (.int n1) := e1
  have it2 : semi Γ (.r1 (.bin .mod (.ix (.var 0) (.int 10)) (.int 5))) ρ6 = .ok (rng 0 n1) := by
    show (sem Γ (.bin .mod (.ix (.var 0) (.int 10)) (.int 5)) ρ6).bind rng1 = _
    rw [e1]
    show (if rngOk (n1 : Int) = true then Rs.ok (rng 0 (n1 : Int).toNat) else .bad) = _
    rw [if_pos (rngOk_iff.mpr (by omega)), Int.toNat_natCast]
  obtain ⟨ps, q4, q8, q9, hps, hvs, lp2⟩ := pm_loop (Γ := Γ) hK hN len hr (o1 := some (.pd LET)) (o3 := some (.own NS)) (o5 := p5) (n := n1) (j := 0) (ks := []) (o4 := p4) (o8 := none) (o9 := none) (by omega) (by show 0 + n1 ≤ 1000000; omega)
  rw [List.nil_append] at lp2
  rw [List.drop_zero] at hps
  have lps : ps.length = n1 := by
    have := congrArg List.length hps
    rw [List.length_map, List.length_take] at this
    omega
  let PS : List D := ps.map fun p => .str (mk (parL p))
  have nps : ∀ p ∈ ps, nameL p.1 = true := fun p hp => by
    have : p.1 ∈ ps.map (·.1) := List.mem_map.mpr ⟨p, hp, rfl⟩
    rw [hps] at this
    exact hN _ (List.mem_of_mem_take this)
  refine ⟨ns, ps, ?_, by omega, hns, by omega, fun p hp => ⟨nps p hp, hvs p hp⟩, ?_, ?_⟩
  · intro z
    rw [z] at lns
    rw [len1] at lns
    cases lns
  · have := hM n1 (by omega)
    rw [← hps, List.map_map] at this
    rw [lps]
    exact this
  let ρ7 : Sto := [some (.pd R), some (.pd LET), some (.pd SIG), some (.own NS), q4, p5, some (.pd KS), some (.own PS), q8, q9]
  let ρ8 : Sto := [some (.pd R), some (.pd LET), some (.pd SIG), some (.pd (.list NS)), q4, p5, some (.pd KS), some (.pd (.list PS)), q8, q9]
  have lnS : NS.length ≤ 7 := by rw [List.length_map]; omega
  have lpS : PS.length ≤ 4 := by rw [List.length_map]; omega
  have fz : frz 3 (frz 7 ρ7) = ρ8 := by
    show frz 3 (if PS.length ≤ LIM then _ else _) = _
    rw [if_pos (by show _ ≤ 1000000; omega)]
    show (if NS.length ≤ LIM then _ else _) = _
    rw [if_pos (by show _ ≤ 1000000; omega)]
    rfl
  have sAll : ∀ L : List (List Nat), strsOf (L.map fun w => PyData.str (mk w)) = some (L.map mk) := by
    intro L
    induction L with
    | nil => rfl
    | cons w L ih =>
      show (strsOf (L.map fun w => PyData.str (mk w))).map (mk w :: ·) = _
      rw [ih]; rfl
  have join : ∀ (c : Nat) (L : List (List Nat)), (∀ w ∈ L, w.length ≤ 20) → L.length ≤ 7 → miD .join (.str (mk [c])) [.list (L.map fun w => .str (mk w))] = .ok (.str (mk (TL.joinL [c] L))) := by
    intro c L hw hl
    have jl : (TL.joinL [c] L).length ≤ 21 * L.length := by
      clear hl
      induction L with
      | nil => exact Nat.zero_le _
      | cons w L ih =>
        have h1 := hw w (by simp)
        have ih := ih fun x hx => hw x (List.mem_cons_of_mem _ hx)
        cases L with
        | nil => show w.length ≤ 21 * 1; omega
        | cons v L =>
          show (w ++ ([c] ++ TL.joinL [c] (v :: L))).length ≤ _
          simp only [List.length_append, List.length_cons, List.length_nil] at ih ⊢
          omega
    have sl : ((L.map mk).map (·.length)).sum ≤ 20 * L.length := by
      clear jl hl
      induction L with
      | nil => exact Nat.zero_le _
      | cons w L ih =>
        have h1 := hw w (by simp)
        have ih := ih fun x hx => hw x (List.mem_cons_of_mem _ hx)
        rw [List.map_cons, List.map_cons, List.sum_cons, List.length_cons, len_mk]
        omega
    have jj : joinS (mk [c]) (L.map mk) = mk (TL.joinL [c] L) := by
      unfold joinS
      rw [cl_mk, List.map_map]
      have : L.map (cl ∘ mk) = L := by
        have : (cl ∘ mk) = id := by
          funext l
          exact cl_mk l
        rw [this, List.map_id]
      rw [this]
    show ((opt (strsOf (L.map fun w => PyData.str (mk w))) id).bind fun ys => if (joinS (mk [c]) ys).length ≤ LIM ∧ (ys.map (·.length)).sum + ys.length * (mk [c]).length ≤ 16777216 then Rs.ok (PyData.str (joinS (mk [c]) ys)) else .bad) = _
    rw [sAll]
    show (if (joinS (mk [c]) (L.map mk)).length ≤ LIM ∧ ((L.map mk).map (·.length)).sum + (L.map mk).length * (mk [c]).length ≤ 16777216 then Rs.ok (PyData.str (joinS (mk [c]) (L.map mk))) else .bad) = _
    rw [if_pos ⟨by rw [jj, len_mk]; show _ ≤ 1000000; omega, by rw [List.length_map, len_mk]; simp only [List.length_cons, List.length_nil]; omega⟩, jj]
  have w8 : ∀ w ∈ ns, w.length ≤ 20 := fun w h => by have := (name_ok (hns w h)).2.1; omega
  have p20 : ∀ w ∈ ps.map parL, w.length ≤ 20 := fun w h => by
    obtain ⟨p, hp, rfl⟩ := List.mem_map.mp h
    have h1 := (name_ok (nps p hp)).2.1
    have h2 := hvs p hp
    unfold valueL at h2
    simp only [Bool.and_eq_true, decide_eq_true_eq] at h2
    unfold parL
    rw [List.length_append, List.length_cons]
    omega
  have j1 : sem Γ (.mt .join (.str "/") (.cons (.var 3) .nil)) ρ8 = .ok (.str (mk (TL.joinL [47] ns))) := by
    show pur (miD .join (.str "/") [.list NS]) = _
    rw [sla_, join 47 ns w8 (by omega)]; rfl
  have j2 : sem Γ (.mt .join (.str "&") (.cons (.var 7) .nil)) ρ8 = .ok (.str (mk (TL.joinL [38] (ps.map parL)))) := by
    show pur (miD .join (.str "&") [.list PS]) = _
    have : PS = (ps.map parL).map fun w => PyData.str (mk w) := by
      show ps.map _ = _
      rw [List.map_map]; rfl
    rw [amp_, this, join 38 (ps.map parL) p20 (by rw [List.length_map]; omega)]; rfl
  have c : sem Γ (.cmp .ne (.ex (.var 7)) (.ex (.lst .nil))) ρ8 = .ok (.bool (!PS.isEmpty)) := by
    show pur (toB (cmpB .ne (.list PS) (.list []))) = _
    exact ne_of (r := .bad) (eq_nil fun d hd => by obtain ⟨p, _, rfl⟩ := List.mem_map.mp hd; exact ⟨_, rfl⟩)
  have tl : sem Γ (.ife (.cmp .ne (.ex (.var 7)) (.ex (.lst .nil))) (.bin .add (.str "?") (.mt .join (.str "&") (.cons (.var 7) .nil))) (.str "")) ρ8 = .ok (.str (mk (if ps = [] then [] else 63 :: TL.joinL [38] (ps.map parL)))) := by
    show ((sem Γ (.cmp .ne (.ex (.var 7)) (.ex (.lst .nil))) ρ8).bind asB).bind (fun k => if k = true then sem Γ (.bin .add (.str "?") (.mt .join (.str "&") (.cons (.var 7) .nil))) ρ8 else .ok (.str "")) = _
    rw [c]
    by_cases q : ps = []
    · rw [if_pos q]
      have : PS.isEmpty = true := by show (ps.map _).isEmpty = true; rw [q]; rfl
      rw [this]
      show Rs.ok (PyData.str "") = _
      rw [show ("" : Str) = mk [] from by decide]
    · rw [if_neg q]
      have : PS.isEmpty = false := by
        cases ps with
        | nil => exact absurd rfl q
        | cons p r => rfl
      rw [this]
      show sem Γ (.bin .add (.str "?") (.mt .join (.str "&") (.cons (.var 7) .nil))) ρ8 = _
      have lj : (TL.joinL [38] (ps.map parL)).length ≤ 1000 := by
        have := join_len20 38 (ps.map parL) p20
        rw [List.length_map] at this
        omega
      refine sem_bin (x := .str "?") rfl j2 ?_
      show (if ("?" : Str).length + (mk (TL.joinL [38] (ps.map parL))).length ≤ LIM then Rs.ok (PyData.str (("?" : Str) ++ mk (TL.joinL [38] (ps.map parL)))) else .bad) = _
      rw [len_mk (TL.joinL [38] (ps.map parL)), if_pos (by show 1 + _ ≤ 1000000; omega), qus_, mk_app]
      rfl
  have fin : sem Γ (.bin .add (.mt .join (.str "/") (.cons (.var 3) .nil)) (.ife (.cmp .ne (.ex (.var 7)) (.ex (.lst .nil))) (.bin .add (.str "?") (.mt .join (.str "&") (.cons (.var 7) .nil))) (.str ""))) ρ8 = .ok (.str (mk (builtL ns ps))) := by
    refine sem_bin j1 tl ?_
    have l1 := join_len20 47 ns w8
    have l2 := join_len20 38 (ps.map parL) p20
    rw [List.length_map] at l2
    show (if (mk (TL.joinL [47] ns)).length + (mk (if ps = [] then [] else 63 :: TL.joinL [38] (ps.map parL))).length ≤ LIM then Rs.ok (PyData.str (mk (TL.joinL [47] ns) ++ mk (if ps = [] then [] else 63 :: TL.joinL [38] (ps.map parL)))) else .bad) = _
    rw [len_mk, len_mk, if_pos (by
      show _ ≤ 1000000
      split
      · simp only [List.length_nil]; omega
      · rw [List.length_cons]; omega), mk_app]
    rfl
  have start : mDef Γ 10 T.l_address [R] = out (exes Γ T.l_address ρ0) := rfl
  have shape : T.l_address = .cons (.asg (.tp [1, 2]) (.tup (.cons (.str "abcdefghijklmnopqrstuvwxyz") (.cons (.str "0123456789abcdefghijklmnopqrstuvwxyz") .nil)))) (.cons (.own 3 .nil) (.cons (.for (.nm 4) (.val (.sl (.var 0) (.some (.int 1)) (.some (.bin .add (.int 2) (.bin .mod (.ix (.var 0) (.int 0)) (.int 7)))))) nmBody) (.cons (.asg (.nm 6) adK1) (.cons (.asg (.nm 6) adK2) (.cons (.own 7 .nil) (.cons (.for (.nm 8) (.r1 (.bin .mod (.ix (.var 0) (.int 10)) (.int 5))) pmBody) (.frz 7 (.frz 3 (.cons (.ret (.bin .add (.mt .join (.str "/") (.cons (.var 3) .nil)) (.ife (.cmp .ne (.ex (.var 7)) (.ex (.lst .nil))) (.bin .add (.str "?") (.mt .join (.str "&") (.cons (.var 7) .nil))) (.str "")))) .nil))))))))) := rfl
  rw [start, shape, ex_nx (ρ' := ρ1) rfl, ex_nx (ρ' := ρ2) rfl, ex_nx ((for_ok it1).trans lp1), ex_nx (ρ' := ρ4) ((asg_nm k1).trans rfl), ex_nx (ρ' := ρ5) ((asg_nm k2).trans rfl), ex_nx (ρ' := ρ6) rfl, ex_nx ((for_ok it2).trans lp2)]
  show out (exes Γ (.cons (.ret _) .nil) (frz 3 (frz 7 ρ7))) = _
  rw [fz, ex_rt (ret_ok fin)]
  rfl
end
end
end Pf

set_option Elab.async false
set_option linter.all false
set_option maxRecDepth 1000000
/-! law_k01: the run over sets, with what is known of addresses. -/
namespace Ax
open PySem PySem.Spec L2 Pf
/-- the digits of an address -/
def digs (a : A) : Bool := match asL a with
  | some (.ex xs) => xs.length == 20 && xs.all (fun x => match asInt x with
    | some (l, h) => decide (0 ≤ l) && decide (h < 420)
    | none => false)
  | _ => false
theorem digs_ok {m : Mg} {a : A} {d : D} (e : digs a = true) (g : γ m a d) : ∃ rs : List Int, d = .list (rs.map PyData.int) ∧ rs.length = 20 ∧ ∀ r ∈ rs, 0 ≤ r ∧ r < 420 := by
  unfold digs at e
  split at e
  · rename_i xs e1
    obtain ⟨ds, rfl, p⟩ := asL_ok e1 g
    rw [Bool.and_eq_true] at e
    have hl : xs.length = 20 := by simpa using e.1
    have len := γs_len p
    have all : ∀ d ∈ ds, ∃ i, d = .int i ∧ 0 ≤ i ∧ i < 420 := fun d hd => by
      obtain ⟨a, ha, ga⟩ := γs_mem p d hd
      have := List.all_eq_true.mp e.2 a ha
      split at this
      · rename_i l h e2
        simp only [Bool.and_eq_true, decide_eq_true_eq] at this
        obtain ⟨i, rfl, h1, h2⟩ := asInt_ok e2 ga
        exact ⟨i, rfl, by omega, by omega⟩
      · cases this
    have key : ∀ ds : List D, (∀ d ∈ ds, ∃ i, d = .int i ∧ 0 ≤ i ∧ i < 420) → ∃ rs : List Int, ds = rs.map PyData.int ∧ ∀ r ∈ rs, 0 ≤ r ∧ r < 420 := by
      intro ds
      induction ds with
      | nil => intro _; exact ⟨[], rfl, fun r h => by cases h⟩
      | cons d ds ih =>
        intro h
        obtain ⟨i, rfl, h1, h2⟩ := h d (by simp)
        obtain ⟨rs, rfl, h3⟩ := ih fun e he => h e (List.mem_cons_of_mem _ he)
        refine ⟨i :: rs, rfl, fun r hr => ?_⟩
        rcases List.mem_cons.mp hr with rfl | hr
        · exact ⟨h1, h2⟩
        · exact h3 r hr
    obtain ⟨rs, rfl, h3⟩ := key ds all
    exact ⟨rs, rfl, by rw [List.length_map] at len; omega, h3⟩
  · cases e
/-- the address of twenty digits: predicate p holds -/
def addrO (p : Nat) : List A → Os A
  | [a] => if digs a = true then ret (.q p true (.str 200)) else none
  | _ => none
theorem addrO_ok {m : Mg} {p : Nat} (hp : m.pr p = addrD) {w : List D → Rs D} (hw : ∀ rs : List Int, rs.length = 20 → (∀ r ∈ rs, 0 ≤ r ∧ r < 420) → ∃ ns ps, ns ≠ [] ∧ ns.length ≤ 7 ∧ (∀ n ∈ ns, nameL n = true) ∧ ps.length ≤ 4 ∧ (∀ p ∈ ps, nameL p.1 = true ∧ valueL p.2 = true) ∧ (met (ps.map fun p => Sum.inr (mk p.1))).length = ps.length ∧ w [.list (rs.map PyData.int)] = .ok (.str (mk (builtL ns ps))))
    {as : List A} {os : List (Ro A)} (e : addrO p as = some os) {ds : List D} (g : γs m as ds) : ∃ o ∈ os, Γr m (γ m) o (w ds) := by
  unfold addrO at e
  split at e
  · rename_i a
    match ds, g with
    | [d], g =>
      unfold γs at g
      split at e
      · rename_i hd
        cases e
        obtain ⟨rs, rfl, h1, h2⟩ := digs_ok hd g.1
        obtain ⟨ns, ps, a1, a2, a3, a4, a5, a6, a7⟩ := hw rs h1 h2
        refine ⟨_, List.mem_singleton.mpr rfl, ?_⟩
        rw [a7]
        show γ m (.q p true (.str 200)) (.str (mk (builtL ns ps)))
        unfold γ
        have ok := built_ok a1 a2 a3 a4 a5 a6
        have lens : (builtL ns ps).length ≤ 200 := by
          have j1 := join_len20 47 ns fun w hw => by have := (name_ok (a3 w hw)).2.1; omega
          have j2 := join_len20 38 (ps.map parL) fun w hw => by
            obtain ⟨q, hq, rfl⟩ := List.mem_map.mp hw
            have h1 := (name_ok (a5 q hq).1).2.1
            have h2 := (a5 q hq).2
            unfold valueL at h2
            simp only [Bool.and_eq_true, decide_eq_true_eq] at h2
            unfold parL
            rw [List.length_append, List.length_cons]
            omega
          have j3 := joinL_le9 (c := 47) ns fun w hw => (name_ok (a3 w hw)).2.1
          rw [List.length_map] at j2
          unfold builtL
          rw [List.length_append]
          split
          · simp only [List.length_nil]; omega
          · rw [List.length_cons]; omega
        refine ⟨?_, ?_⟩
        · rw [hp]
          show addrL (cl (mk (builtL ns ps))) = true
          rw [cl_mk, ok]
        · unfold γ
          refine ⟨_, rfl, asc_iff.mpr ?_, by rw [len_mk]; exact lens⟩
          rw [cl_mk]
          intro c hc
          unfold builtL at hc
          rcases List.mem_append.mp hc with hc | hc
          · rcases join_mem hc with h | ⟨w, hw, h⟩
            · have := List.mem_singleton.mp h; omega
            · have := name_no (a3 w hw) h; omega
          · split at hc
            · cases hc
            · rcases List.mem_cons.mp hc with h | hc
              · omega
              · rcases join_mem hc with h | ⟨w, hw, h⟩
                · have := List.mem_singleton.mp h; omega
                · obtain ⟨q, hq, rfl⟩ := List.mem_map.mp hw
                  unfold parL at h
                  rcases List.mem_append.mp h with h | h
                  · have := name_no (a5 q hq).1 h; omega
                  · rcases List.mem_cons.mp h with h | h
                    · omega
                    · have := value_no (a5 q hq).2 h; omega
      · cases e
    | [], g => simp [γs] at g
    | _ :: _ :: _, g => simp [γs] at g
  · cases e
end Ax
namespace K01
open PySem PySem.Spec L2 Pf Ax
def mg_ : Mg := ⟨fun p => if p = 0 then addrD else fun _ => false, fun _ d => d, fun _ => .none⟩
def orc (k : Nat) (as : List A) : Os A := if k = 1138 then numO as else if k = 1000 then addrO 0 as else if k = 7 then prO 0 addrD as else if k = 1089 then prO 0 addrD as else none
def sp (f i : Nat) : Nat := if f = 999 ∧ i = 5 then 2 else 0
def cc : Cc := ⟨B, orc, sp⟩
theorem g3 : G3 g_is_address where
  ms := rfl
  nm := fun l h => by
    show mDef g_is_name 2 T.is_name [.str (mk l)] = _
    rw [is_name_str ⟨rfl, rfl, rfl⟩ (tx_asc h) (tx_len h), cl_mk]
  qu := fun l h => by
    show mDef g_is_query 5 T.is_query [.str (mk l)] = _
    exact is_query_str ⟨⟨rfl, rfl, rfl⟩, rfl, fun l h => by
      show mDef g_is_name 2 T.is_name [.str (mk l)] = _
      rw [is_name_str ⟨rfl, rfl, rfl⟩ (tx_asc h) (tx_len h), cl_mk], fun l h => by
      show mDef g_is_value 2 T.is_value [.str (mk l)] = _
      rw [is_value_str ⟨rfl, rfl, rfl⟩ (tx_asc h) (tx_len h), cl_mk], fun l h => by
      show mDef g_split_query 2 T.split_query [.str (mk l)] = _
      exact split_query_str h⟩ h
theorem lnm : ∀ l, Tx l → mDef g_l_is_name 2 T.l_is_name [.str (mk l)] = .ok (.bool (nameL l)) := fun l h => by
  rw [l_is_name_str (tx_asc h) (tx_len h), cl_mk]
theorem K : Ok mg_ cc L17 where
  fs0 := rfl
  ids := by decide +kernel
  orc := fun k p as os e1 e2 hn ds g => by
    have e3 : orc k as = some os := e2
    clear e2
    unfold orc at e3
    split at e3
    · rename_i h; subst h
      cases e1.symm.trans lk_l_numbers
      show ∃ o ∈ os, Γr mg_ (γ mg_) o (mDef (stage B L8) 8 t_l_numbers ds)
      rw [st8]
      exact numO_ok (fun cell salt ss h1 h2 h3 h4 => numbers_at h1 h2 h3 h4) e3 g
    · split at e3
      · rename_i h; subst h
        cases e1.symm.trans lk_l_address
        show ∃ o ∈ os, Γr mg_ (γ mg_) o (mDef (stage B L10) 10 t_l_address ds)
        rw [st10]
        exact addrO_ok rfl (fun rs h1 h2 => address_built h1 h2) e3 g
      · split at e3
        · rename_i h; subst h
          cases e1.symm.trans lk_is_address
          show ∃ o ∈ os, Γr mg_ (γ mg_) o (mDef (stage B L7) 6 t_is_address ds)
          rw [st7]
          exact prO_ok (p := 0) (f := addrD) rfl (fun d h => is_address_D g3 h) e3 g
        · split at e3
          · rename_i h; subst h
            cases e1.symm.trans lk_l_is_address
            show ∃ o ∈ os, Γr mg_ (γ mg_) o (mDef (stage B L13) 4 t_l_is_address ds)
            rw [st13]
            refine prO_ok (p := 0) (f := addrD) rfl (fun d h => l_is_address_D (Γ := g_l_is_address) (fun l h => lnm l h) (fun l h => ?_) h) e3 g
            show mDef g_l_is_query 6 T.l_is_query [.str (mk l)] = _
            exact l_is_query_str (Γ := g_l_is_query) (fun l h => lnm l h) h
          · cases e3
theorem run : okT (cal cc 100 L17 999 [.lst .any 63]) = true := by decide +kernel
theorem law_ok : ∀ ns : List Int, ns.length ≤ 63 → m_law [.list (ns.map .int)] = .ok (.bool true) := fun ns hl => by
  have h := law_by K run ns hl
  rw [call_at (l := L17) rfl (by decide +kernel), lk_law] at h
  have h : mDef (stage B L16) 6 t_law [.list (ns.map .int)] = .ok (.bool true) := h
  rw [st16] at h
  exact h
end K01

open PySem PySem.W PyProof.Rows
set_option maxRecDepth 100000 in
set_option maxHeartbeats 0 in
theorem PySem.Challenge.cw_pagesasseen_k01_valid_addresses_holds : PySem.Challenge.rw_pagesasseen_k01_valid_addresses.Holds := by
  w_on; o_law; k_head; (case hw => w_witness2)
  k_fill
  refine Pf.walk_G (l := PySem.Challenge.rw_pagesasseen_k01_valid_addresses) (k := 19) (x := "_law_script") (m := K01.m_law) rfl (by decide) rfl ⟨rfl, by decide, by decide⟩ (fun w h Y => PySem.W.kIn_of Y) ?F K01.law_ok
  case F =>
    intro w mg fa h KX G hmg
    refine' K01.all KX G hmg ?g_LETTERS ?g_DIGITS ?g_MAX_LENGTH ?g_LAST_MOMENT ?g_MAX_SEGMENTS ?g_MAX_PARAMETERS ?b_all ?b_bool ?b_enumerate ?b_int ?b_isinstance ?b_len ?b_max ?b_range ?b_repr ?b_set ?b_str ?a_is_integer ?l_is_integer ?c_is_integer ?k_is_integer ?a_is_between ?l_is_between ?c_is_between ?k_is_between ?a_is_moment ?l_is_moment ?c_is_moment ?k_is_moment ?a_is_name ?l_is_name ?c_is_name ?k_is_name ?a_is_value ?l_is_value ?c_is_value ?k_is_value ?a_split_query ?l_split_query ?c_split_query ?k_split_query ?a_is_query ?l_is_query ?c_is_query ?k_is_query ?a_is_address ?l_is_address ?c_is_address ?k_is_address ?a_l_numbers ?l_l_numbers ?c_l_numbers ?k_l_numbers ?a_l_odd ?l_l_odd ?c_l_odd ?k_l_odd ?a_l_address ?l_l_address ?c_l_address ?k_l_address ?a_l_is_name ?l_l_is_name ?c_l_is_name ?k_l_is_name ?a_l_is_query ?l_l_is_query ?c_l_is_query ?k_l_is_query ?a_l_is_address ?l_l_is_address ?c_l_is_address ?k_l_is_address ?a_l_altered ?l_l_altered ?c_l_altered ?k_l_altered ?a_l_edges ?l_l_edges ?c_l_edges ?k_l_edges ?a_law ?l_law ?c_law ?k_law
    (case g_LETTERS => k_is); (case g_DIGITS => k_is); (case g_MAX_LENGTH => k_is); (case g_LAST_MOMENT => k_is); (case g_MAX_SEGMENTS => k_is); (case g_MAX_PARAMETERS => k_is)
    (case b_all => k_is); (case b_bool => k_is); (case b_enumerate => k_is); (case b_int => k_is); (case b_isinstance => k_is); (case b_len => k_is)
    (case b_max => k_is); (case b_range => k_is); (case b_repr => k_is); (case b_set => k_is); (case b_str => k_is); (case a_is_integer => k_is)
    (case l_is_integer => k_is); (case c_is_integer => k_is); (case k_is_integer => k_is); (case a_is_between => k_is); (case l_is_between => k_is); (case c_is_between => k_is)
    (case k_is_between => k_is); (case a_is_moment => k_is); (case l_is_moment => k_is); (case c_is_moment => k_is); (case k_is_moment => k_is); (case a_is_name => k_is)
    (case l_is_name => k_is); (case c_is_name => k_is); (case k_is_name => k_is); (case a_is_value => k_is); (case l_is_value => k_is); (case c_is_value => k_is)
    (case k_is_value => k_is); (case a_split_query => k_is); (case l_split_query => k_is); (case c_split_query => k_is); (case k_split_query => k_is); (case a_is_query => k_is)
    (case l_is_query => k_is); (case c_is_query => k_is); (case k_is_query => k_is); (case a_is_address => k_is); (case l_is_address => k_is); (case c_is_address => k_is)
    (case k_is_address => k_is); (case a_l_numbers => k_is); (case l_l_numbers => k_is); (case c_l_numbers => k_is); (case k_l_numbers => k_is); (case a_l_odd => k_is)
    (case l_l_odd => k_is); (case c_l_odd => k_is); (case k_l_odd => k_is); (case a_l_address => k_is); (case l_l_address => k_is); (case c_l_address => k_is)
    (case k_l_address => k_is); (case a_l_is_name => k_is); (case l_l_is_name => k_is); (case c_l_is_name => k_is); (case k_l_is_name => k_is); (case a_l_is_query => k_is)
    (case l_l_is_query => k_is); (case c_l_is_query => k_is); (case k_l_is_query => k_is); (case a_l_is_address => k_is); (case l_l_is_address => k_is); (case c_l_is_address => k_is)
    (case k_l_is_address => k_is); (case a_l_altered => k_is); (case l_l_altered => k_is); (case c_l_altered => k_is); (case k_l_altered => k_is); (case a_l_edges => k_is)
    (case l_l_edges => k_is); (case c_l_edges => k_is); (case k_l_edges => k_is); (case a_law => k_is); (case l_law => k_is); (case c_law => k_is)
    (case k_law => k_is)

