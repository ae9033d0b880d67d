import PyProof.Rows.All
import Wide.All
import OpenK.AllK
import Wide.FinOn
import HandS.ForMost
import HandS.Wide
import HandS.Style
import HandS.Walk
import HandS.Zip
import HandS.TupAny
import KE.GoesNew
import HandS.SetFor
import HandS.SortInts
import HandS.Strs
import KE.KDictPairs
import PySem.Challenge.RW_addalong_k55_generating_tuples_counted
set_option Elab.async false
set_option linter.all false
set_option maxRecDepth 100000
set_option maxHeartbeats 4000000
/-! The mirror layer: data D, what stands for it in the heap, states of slots and temporaries, evaluation without heaps. -/
namespace Lw
open PySem PySem.Spec PyProof.Rows L2

inductive D where
  | non | bl (b : Bool) | int (i : Int) | str (s : Str)
  | lst (xs : List D) | tup (xs : List D) | ktup (k : List Key) | scr (ns : List Int)
  | dic (kvs : List (Key × D)) | obj (C : Addr) (fs : List (Str × D))

def AtL (Y : Addr → Prop) (H : Hp) (a : Addr) (xs : List V) : Prop := ¬ Y a ∧ H a = some (.lst xs)
def AtS (K : PySem.W.Frag) (Y : Addr → Prop) (H : Hp) (a : Addr) (xs : List V) : Prop := (¬ Y a ∧ Rd H a (.lst xs)) ∨ ∀ H', SqL K H' a xs
def AtT (K : PySem.W.Frag) (Y : Addr → Prop) (H : Hp) (a : Addr) (xs : List V) : Prop := (¬ Y a ∧ H a = some (.tup xs)) ∨ ∀ H', SqT K H' a xs
mutual
inductive Rep (K : PySem.W.Frag) (Y : Addr → Prop) (H : Hp) : V → D → Prop
  | non : Rep K Y H .non .non
  | bl (b : Bool) : Rep K Y H (.bl b) (.bl b)
  | int (i : Int) : Rep K Y H (.int i) (.int i)
  | str (s : Str) : Rep K Y H (.str s) (.str s)
  | lst {a : Addr} {xs : List V} {ds : List D} : AtL Y H a xs → Reps K Y H xs ds → Rep K Y H (.ref a) (.lst ds)
  | tup {a : Addr} {xs : List V} {ds : List D} : AtT K Y H a xs → Reps K Y H xs ds → Rep K Y H (.ref a) (.tup ds)
  | scr {a : Addr} {ns : List Int} : AtS K Y H a (ns.map V.int) → Rep K Y H (.ref a) (.scr ns)
  | ktup {a : Addr} {k : List Key} : ¬ Y a → H a = some (.tup (k.map kV)) → Rep K Y H (.ref a) (.ktup k)
  | dic {a : Addr} {xs : List (Key × V)} {ds : List (Key × D)} : ¬ Y a → H a = some (.dK xs) → RepK K Y H xs ds → Rep K Y H (.ref a) (.dic ds)
  | obj {a dx C : Addr} {xs : List (Str × V)} {ds : List (Str × D)} : ¬ Y a → H a = some (.ins C dx xs) → ¬ Y dx → H dx = some (.own a) → RepF K Y H xs ds → Rep K Y H (.ref a) (.obj C ds)
inductive Reps (K : PySem.W.Frag) (Y : Addr → Prop) (H : Hp) : List V → List D → Prop
  | nil : Reps K Y H [] []
  | cons {v : V} {vs : List V} {d : D} {ds : List D} : Rep K Y H v d → Reps K Y H vs ds → Reps K Y H (v :: vs) (d :: ds)
inductive RepK (K : PySem.W.Frag) (Y : Addr → Prop) (H : Hp) : List (Key × V) → List (Key × D) → Prop
  | nil : RepK K Y H [] []
  | cons {k : Key} {v : V} {vs : List (Key × V)} {d : D} {ds : List (Key × D)} : Rep K Y H v d → RepK K Y H vs ds → RepK K Y H ((k, v) :: vs) ((k, d) :: ds)
inductive RepF (K : PySem.W.Frag) (Y : Addr → Prop) (H : Hp) : List (Str × V) → List (Str × D) → Prop
  | nil : RepF K Y H [] []
  | cons {k : Str} {v : V} {vs : List (Str × V)} {d : D} {ds : List (Str × D)} : Rep K Y H v d → RepF K Y H vs ds → RepF K Y H ((k, v) :: vs) ((k, d) :: ds)
end
/-- what is not in Y stays, and is not in Y' -/
def Mv (Y : Addr → Prop) (H : Hp) (Y' : Addr → Prop) (H' : Hp) : Prop := ∀ a o, ¬ Y a → H a = some o → ¬ Y' a ∧ H' a = some o
section
variable {K : PySem.W.Frag} {Y Y' : Addr → Prop} {H H' : Hp}
theorem Mv.rd (m : Mv Y H Y' H') {a : Addr} {u : HO} (n : ¬ Y a) (h : Rd H a u) : ¬ Y' a ∧ Rd H' a u := by
  rcases h with h | ⟨o, h⟩
  · exact ⟨(m a _ n h).1, .inl (m a _ n h).2⟩
  · exact ⟨(m a _ n h).1, .inr ⟨o, (m a _ n h).2⟩⟩
theorem AtL.mv (m : Mv Y H Y' H') {a : Addr} {xs : List V} (h : AtL Y H a xs) : AtL Y' H' a xs := m a _ h.1 h.2
theorem AtS.mv (m : Mv Y H Y' H') {a : Addr} {xs : List V} (h : AtS K Y H a xs) : AtS K Y' H' a xs := by
  rcases h with ⟨n, h⟩ | h
  · exact .inl (m.rd n h)
  · exact .inr h
theorem AtT.mv (m : Mv Y H Y' H') {a : Addr} {xs : List V} (h : AtT K Y H a xs) : AtT K Y' H' a xs := by
  rcases h with ⟨n, h⟩ | h
  · exact .inl (m a _ n h)
  · exact .inr h
mutual
theorem Rep.mv (m : Mv Y H Y' H') : ∀ {v : V} {d : D}, Rep K Y H v d → Rep K Y' H' v d
  | _, _, .non => .non
  | _, _, .bl b => .bl b
  | _, _, .int i => .int i
  | _, _, .str s => .str s
  | _, _, .lst h r => .lst (h.mv m) (Reps.mv m r)
  | _, _, .tup h r => .tup (h.mv m) (Reps.mv m r)
  | _, _, .scr h => .scr (h.mv m)
  | _, _, .ktup n h => .ktup (m _ _ n h).1 (m _ _ n h).2
  | _, _, .dic n h r => .dic (m _ _ n h).1 (m _ _ n h).2 (RepK.mv m r)
  | _, _, .obj n h n2 h2 r => .obj (m _ _ n h).1 (m _ _ n h).2 (m _ _ n2 h2).1 (m _ _ n2 h2).2 (RepF.mv m r)
theorem Reps.mv (m : Mv Y H Y' H') : ∀ {vs : List V} {ds : List D}, Reps K Y H vs ds → Reps K Y' H' vs ds
  | _, _, .nil => .nil
  | _, _, .cons r t => .cons (Rep.mv m r) (Reps.mv m t)
theorem RepK.mv (m : Mv Y H Y' H') : ∀ {vs : List (Key × V)} {ds : List (Key × D)}, RepK K Y H vs ds → RepK K Y' H' vs ds
  | _, _, .nil => .nil
  | _, _, .cons r t => .cons (Rep.mv m r) (RepK.mv m t)
theorem RepF.mv (m : Mv Y H Y' H') : ∀ {vs : List (Str × V)} {ds : List (Str × D)}, RepF K Y H vs ds → RepF K Y' H' vs ds
  | _, _, .nil => .nil
  | _, _, .cons r t => .cons (Rep.mv m r) (RepF.mv m t)
end
theorem AtL.sq {a : Addr} {xs : List V} (h : AtL Y H a xs) : SqL K H a xs := .inl (.inl h.2)
theorem AtS.sq {a : Addr} {xs : List V} (h : AtS K Y H a xs) : SqL K H a xs := by
  rcases h with ⟨_, h⟩ | h
  · exact .inl h
  · exact h H
theorem AtT.sq {a : Addr} {xs : List V} (h : AtT K Y H a xs) : SqT K H a xs := by
  rcases h with ⟨_, h⟩ | h
  · exact .inl (.inl h)
  · exact h H
theorem Rep.scr_inv {v : V} {ns : List Int} (h : Rep K Y H v (.scr ns)) : ∃ a, v = .ref a ∧ AtS K Y H a (ns.map V.int) := by
  cases h with | scr h => exact ⟨_, rfl, h⟩
theorem Rep.int_inv {v : V} {i : Int} (h : Rep K Y H v (.int i)) : v = .int i := by cases h; rfl
theorem Rep.str_inv {v : V} {i : Str} (h : Rep K Y H v (.str i)) : v = .str i := by cases h; rfl
theorem Rep.bl_inv {v : V} {i : Bool} (h : Rep K Y H v (.bl i)) : v = .bl i := by cases h; rfl
theorem Rep.non_inv {v : V} (h : Rep K Y H v .non) : v = .non := by cases h; rfl
theorem Rep.lst_inv {v : V} {ds : List D} (h : Rep K Y H v (.lst ds)) : ∃ a xs, v = .ref a ∧ AtL Y H a xs ∧ Reps K Y H xs ds := by
  cases h with | lst h r => exact ⟨_, _, rfl, h, r⟩
theorem Rep.tup_inv {v : V} {ds : List D} (h : Rep K Y H v (.tup ds)) : ∃ a xs, v = .ref a ∧ AtT K Y H a xs ∧ Reps K Y H xs ds := by
  cases h with | tup h r => exact ⟨_, _, rfl, h, r⟩
def keyD : Key → D
  | .inl i => .int i
  | .inr s => .str s
theorem Reps.of_keys : ∀ {k : List Key}, Reps K Y H (k.map kV) (k.map keyD)
  | [] => .nil
  | .inl i :: k => .cons (.int i) Reps.of_keys
  | .inr s :: k => .cons (.str s) Reps.of_keys
theorem Rep.ktup_inv {v : V} {k : List Key} (h : Rep K Y H v (.ktup k)) : ∃ a, v = .ref a ∧ ¬ Y a ∧ H a = some (.tup (k.map kV)) := by
  cases h with | ktup n h => exact ⟨_, rfl, n, h⟩
theorem Rep.of_ktup {v : V} {k : List Key} (h : Rep K Y H v (.ktup k)) : Rep K Y H v (.tup (k.map keyD)) := by
  obtain ⟨a, rfl, n, h⟩ := h.ktup_inv
  exact .tup (.inl ⟨n, h⟩) Reps.of_keys
theorem Reps.len : ∀ {vs : List V} {ds : List D}, Reps K Y H vs ds → vs.length = ds.length
  | _, _, .nil => rfl
  | _, _, .cons _ t => congrArg (· + 1) t.len
theorem Reps.get : ∀ {vs : List V} {ds : List D} {i : Nat} {d : D}, Reps K Y H vs ds → ds[i]? = some d → ∃ v, vs[i]? = some v ∧ Rep K Y H v d
  | _, _, _, _, .nil, e => by simp at e
  | _, _, 0, _, .cons r _, e => by simp at e; subst e; exact ⟨_, rfl, r⟩
  | _, _, i + 1, d, .cons _ t, e => by
    obtain ⟨v, h1, h2⟩ := Reps.get (i := i) (d := d) t (by simpa using e)
    exact ⟨v, by simpa using h1, h2⟩
theorem Reps.getV : ∀ {vs : List V} {ds : List D} {i : Nat} {v : V}, Reps K Y H vs ds → vs[i]? = some v → ∃ d, ds[i]? = some d ∧ Rep K Y H v d
  | _, _, _, _, .nil, e => by simp at e
  | _, _, 0, _, .cons r _, e => by simp at e; subst e; exact ⟨_, rfl, r⟩
  | _, _, i + 1, d, .cons _ t, e => by
    obtain ⟨v, h1, h2⟩ := Reps.getV (i := i) (v := d) t (by simpa using e)
    exact ⟨v, by simpa using h1, h2⟩
theorem Reps.append : ∀ {vs ws : List V} {ds es : List D}, Reps K Y H vs ds → Reps K Y H ws es → Reps K Y H (vs ++ ws) (ds ++ es)
  | _, _, _, _, .nil, s => s
  | _, _, _, _, .cons r t, s => .cons r (t.append s)
theorem Reps.take : ∀ {vs : List V} {ds : List D} (n : Nat), Reps K Y H vs ds → Reps K Y H (vs.take n) (ds.take n)
  | _, _, 0, _ => .nil
  | _, _, _ + 1, .nil => .nil
  | _, _, n + 1, .cons r t => .cons r (Reps.take n t)
theorem Reps.drop : ∀ {vs : List V} {ds : List D} (n : Nat), Reps K Y H vs ds → Reps K Y H (vs.drop n) (ds.drop n)
  | _, _, 0, r => r
  | _, _, _ + 1, .nil => .nil
  | _, _, n + 1, .cons _ t => Reps.drop n t
theorem Reps.rep {vs : List V} {ds : List D} (h : Reps K Y H vs ds) : ∀ k : Nat, Reps K Y H (List.replicate k vs).flatten (List.replicate k ds).flatten
  | 0 => .nil
  | k + 1 => by rw [List.replicate_succ, List.replicate_succ, List.flatten_cons, List.flatten_cons]; exact h.append (h.rep k)
theorem Reps.reverse : ∀ {vs : List V} {ds : List D}, Reps K Y H vs ds → Reps K Y H vs.reverse ds.reverse
  | _, _, .nil => .nil
  | _, _, .cons r t => by rw [List.reverse_cons, List.reverse_cons]; exact t.reverse.append (.cons r .nil)
theorem Reps.ints : ∀ {vs : List V} {ns : List Int}, Reps K Y H vs (ns.map D.int) → vs = ns.map V.int
  | _, [], .nil => rfl
  | _, n :: ns, .cons r t => by rw [r.int_inv, t.ints]; rfl
theorem Reps.of_ints : ∀ {ns : List Int}, Reps K Y H (ns.map V.int) (ns.map D.int)
  | [] => .nil
  | n :: ns => .cons (.int n) Reps.of_ints
theorem Reps.strs : ∀ {vs : List V} {ns : List Str}, Reps K Y H vs (ns.map D.str) → vs = ns.map V.str
  | _, [], .nil => rfl
  | _, n :: ns, .cons r t => by rw [r.str_inv, t.strs]; rfl
theorem Reps.of_strs : ∀ {ns : List Str}, Reps K Y H (ns.map V.str) (ns.map D.str)
  | [] => .nil
  | n :: ns => .cons (.str n) Reps.of_strs
theorem Reps.cons_inv {vs : List V} {d : D} {ds : List D} (h : Reps K Y H vs (d :: ds)) : ∃ v ws, vs = v :: ws ∧ Rep K Y H v d ∧ Reps K Y H ws ds := by
  cases h with | cons r t => exact ⟨_, _, rfl, r, t⟩
theorem Reps.nil_inv {vs : List V} (h : Reps K Y H vs []) : vs = [] := by cases h; rfl
end

/-! ### states -/
inductive Slot where
  | no
  | val (d : D)
  | own (ds : List D)
  | deal (p : Bool) (great : List Int) (now seed : Int)
  | dT (kvs : List (List Key × D))
  | dK (kvs : List (Key × D))
abbrev Env := List Slot
structure Ctx where
  K : PySem.W.Frag
  X0 : Addr → Prop
  M : Addr → Prop
  H0 : Hp
  dl : Option (Addr × Addr)
  hX : ∀ a, X0 a → H0 a ≠ none
  hM : ∀ a, M a → X0 a
def dealK (great now seed : V) : List (Key × V) := [(.inr "great", great), (.inr "now", now), (.inr "seed", seed)]
def kvT {β : Type} (kvs : List (List Key × D)) : List (List Key × D) := kvs
def DealAt (H : Hp) (a g : Addr) (great : List Int) (now seed : Int) : Prop := a ≠ g ∧ H a = some (.dK (dealK (.ref g) (.int now) (.int seed))) ∧ H g = some (.lst (great.map V.int))
def slotR (C : Ctx) (Y : Addr → Prop) (H : Hp) (A : Addr → Prop) (o : Option V) : Slot → Prop
  | .no => True
  | .val d => ∃ v, o = some v ∧ Rep C.K Y H v d
  | .own ds => ∃ a vs, o = some (.ref a) ∧ A a ∧ C.H0 a = none ∧ H a = some (.lst vs) ∧ Reps C.K Y H vs ds
  | .deal p great now seed => ∃ a g, o = some (.ref a) ∧ A a ∧ A g ∧ (p = true → C.dl = some (a, g)) ∧ DealAt H a g great now seed
  | .dT kvs => ∃ a vs, o = some (.ref a) ∧ A a ∧ C.H0 a = none ∧ H a = some (.dT vs) ∧ vs.map (·.1) = kvs.map (·.1) ∧ Reps C.K Y H (vs.map (·.2)) (kvs.map (·.2))
  | .dK kvs => ∃ a vs, o = some (.ref a) ∧ A a ∧ C.H0 a = none ∧ H a = some (.dK vs) ∧ vs.map (·.1) = kvs.map (·.1) ∧ Reps C.K Y H (vs.map (·.2)) (kvs.map (·.2))
def YA (C : Ctx) (A : Bool → Nat → Addr → Prop) : Addr → Prop := fun a => C.X0 a ∨ ∃ b i, A b i a
structure SA (C : Ctx) (A : Bool → Nat → Addr → Prop) (σ : L2.St) (ρ : Env) (T : List (V × Slot)) (H : Hp) : Prop where
  len : σ.length = ρ.length
  fr : ∀ a o, ¬ C.M a → C.H0 a = some o → H a = some o
  dom : ∀ a, C.X0 a → H a ≠ none
  ow : ∀ b i a, A b i a → H a ≠ none ∧ (C.H0 a = none ∨ C.M a)
  dis : ∀ b i b' j a, A b i a → A b' j a → b = b' ∧ i = j
  sl : ∀ i s, ρ[i]? = some s → slotR C (YA C A) H (A true i) (σ[i]?.getD none) s
  tm : ∀ i v s, T[i]? = some (v, s) → slotR C (YA C A) H (A false i) (some v) s
def S (C : Ctx) (σ : L2.St) (ρ : Env) (T : List (V × Slot)) (H : Hp) : Prop := ∃ A, SA C A σ ρ T H

section
variable {C : Ctx} {A A' : Bool → Nat → Addr → Prop} {σ : L2.St} {ρ : Env} {T : List (V × Slot)} {H H' : Hp}
theorem slotR.mv {Y Y' : Addr → Prop} {A1 A2 : Addr → Prop} {o : Option V} {s : Slot} (m : Mv Y H Y' H') (k : ∀ a u, A1 a → H a = some u → A2 a ∧ H' a = some u) (h : slotR C Y H A1 o s) : slotR C Y' H' A2 o s := by
  cases s with
  | no => exact True.intro
  | val d => obtain ⟨v, e, r⟩ := h; exact ⟨v, e, r.mv m⟩
  | own ds => obtain ⟨a, vs, e, ha, h0, h1, r⟩ := h; exact ⟨a, vs, e, (k a _ ha h1).1, h0, (k a _ ha h1).2, r.mv m⟩
  | deal p gr now seed => obtain ⟨a, g, e, ha, hg, hp, n, h1, h2⟩ := h; exact ⟨a, g, e, (k a _ ha h1).1, (k g _ hg h2).1, hp, n, (k a _ ha h1).2, (k g _ hg h2).2⟩
  | dT kvs => obtain ⟨a, vs, e, ha, h0, h1, e2, r⟩ := h; exact ⟨a, vs, e, (k a _ ha h1).1, h0, (k a _ ha h1).2, e2, r.mv m⟩
  | dK kvs => obtain ⟨a, vs, e, ha, h0, h1, e2, r⟩ := h; exact ⟨a, vs, e, (k a _ ha h1).1, h0, (k a _ ha h1).2, e2, r.mv m⟩
/-- the heap grows -/
theorem SA.ext (h : SA C A σ ρ T H) (e : ∀ a o, H a = some o → H' a = some o) : SA C A σ ρ T H' := by
  have ne : ∀ a, H a ≠ none → H' a ≠ none := fun a h1 h2 => by
    cases q : H a with
    | none => exact h1 q
    | some o => rw [e a o q] at h2; cases h2
  have m : Mv (YA C A) H (YA C A) H' := fun a o n q => ⟨n, e a o q⟩
  exact ⟨h.len, fun a o n q => e a o (h.fr a o n q), fun a q => ne a (h.dom a q), fun b i a q => ⟨ne a (h.ow b i a q).1, (h.ow b i a q).2⟩, h.dis,
    fun i s q => (h.sl i s q).mv m fun a u q1 q2 => ⟨q1, e a u q2⟩, fun i v s q => (h.tm i v s q).mv m fun a u q1 q2 => ⟨q1, e a u q2⟩⟩
theorem S.ext (h : S C σ ρ T H) (e : ∀ a o, H a = some o → H' a = some o) : S C σ ρ T H' := let ⟨A, h⟩ := h; ⟨A, h.ext e⟩
theorem ext_new {p : Addr} {o : HO} (n : H p = none) : ∀ a u, H a = some u → upd H p o a = some u := fun a u q => by rw [upd_ne (ne_of_none q n)]; exact q
theorem getE_snoc {α : Type} {l : List α} {x y : α} {i : Nat} (h : (l ++ [x])[i]? = some y) : l[i]? = some y ∨ (i = l.length ∧ x = y) := by
  by_cases hi : i < l.length
  · rw [List.getElem?_append_left hi] at h; exact .inl h
  · rw [List.getElem?_append_right (by omega)] at h
    by_cases h2 : i - l.length = 0
    · rw [h2] at h; exact .inr ⟨by omega, by simpa using h⟩
    · rw [List.getElem?_eq_none (by simp; omega)] at h; cases h
theorem SA.pop {x : V × Slot} (h : SA C A σ ρ (T ++ [x]) H) : SA C A σ ρ T H :=
  ⟨h.len, h.fr, h.dom, h.ow, h.dis, h.sl, fun i v s q => h.tm i v s (by
    have hi : i < T.length := (List.getElem?_eq_some_iff.mp q).1
    rw [List.getElem?_append_left hi]; exact q)⟩
theorem S.pop {x : V × Slot} (h : S C σ ρ (T ++ [x]) H) : S C σ ρ T H := let ⟨A, h⟩ := h; ⟨A, h.pop⟩
theorem S.popL {X : List (V × Slot)} (h : S C σ ρ (T ++ X) H) : S C σ ρ T H := by
  obtain ⟨A, h⟩ := h
  exact ⟨A, h.len, h.fr, h.dom, h.ow, h.dis, h.sl, fun i v s q => h.tm i v s (by
    have hi : i < T.length := (List.getElem?_eq_some_iff.mp q).1
    rw [List.getElem?_append_left hi]; exact q)⟩
/-- push a value -/
theorem SA.push {v : V} {d : D} (h : SA C A σ ρ T H) (r : Rep C.K (YA C A) H v d) : SA C A σ ρ (T ++ [(v, .val d)]) H :=
  ⟨h.len, h.fr, h.dom, h.ow, h.dis, h.sl, fun i w s q => by
    rcases getE_snoc q with q | ⟨e, q⟩
    · exact h.tm i w s q
    · cases q; exact ⟨_, rfl, r⟩⟩
theorem S.int (h : S C σ ρ T H) (i : Int) : S C σ ρ (T ++ [(.int i, .val (.int i))]) H := let ⟨A, h⟩ := h; ⟨A, h.push (.int i)⟩
theorem S.bl (h : S C σ ρ T H) (i : Bool) : S C σ ρ (T ++ [(.bl i, .val (.bl i))]) H := let ⟨A, h⟩ := h; ⟨A, h.push (.bl i)⟩
theorem S.str (h : S C σ ρ T H) (i : Str) : S C σ ρ (T ++ [(.str i, .val (.str i))]) H := let ⟨A, h⟩ := h; ⟨A, h.push (.str i)⟩
theorem S.non (h : S C σ ρ T H) : S C σ ρ (T ++ [(.non, .val .non)]) H := let ⟨A, h⟩ := h; ⟨A, h.push .non⟩
/-- the last temporary's value, told for its Y -/
theorem SA.last {x : V × Slot} (h : SA C A σ ρ (T ++ [x]) H) : slotR C (YA C A) H (A false T.length) (some x.1) x.2 := h.tm T.length x.1 x.2 (by simp)
theorem SA.lastV {v : V} {d : D} (h : SA C A σ ρ (T ++ [(v, .val d)]) H) : Rep C.K (YA C A) H v d := by
  obtain ⟨w, e, r⟩ := h.last
  cases e; exact r
theorem SA.last2V {v : V} {d : D} {y : V × Slot} (h : SA C A σ ρ (T ++ [(v, .val d)] ++ [y]) H) : Rep C.K (YA C A) H v d := h.pop.lastV

/-- what is owned -/
def Own (A : Bool → Nat → Addr → Prop) (a : Addr) : Prop := ∃ b i, A b i a
/-- a step: what is not owned stays; the owned of behind were owned or are new -/
structure Step (C : Ctx) (A A' : Bool → Nat → Addr → Prop) (H H' : Hp) : Prop where
  kp : ∀ a o, H a = some o → ¬ Own A a → H' a = some o
  kd : ∀ a, H a ≠ none → H' a ≠ none
  nw : ∀ b i a, A' b i a → Own A a ∨ H a = none
  th : ∀ b i a, A' b i a → H' a ≠ none
  dis : ∀ b i b' j a, A' b i a → A' b' j a → b = b' ∧ i = j
theorem Step.mv (s : Step C A A' H H') : Mv (YA C A) H (YA C A') H' := fun a o n q => by
  have n1 : ¬ Own A a := fun z => n (.inr z)
  refine ⟨fun z => ?_, s.kp a o q n1⟩
  rcases z with z | ⟨b, i, z⟩
  · exact n (.inl z)
  · rcases s.nw b i a z with z | z
    · exact n1 z
    · rw [z] at q; cases q
theorem SA.none0 (h : SA C A σ ρ T H) {p : Addr} (n : H p = none) : C.H0 p = none := by
  cases q : C.H0 p with
  | none => rfl
  | some o =>
    by_cases hm : C.M p
    · exact absurd n (h.dom p (C.hM p hm))
    · rw [h.fr p o hm q] at n; cases n
theorem SA.step {σ' : L2.St} {ρ' : Env} {T' : List (V × Slot)} (h : SA C A σ ρ T H) (s : Step C A A' H H') (hl : σ'.length = ρ'.length)
    (sl : ∀ i s, ρ'[i]? = some s → slotR C (YA C A') H' (A' true i) (σ'[i]?.getD none) s) (tm : ∀ i v s, T'[i]? = some (v, s) → slotR C (YA C A') H' (A' false i) (some v) s) : SA C A' σ' ρ' T' H' := by
  refine ⟨hl, fun a o n q => ?_, fun a q => s.kd a (h.dom a q), fun b i a q => ⟨s.th b i a q, ?_⟩, s.dis, sl, tm⟩
  · refine s.kp a o (h.fr a o n q) fun z => ?_
    obtain ⟨b, i, z⟩ := z
    rcases (h.ow b i a z).2 with z | z
    · rw [z] at q; cases q
    · exact n z
  · rcases s.nw b i a q with ⟨b', i', z⟩ | z
    · exact (h.ow b' i' a z).2
    · exact .inl (h.none0 z)
theorem ne_none {α : Type} {o : Option α} {x : α} (h : o = some x) : o ≠ none := by rw [h]; exact fun z => nomatch z
/-- a new object at p, owned by a new temporary -/
theorem SA.pushNew {p : Addr} {o : HO} {s : Slot} (h : SA C A σ ρ T H) (n : H p = none) (r : ∀ A', (∀ Y', Mv (YA C A) H Y' (upd H p o) → Y' = YA C A' → True) → Mv (YA C A) H (YA C A') (upd H p o) → A' false T.length p → C.H0 p = none → slotR C (YA C A') (upd H p o) (A' false T.length) (some (.ref p)) s) : S C σ ρ (T ++ [(.ref p, s)]) (upd H p o) := by
  let A' : Bool → Nat → Addr → Prop := fun b i a => (b = false ∧ i = T.length ∧ a = p) ∨ (¬ (b = false ∧ i = T.length) ∧ A b i a)
  have ne : ∀ b i a, A b i a → a ≠ p := fun b i a z e => (h.ow b i a z).1 (by rw [e]; exact n)
  have st : Step C A A' H (upd H p o) := by
    refine ⟨fun a u q _ => ext_new n a u q, fun a q => ?_, fun b i a z => ?_, fun b i a z => ?_, fun b i b' j a z z' => ?_⟩
    · by_cases e : a = p
      · rw [e, upd_same]; exact fun z => nomatch z
      · rw [upd_ne e]; exact q
    · rcases z with ⟨_, _, rfl⟩ | ⟨_, z⟩
      · exact .inr n
      · exact .inl ⟨b, i, z⟩
    · rcases z with ⟨_, _, rfl⟩ | ⟨_, z⟩
      · rw [upd_same]; exact fun z => nomatch z
      · rw [upd_ne (ne b i a z)]; exact (h.ow b i a z).1
    · rcases z with ⟨rfl, rfl, rfl⟩ | ⟨n1, z⟩
      · rcases z' with ⟨rfl, rfl, _⟩ | ⟨n1, z'⟩
        · exact ⟨rfl, rfl⟩
        · exact absurd rfl (ne _ _ _ z')
      · rcases z' with ⟨rfl, rfl, rfl⟩ | ⟨n2, z'⟩
        · exact absurd rfl (ne _ _ _ z)
        · exact h.dis _ _ _ _ _ z z'
  refine ⟨A', h.step st h.len (fun i s q => ?_) fun i v s q => ?_⟩
  · exact (h.sl i s q).mv st.mv fun a u z q => ⟨.inr ⟨fun z => (by cases z.1), z⟩, ext_new n a u q⟩
  · rcases getE_snoc q with q | ⟨e, q⟩
    · have hi : i < T.length := (List.getElem?_eq_some_iff.mp q).1
      exact (h.tm i v s q).mv st.mv fun a u z q => ⟨.inr ⟨fun z => (by have := z.2; omega), z⟩, ext_new n a u q⟩
    · cases q; subst e
      exact r A' (fun _ _ _ => True.intro) st.mv (.inl ⟨rfl, rfl, rfl⟩) (h.none0 n)
theorem SA.pushOwn {p : Addr} {vs : List V} {ds : List D} (h : SA C A σ ρ T H) (n : H p = none) (r : Reps C.K (YA C A) H vs ds) : S C σ ρ (T ++ [(.ref p, .own ds)]) (upd H p (.lst vs)) :=
  h.pushNew n fun A' _ m ha h0 => ⟨p, vs, rfl, ha, h0, upd_same, r.mv m⟩
/-- a new tuple -/
theorem SA.pushTup {p : Addr} {vs : List V} {ds : List D} (h : SA C A σ ρ T H) (n : H p = none) (r : Reps C.K (YA C A) H vs ds) : S C σ ρ (T ++ [(.ref p, .val (.tup ds))]) (upd H p (.tup vs)) := by
  have nY : ¬ YA C A p := fun z => by
    rcases z with z | ⟨b, i, z⟩
    · exact h.dom p z n
    · exact (h.ow b i p z).1 n
  exact ⟨A, (h.ext (ext_new n)).push (.tup (.inl ⟨nY, upd_same⟩) (r.mv fun a o q1 q2 => ⟨q1, ext_new n a o q2⟩))⟩
theorem SA.lastOwn {v : V} {ds : List D} (h : SA C A σ ρ (T ++ [(v, .own ds)]) H) : ∃ a vs, v = .ref a ∧ A false T.length a ∧ C.H0 a = none ∧ H a = some (.lst vs) ∧ Reps C.K (YA C A) H vs ds := by
  obtain ⟨a, vs, e, q⟩ := h.last
  exact ⟨a, vs, Option.some.inj e, q⟩
/-- ownership given up at an index -/
theorem Step.drop (h : SA C A σ ρ T H) (b0 : Bool) (i0 : Nat) : Step C A (fun b i a => ¬ (b = b0 ∧ i = i0) ∧ A b i a) H H :=
  ⟨fun _ _ q _ => q, fun _ q => q, fun b i _ z => .inl ⟨b, i, z.2⟩, fun b i a z => (h.ow b i a z.2).1, fun b i b' j a z z' => h.dis b i b' j a z.2 z'.2⟩
theorem slotR.frz {Y Y' : Addr → Prop} {A1 : Addr → Prop} {v : V} {ds : List D} (m : Mv Y H Y' H) (k : ∀ a, A1 a → C.H0 a = none → ¬ Y' a) (h : slotR C Y H A1 (some v) (.own ds)) : Rep C.K Y' H v (.lst ds) := by
  obtain ⟨a, vs, e, ha, h0, h1, r⟩ := h
  cases e
  exact .lst ⟨k a ha h0, h1⟩ (r.mv m)
theorem SA.notY (h : SA C A σ ρ T H) (b0 : Bool) (i0 : Nat) (a : Addr) (ha : A b0 i0 a) (h0 : C.H0 a = none) : ¬ YA C (fun b i a => ¬ (b = b0 ∧ i = i0) ∧ A b i a) a := fun z => by
  rcases z with z | ⟨b, i, n, z⟩
  · exact C.hX a z h0
  · exact n (h.dis _ _ _ _ _ z ha)
/-- the last temporary is frozen -/
theorem S.frz {v : V} {ds : List D} (h : S C σ ρ (T ++ [(v, .own ds)]) H) : S C σ ρ (T ++ [(v, .val (.lst ds))]) H := by
  obtain ⟨A, h⟩ := h
  have st := Step.drop h false T.length
  refine ⟨_, h.step st h.len (fun i s q => (h.sl i s q).mv st.mv fun a u z q => ⟨⟨fun e => (by cases e.1), z⟩, q⟩) fun i w s q => ?_⟩
  rcases getE_snoc q with q | ⟨e, q⟩
  · have hi : i < T.length := (List.getElem?_eq_some_iff.mp q).1
    exact (h.tm i w s (by rw [List.getElem?_append_left hi]; exact q)).mv st.mv fun a u z q => ⟨⟨fun e => (by have := e.2; omega), z⟩, q⟩
  · cases q; subst e
    exact ⟨v, rfl, h.last.frz st.mv fun a ha h0 => h.notY _ _ a ha h0⟩
/-- a slot is frozen -/
theorem S.frzAt {i0 : Nat} {ds : List D} (h : S C σ ρ T H) (hi : ρ[i0]? = some (.own ds)) : S C σ (ρ.set i0 (.val (.lst ds))) T H := by
  obtain ⟨A, h⟩ := h
  have st := Step.drop h true i0
  have hl : i0 < ρ.length := (List.getElem?_eq_some_iff.mp hi).1
  refine ⟨_, h.step st (by rw [List.length_set]; exact h.len) (fun i s q => ?_) fun i w s q => (h.tm i w s q).mv st.mv fun a u z q => ⟨⟨fun e => (by cases e.1), z⟩, q⟩⟩
  by_cases e : i0 = i
  · subst e
    rw [List.getElem?_set_self hl] at q
    cases q
    have q := h.sl _ _ hi
    obtain ⟨a, vs, e, _⟩ := id q
    rw [e] at q ⊢
    exact ⟨_, rfl, q.frz st.mv fun a ha h0 => h.notY _ _ a ha h0⟩
  · rw [List.getElem?_set_ne e] at q
    exact (h.sl i s q).mv st.mv fun a u z q => ⟨⟨fun e' => e e'.2.symm, z⟩, q⟩
/-- a slot is forgotten -/
theorem S.forget (i0 : Nat) (x : Option V) (h : S C σ ρ T H) : S C (σ.set i0 x) (ρ.set i0 .no) T H := by
  obtain ⟨A, h⟩ := h
  refine ⟨A, by rw [List.length_set, List.length_set]; exact h.len, h.fr, h.dom, h.ow, h.dis, fun i s q => ?_, h.tm⟩
  by_cases e : i0 = i
  · subst e
    by_cases hl : i0 < ρ.length
    · rw [List.getElem?_set_self hl] at q; cases q; exact True.intro
    · rw [List.getElem?_eq_none (by rw [List.length_set]; omega)] at q; cases q
  · rw [List.getElem?_set_ne e] at q ⊢
    exact h.sl i s q
/-- the last temporary goes to a slot -/
theorem S.asg {i0 : Nat} {v : V} {s0 : Slot} (h : S C σ ρ (T ++ [(v, s0)]) H) (hl : i0 < ρ.length) : S C (σ.set i0 (some v)) (ρ.set i0 s0) T H := by
  obtain ⟨A, h⟩ := h
  let A' : Bool → Nat → Addr → Prop := fun b i a => (b = true ∧ i = i0 ∧ A false T.length a) ∨ (¬ (b = true ∧ i = i0) ∧ ¬ (b = false ∧ i = T.length) ∧ A b i a)
  have st : Step C A A' H H := by
    refine ⟨fun _ _ q _ => q, fun _ q => q, fun b i a z => ?_, fun b i a z => ?_, fun b i b' j a z z' => ?_⟩
    · rcases z with ⟨_, _, z⟩ | ⟨_, _, z⟩
      · exact .inl ⟨_, _, z⟩
      · exact .inl ⟨_, _, z⟩
    · rcases z with ⟨_, _, z⟩ | ⟨_, _, z⟩
      · exact (h.ow _ _ _ z).1
      · exact (h.ow _ _ _ z).1
    · rcases z with ⟨rfl, rfl, z⟩ | ⟨n1, n2, z⟩
      · rcases z' with ⟨rfl, rfl, _⟩ | ⟨n3, n4, z'⟩
        · exact ⟨rfl, rfl⟩
        · obtain ⟨e1, e2⟩ := h.dis _ _ _ _ _ z z'
          exact absurd ⟨e1.symm, e2.symm⟩ n4
      · rcases z' with ⟨rfl, rfl, z'⟩ | ⟨n3, n4, z'⟩
        · exact absurd (h.dis _ _ _ _ _ z z') n2
        · exact h.dis _ _ _ _ _ z z'
  have hs : i0 < σ.length := by rw [h.len]; exact hl
  refine ⟨A', h.step st (by rw [List.length_set, List.length_set]; exact h.len) (fun i s q => ?_) fun i w s q => ?_⟩
  · by_cases e : i0 = i
    · subst e
      rw [List.getElem?_set_self hl] at q
      rw [List.getElem?_set_self hs]
      cases q
      exact h.last.mv st.mv fun a u z q => ⟨.inl ⟨rfl, rfl, z⟩, q⟩
    · rw [List.getElem?_set_ne e] at q ⊢
      exact (h.sl i s q).mv st.mv fun a u z q => ⟨.inr ⟨fun z => e z.2.symm, fun z => (by cases z.1), z⟩, q⟩
  · have hi : i < T.length := (List.getElem?_eq_some_iff.mp q).1
    exact (h.tm i w s (by rw [List.getElem?_append_left hi]; exact q)).mv st.mv fun a u z q => ⟨.inr ⟨fun z => (by cases z.1), fun z => (by have := z.2; omega), z⟩, q⟩
/-- an owned object changes: at a slot -/
theorem SA.mutS {i0 : Nat} {a : Addr} {o : HO} {s0 : Slot} (h : SA C A σ ρ T H) (ha : A true i0 a) (hs : slotR C (YA C A) (upd H a o) (A true i0) (σ[i0]?.getD none) s0) : SA C A σ (ρ.set i0 s0) T (upd H a o) := by
  have ne : ∀ b i c, A b i c → ¬ (b = true ∧ i = i0) → c ≠ a := fun b i c z n e => n (h.dis _ _ _ _ _ (by rw [e] at z; exact z) ha)
  have st : Step C A A H (upd H a o) := by
    refine ⟨fun c u q n => ?_, fun c q => ?_, fun b i c z => .inl ⟨_, _, z⟩, fun b i c z => ?_, h.dis⟩
    · rw [upd_ne (fun e => n ⟨_, _, (by rw [e]; exact ha)⟩)]; exact q
    · by_cases e : c = a
      · rw [e, upd_same]; exact fun z => nomatch z
      · rw [upd_ne e]; exact q
    · by_cases e : c = a
      · rw [e, upd_same]; exact fun z => nomatch z
      · rw [upd_ne e]; exact (h.ow _ _ _ z).1
  refine h.step st (by rw [List.length_set]; exact h.len) (fun i s q => ?_) fun i w s q => ?_
  · by_cases e : i0 = i
    · subst e
      by_cases hl : i0 < ρ.length
      · rw [List.getElem?_set_self hl] at q; cases q; exact hs
      · rw [List.getElem?_eq_none (by rw [List.length_set]; omega)] at q; cases q
    · rw [List.getElem?_set_ne e] at q
      exact (h.sl i s q).mv st.mv fun c u z q => ⟨z, by rw [upd_ne (ne _ _ _ z fun z => e z.2.symm)]; exact q⟩
  · exact (h.tm i w s q).mv st.mv fun c u z q => ⟨z, by rw [upd_ne (ne _ _ _ z fun z => (by cases z.1))]; exact q⟩
/-- at a temporary with others behind it, which are dropped -/
theorem SA.mutT {a : Addr} {v : V} {o : HO} {s0 s1 : Slot} {X : List (V × Slot)} (h : SA C A σ ρ (T ++ [(v, s1)] ++ X) H) (ha : A false T.length a) (hs : slotR C (YA C A) (upd H a o) (A false T.length) (some v) s0) : SA C A σ ρ (T ++ [(v, s0)]) (upd H a o) := by
  have ne : ∀ b i c, A b i c → ¬ (b = false ∧ i = T.length) → c ≠ a := fun b i c z n e => n (h.dis _ _ _ _ _ (by rw [e] at z; exact z) ha)
  have st : Step C A A H (upd H a o) := by
    refine ⟨fun c u q n => ?_, fun c q => ?_, fun b i c z => .inl ⟨_, _, z⟩, fun b i c z => ?_, h.dis⟩
    · rw [upd_ne (fun e => n ⟨_, _, (by rw [e]; exact ha)⟩)]; exact q
    · by_cases e : c = a
      · rw [e, upd_same]; exact fun z => nomatch z
      · rw [upd_ne e]; exact q
    · by_cases e : c = a
      · rw [e, upd_same]; exact fun z => nomatch z
      · rw [upd_ne e]; exact (h.ow _ _ _ z).1
  refine h.step st h.len (fun i s q => ?_) fun i w s q => ?_
  · exact (h.sl i s q).mv st.mv fun c u z q => ⟨z, by rw [upd_ne (ne _ _ _ z fun z => (by cases z.1))]; exact q⟩
  · rcases getE_snoc q with q | ⟨e, q⟩
    · have hi : i < T.length := (List.getElem?_eq_some_iff.mp q).1
      exact (h.tm i w s (by rw [List.append_assoc, List.getElem?_append_left hi]; exact q)).mv st.mv fun c u z q => ⟨z, by rw [upd_ne (ne _ _ _ z fun z => (by have := z.2; omega))]; exact q⟩
    · cases q; subst e; exact hs
/-- what an update of an owned object leaves of data -/
theorem SA.mvOwn {b0 : Bool} {i0 : Nat} {a : Addr} {o : HO} (ha : A b0 i0 a) : Mv (YA C A) H (YA C A) (upd H a o) := fun c u n q => ⟨n, by
  rw [upd_ne (fun e => n (.inr ⟨_, _, (by rw [e]; exact ha)⟩))]; exact q⟩
theorem S.ownS {i0 : Nat} {ds : List D} (h : S C σ ρ T H) (hi : ρ[i0]? = some (.own ds)) : ∃ a vs, σ[i0]? = some (some (.ref a)) ∧ H a = some (.lst vs) ∧ vs.length = ds.length := by
  obtain ⟨A, h⟩ := h
  obtain ⟨a, vs, e, ha, h0, h1, r⟩ := h.sl _ _ hi
  refine ⟨a, vs, ?_, h1, r.len⟩
  cases q : σ[i0]? with
  | none => rw [q] at e; cases e
  | some o => rw [q] at e; exact congrArg some e
end
end Lw

namespace Lw
open PySem PySem.Spec PyProof.Rows L2

theorem ltn {i n m : Nat} (h : i < n) (e : n = m) : i < m := e ▸ h
/-! ### judgements -/
def EvE (K : PySem.W.Frag) (te : TE) (ρ : Env) (s : Slot) (ρ' : Env) : Prop := ∀ (C : Ctx) (σ : L2.St) (T : List (V × Slot)) (H : Hp) (Q : VK), C.K = K → S C σ ρ T H → (∀ v H', S C σ ρ' (T ++ [(v, s)]) H' → Q v H') → te σ H Q
def EvT (K : PySem.W.Frag) (tt : TT) (ρ : Env) (b : Bool) (ρ' : Env) : Prop := ∀ (C : Ctx) (σ : L2.St) (T : List (V × Slot)) (H : Hp) (Q : Bool → Hp → Prop), C.K = K → S C σ ρ T H → (∀ H', S C σ ρ' T H' → Q b H') → tt σ H Q
def EvA (K : PySem.W.Frag) (ta : TA) (ρ : Env) (ss : List Slot) (ρ' : Env) : Prop := ∀ (C : Ctx) (σ : L2.St) (T : List (V × Slot)) (H : Hp) (Q : List V → Hp → Prop), C.K = K → S C σ ρ T H → (∀ vs H', vs.length = ss.length → S C σ ρ' (T ++ vs.zip ss) H' → Q vs H') → ta σ H Q
structure Post where
  nx : Env → Prop
  rt : Slot → Env → Prop
  bk : Env → Prop := fun _ => False
  ct : Env → Prop := fun _ => False
def Wp (K : PySem.W.Frag) (ts : TS) (ρ : Env) (P : Post) : Prop := ∀ (C : Ctx) (σ : L2.St) (T : List (V × Slot)) (H : Hp) (D : Ends), C.K = K → S C σ ρ T H →
  (∀ σ' ρ' H', P.nx ρ' → S C σ' ρ' T H' → D.nx σ' H') → (∀ v s σ' ρ' H', P.rt s ρ' → S C σ' ρ' (T ++ [(v, s)]) H' → D.rt v H') →
  (∀ σ' ρ' H', P.bk ρ' → S C σ' ρ' T H' → D.bk σ' H') → (∀ σ' ρ' H', P.ct ρ' → S C σ' ρ' T H' → D.ct σ' H') → ts D σ H
/-- what a walk gives: the data ds, while the temporaries X stand -/
def IterOk (C : Ctx) (J : It) (ds : List D) (T X : List (V × Slot)) : Prop := ∀ σ2 ρ2 T2 H2, S C σ2 ρ2 (T ++ X ++ T2) H2 →
  (∀ i d, ds[i]? = some d → J.go i H2 ∧ ∀ x H', J.yld i H2 x H' → S C σ2 ρ2 (T ++ X ++ T2 ++ [(x, .val d)]) H') ∧ J.stop ds.length H2
def EvI (K : PySem.W.Frag) (wi : TI) (ρ : Env) (ds : List D) (ρ' : Env) : Prop := ∀ (C : Ctx) (σ : L2.St) (T : List (V × Slot)) (H : Hp) (R : It → Hp → Prop), C.K = K → S C σ ρ T H →
  (∀ J X H1, S C σ ρ' (T ++ X) H1 → IterOk C J ds T X → R J H1) → wi σ H R
def EvG (K : PySem.W.Frag) (g : TG) (js : List Nat) (d : D) (ρ ρ' : Env) : Prop := ∀ (C : Ctx) (σ : L2.St) (T : List (V × Slot)) (H : Hp) (x : V) (Q : L2.St → Hp → Prop), C.K = K → S C σ ρ (T ++ [(x, .val d)]) H →
  (∀ σ' H', (∀ vs : List Nat, (∀ j ∈ js, j ∈ vs) → wipe σ' vs = wipe σ vs) → S C σ' ρ' T H' → Q σ' H') → g x σ H Q
def EvGs (K : PySem.W.Frag) (g : TGs) (js : List Nat) (ds : List D) (ρ ρ' : Env) : Prop := ∀ (C : Ctx) (σ : L2.St) (T : List (V × Slot)) (H : Hp) (xs : List V) (Q : L2.St → Hp → Prop), C.K = K → xs.length = ds.length → S C σ ρ (T ++ xs.zip (ds.map .val)) H →
  (∀ σ' H', (∀ vs : List Nat, (∀ j ∈ js, j ∈ vs) → wipe σ' vs = wipe σ vs) → S C σ' ρ' T H' → Q σ' H') → g xs σ H Q

section
variable {K : PySem.W.Frag} {te ta tb tc : TE} {tt tu : TT} {tA : TA} {ρ ρ' ρ1 ρ2 ρ3 : Env} {s s1 s2 : Slot} {d e : D} {ds es : List D}

/-! ### names and constants -/
theorem ev_var {i : Nat} (h : ρ[i]? = some (.val d)) : EvE K (tVar i) ρ (.val d) ρ := by
  intro C σ T H Q hK hs q
  obtain ⟨A, sa⟩ := hs
  obtain ⟨v, e, r⟩ := sa.sl _ _ h
  refine ⟨v, ?_, q v H ⟨A, sa.push r⟩⟩
  cases g : σ[i]? with
  | none => rw [g] at e; cases e
  | some o => rw [g] at e; exact congrArg some e
theorem ev_varF {i : Nat} (h : ρ[i]? = some (.own ds)) : EvE K (tVar i) ρ (.val (.lst ds)) (ρ.set i (.val (.lst ds))) := by
  intro C σ T H Q hK hs q
  have hi : i < ρ.length := (List.getElem?_eq_some_iff.mp h).1
  exact ev_var (K := K) (ρ := ρ.set i (.val (.lst ds))) (List.getElem?_set_self hi) C σ T H Q hK (hs.frzAt h) q
theorem ev_int {i : Int} : EvE K (tC (.int i)) ρ (.val (.int i)) ρ := fun C σ T H Q hK hs q => q _ _ (hs.int i)
theorem ev_str {i : Str} : EvE K (tC (.str i)) ρ (.val (.str i)) ρ := fun C σ T H Q hK hs q => q _ _ (hs.str i)
theorem ev_bl {i : Bool} : EvE K (tC (.bl i)) ρ (.val (.bl i)) ρ := fun C σ T H Q hK hs q => q _ _ (hs.bl i)
theorem ev_non : EvE K (tC .non) ρ (.val .non) ρ := fun C σ T H Q hK hs q => q _ _ hs.non
theorem ev_frz (h : EvE K te ρ (.own ds) ρ') : EvE K te ρ (.val (.lst ds)) ρ' := fun C σ T H Q hK hs q => h C σ T H Q hK hs fun v H' hs' => q v H' hs'.frz
theorem ev_is {s' : Slot} (h : EvE K te ρ s ρ') (e : s = s') : EvE K te ρ s' ρ' := e ▸ h

/-! ### numbers -/
theorem ev_op0 {f : Int → Int → Int} {i j : Int} (ha : EvE K ta ρ (.val (.int i)) ρ1) (hb : EvE K tb ρ1 (.val (.int j)) ρ2) : EvE K (tOp (rI0 fun i j => .int (f i j)) ta tb) ρ (.val (.int (f i j))) ρ2 := by
  intro C σ T H Q hK hs q
  refine ha C σ T H _ hK hs fun v H1 h1 => hb C σ _ H1 _ hK h1 fun w H2 h2 => ?_
  obtain ⟨A, sa⟩ := h2
  exact ⟨i, j, sa.last2V.int_inv, sa.lastV.int_inv, q _ _ (S.int ⟨A, sa.pop.pop⟩ _)⟩
theorem ev_op0B {f : Int → Int → Bool} {i j : Int} (ha : EvE K ta ρ (.val (.int i)) ρ1) (hb : EvE K tb ρ1 (.val (.int j)) ρ2) : EvE K (tOp (rI0 fun i j => .bl (f i j)) ta tb) ρ (.val (.bl (f i j))) ρ2 := by
  intro C σ T H Q hK hs q
  refine ha C σ T H _ hK hs fun v H1 h1 => hb C σ _ H1 _ hK h1 fun w H2 h2 => ?_
  obtain ⟨A, sa⟩ := h2
  exact ⟨i, j, sa.last2V.int_inv, sa.lastV.int_inv, q _ _ (S.bl ⟨A, sa.pop.pop⟩ _)⟩
theorem ev_opC {Cd : Int → Int → Prop} {f : Int → Int → Int} {i j : Int} (ha : EvE K ta ρ (.val (.int i)) ρ1) (hb : EvE K tb ρ1 (.val (.int j)) ρ2) (hc : Cd i j) : EvE K (tOp (rI Cd fun i j => .int (f i j)) ta tb) ρ (.val (.int (f i j))) ρ2 := by
  intro C σ T H Q hK hs q
  refine ha C σ T H _ hK hs fun v H1 h1 => hb C σ _ H1 _ hK h1 fun w H2 h2 => ?_
  obtain ⟨A, sa⟩ := h2
  exact ⟨i, j, sa.last2V.int_inv, sa.lastV.int_inv, hc, q _ _ (S.int ⟨A, sa.pop.pop⟩ _)⟩
theorem ev_un {f : Int → Int} {i : Int} (ha : EvE K ta ρ (.val (.int i)) ρ1) : EvE K (tUn (rU fun i => .int (f i)) ta) ρ (.val (.int (f i))) ρ1 := by
  intro C σ T H Q hK hs q
  refine ha C σ T H _ hK hs fun v H1 h1 => ?_
  obtain ⟨A, sa⟩ := h1
  exact ⟨i, sa.lastV.int_inv, q _ _ (S.int ⟨A, sa.pop⟩ _)⟩
theorem dec_vi (i j : Int) : decide (V.int i = V.int j) = decide (i = j) := by
  by_cases h : i = j
  · rw [h, decide_eq_true rfl, decide_eq_true rfl]
  · rw [decide_eq_false h, decide_eq_false (fun z => h (V.int.inj z))]
theorem ev_eqI {i j : Int} (ha : EvE K ta ρ (.val (.int i)) ρ1) (hb : EvE K tb ρ1 (.val (.int j)) ρ2) : EvE K (tOp rEq ta tb) ρ (.val (.bl (decide (i = j)))) ρ2 := by
  intro C σ T H Q hK hs q
  refine ha C σ T H _ hK hs fun v H1 h1 => hb C σ _ H1 _ hK h1 fun w H2 h2 => ?_
  obtain ⟨A, sa⟩ := h2
  rw [sa.last2V.int_inv, sa.lastV.int_inv]
  refine ⟨rfl, ?_⟩
  rw [dec_vi]
  exact q _ _ (S.bl ⟨A, sa.pop.pop⟩ _)
theorem ev_neI {i j : Int} (ha : EvE K ta ρ (.val (.int i)) ρ1) (hb : EvE K tb ρ1 (.val (.int j)) ρ2) : EvE K (tOp rNe ta tb) ρ (.val (.bl (!decide (i = j)))) ρ2 := by
  intro C σ T H Q hK hs q
  refine ha C σ T H _ hK hs fun v H1 h1 => hb C σ _ H1 _ hK h1 fun w H2 h2 => ?_
  obtain ⟨A, sa⟩ := h2
  rw [sa.last2V.int_inv, sa.lastV.int_inv]
  refine ⟨rfl, ?_⟩
  rw [dec_vi]
  exact q _ _ (S.bl ⟨A, sa.pop.pop⟩ _)

/-! ### tests -/
theorem et_test {b : Bool} (h : EvE K te ρ (.val (.bl b)) ρ1) : EvT K (tTest te) ρ b ρ1 := fun C σ T H Q hK hs q => h C σ T H _ hK hs fun v H1 h1 => by
  obtain ⟨A, sa⟩ := h1
  exact ⟨b, sa.lastV.bl_inv, q _ ⟨A, sa.pop⟩⟩
theorem et_B {b : Bool} (h : EvE K te ρ (.val (.bl b)) ρ1) : EvT K (tB te) ρ b ρ1 := fun C σ T H Q hK hs q => h C σ T H _ hK hs fun v H1 h1 => by
  obtain ⟨A, sa⟩ := h1
  exact ⟨b, sa.lastV.bl_inv, q _ ⟨A, sa.pop⟩⟩
theorem et_and {a b : Bool} (h1 : EvT K tt ρ a ρ1) (h2 : a = true → EvT K tu ρ1 b ρ2) (h3 : a = false → ρ1 = ρ2) : EvT K (tAnd tt tu) ρ (a && b) ρ2 := fun C σ T H Q hK hs q => h1 C σ T H _ hK hs fun H1 hs1 => by
  cases a with
  | true => exact (if_pos rfl : _ = _) ▸ h2 rfl C σ T H1 Q hK hs1 q
  | false => rw [if_neg Bool.false_ne_true]; exact q H1 (h3 rfl ▸ hs1)
theorem et_or {a b : Bool} (h1 : EvT K tt ρ a ρ1) (h2 : a = false → EvT K tu ρ1 b ρ2) (h3 : a = true → ρ1 = ρ2) : EvT K (tOr tt tu) ρ (a || b) ρ2 := fun C σ T H Q hK hs q => h1 C σ T H _ hK hs fun H1 hs1 => by
  cases a with
  | true => rw [if_pos rfl]; exact q H1 (h3 rfl ▸ hs1)
  | false => rw [if_neg Bool.false_ne_true]; exact h2 rfl C σ T H1 Q hK hs1 q
theorem et_not {a : Bool} (h1 : EvT K tt ρ a ρ1) : EvT K (tNot tt) ρ (!a) ρ1 := fun C σ T H Q hK hs q => h1 C σ T H _ hK hs fun H1 hs1 => q H1 hs1
theorem et_is {a b : Bool} (h : EvT K tt ρ a ρ1) (e : a = b) : EvT K tt ρ b ρ1 := e ▸ h
theorem et_yes : EvT K tYes ρ true ρ := fun C σ T H Q hK hs q => q H hs
theorem ev_if {b : Bool} (h : EvT K tt ρ b ρ1) (h1 : b = true → EvE K ta ρ1 s ρ2) (h2 : b = false → EvE K tb ρ1 s ρ2) : EvE K (tIf tt ta tb) ρ s ρ2 := fun C σ T H Q hK hs q => h C σ T H _ hK hs fun H1 hs1 => by
  cases b with
  | true => rw [if_pos rfl]; exact h1 rfl C σ T H1 Q hK hs1 q
  | false => rw [if_neg Bool.false_ne_true]; exact h2 rfl C σ T H1 Q hK hs1 q

/-! ### arguments, displays -/
theorem ea_nil : EvA K tNil ρ [] ρ := fun C σ T H Q hK hs q => q [] H rfl (by rw [List.zip_nil_left, List.append_nil]; exact hs)
theorem ea_cons {ss : List Slot} (h : EvE K te ρ s ρ1) (hr : EvA K tA ρ1 ss ρ2) : EvA K (tCons te tA) ρ (s :: ss) ρ2 := fun C σ T H Q hK hs q => h C σ T H _ hK hs fun v H1 h1 => hr C σ _ H1 _ hK h1 fun vs H2 hl h2 =>
  q (v :: vs) H2 (congrArg (· + 1) hl) (by rw [List.zip_cons_cons, List.append_cons]; exact h2)
theorem SA.reps {C : Ctx} {A : Bool → Nat → Addr → Prop} {σ : L2.St} {H : Hp} : ∀ {vs : List V} {ds : List D} {T : List (V × Slot)}, SA C A σ ρ (T ++ vs.zip (ds.map .val)) H → vs.length = ds.length → Reps C.K (YA C A) H vs ds
  | [], [], _, _, _ => .nil
  | [], _ :: _, _, _, e => by cases e
  | _ :: _, [], _, _, e => by cases e
  | v :: vs, d :: ds, T, h, e => by
    rw [List.map_cons, List.zip_cons_cons, List.append_cons] at h
    have h1 : SA C A σ ρ (T ++ [(v, .val d)]) H := ⟨h.len, h.fr, h.dom, h.ow, h.dis, h.sl, fun i v s q => h.tm i v s (by
      have hi := (List.getElem?_eq_some_iff.mp q).1
      rw [List.getElem?_append_left hi]; exact q)⟩
    exact .cons h1.lastV (h.reps (Nat.succ.inj e))
theorem SA.popL {C : Ctx} {A : Bool → Nat → Addr → Prop} {σ : L2.St} {H : Hp} {T X : List (V × Slot)} (h : SA C A σ ρ (T ++ X) H) : SA C A σ ρ T H :=
  ⟨h.len, h.fr, h.dom, h.ow, h.dis, h.sl, fun i v s q => h.tm i v s (by
    have hi : i < T.length := (List.getElem?_eq_some_iff.mp q).1
    rw [List.getElem?_append_left hi]; exact q)⟩
theorem ev_tup (h : EvA K tA ρ (ds.map .val) ρ') (hz : ds.length ≤ sizeLine) : EvE K (tTup tA) ρ (.val (.tup ds)) ρ' := fun C σ T H Q hK hs q => h C σ T H _ hK hs fun vs H1 hl h1 => by
  obtain ⟨A, sa⟩ := h1
  rw [List.length_map] at hl
  exact ⟨by rw [hl]; exact hz, fun p hp => q _ _ (sa.popL.pushTup hp (sa.reps hl))⟩
theorem ev_lst (h : EvA K tA ρ (ds.map .val) ρ') (hz : ds.length ≤ sizeLine) : EvE K (tLst tA) ρ (.own ds) ρ' := fun C σ T H Q hK hs q => h C σ T H _ hK hs fun vs H1 hl h1 => by
  obtain ⟨A, sa⟩ := h1
  rw [List.length_map] at hl
  exact ⟨by rw [hl]; exact hz, fun p hp => q _ _ (sa.popL.pushOwn hp (sa.reps hl))⟩

/-! ### items, lengths -/
theorem atI_some {α : Type} {xs : List α} {i : Int} {x : α} (h : atI xs i = some x) : ∃ j, ixN xs.length i = some j ∧ xs[j]? = some x := by
  unfold atI at h
  cases q : ixN xs.length i with
  | none => rw [q] at h; cases h
  | some j => rw [q] at h; exact ⟨j, rfl, h⟩
theorem Reps.at {Y : Addr → Prop} {H : Hp} {vs : List V} {i : Int} (h : Reps K Y H vs ds) (a : atI ds i = some d) : ∃ v, atI vs i = some v ∧ Rep K Y H v d := by
  obtain ⟨j, h1, h2⟩ := atI_some a
  obtain ⟨v, h3, h4⟩ := h.get h2
  refine ⟨v, ?_, h4⟩
  unfold atI
  rw [h.len, h1]
  exact h3
theorem ev_ixL {i : Int} (ha : EvE K ta ρ (.val (.lst ds)) ρ1) (hb : EvE K tb ρ1 (.val (.int i)) ρ2) (hd : atI ds i = some d) : EvE K (tOp (rIxL K) ta tb) ρ (.val d) ρ2 := by
  intro C σ T H Q hK hs q
  subst hK
  refine ha C σ T H _ rfl hs fun v H1 h1 => hb C σ _ H1 _ rfl h1 fun w H2 h2 => ?_
  obtain ⟨A, sa⟩ := h2
  obtain ⟨a, xs, rfl, at1, r⟩ := sa.last2V.lst_inv
  obtain ⟨v, h3, h4⟩ := r.at hd
  exact ⟨a, xs, i, v, rfl, sa.lastV.int_inv, at1.sq, h3, q _ _ ⟨A, sa.pop.pop.push h4⟩⟩
theorem ev_ixT {i : Int} (ha : EvE K ta ρ (.val (.tup ds)) ρ1) (hb : EvE K tb ρ1 (.val (.int i)) ρ2) (hd : atI ds i = some d) : EvE K (tOp (rIxT K) ta tb) ρ (.val d) ρ2 := by
  intro C σ T H Q hK hs q
  subst hK
  refine ha C σ T H _ rfl hs fun v H1 h1 => hb C σ _ H1 _ rfl h1 fun w H2 h2 => ?_
  obtain ⟨A, sa⟩ := h2
  obtain ⟨a, xs, rfl, at1, r⟩ := sa.last2V.tup_inv
  obtain ⟨v, h3, h4⟩ := r.at hd
  exact ⟨a, xs, i, v, rfl, sa.lastV.int_inv, at1.sq, h3, q _ _ ⟨A, sa.pop.pop.push h4⟩⟩
/-- of an owned list, which stays owned -/
theorem ev_ixO {i : Int} {k : Nat} (h0 : ρ[k]? = some (.own ds)) (hb : EvE K tb ρ (.val (.int i)) ρ1) (h1 : ρ1[k]? = some (.own ds)) (hd : atI ds i = some d) : EvE K (tOp (rIxL K) (tVar k) tb) ρ (.val d) ρ1 := by
  intro C σ T H Q hK hs q
  subst hK
  obtain ⟨a, vs, hv, _, _⟩ := hs.ownS h0
  refine ⟨.ref a, hv, hb C σ _ H _ rfl hs fun w H2 h2 => ?_⟩
  obtain ⟨A, sa⟩ := h2
  obtain ⟨a', vs', e, ha, hz, hl, r⟩ := sa.sl _ _ h1
  rw [hv] at e
  cases e
  obtain ⟨v, h3, h4⟩ := r.at hd
  exact ⟨a, vs', i, v, rfl, sa.lastV.int_inv, SqL.of hl, h3, q _ _ ⟨A, sa.pop.push h4⟩⟩
def rLenS (K : PySem.W.Frag) : List V → Hp → VK → Prop := fun xs H Q => ∃ p ys, xs = [.ref p] ∧ (SqL K H p ys ∨ SqT K H p ys) ∧ Q (.int ys.length) H
theorem ev_lenL (ha : EvE K ta ρ (.val (.lst ds)) ρ1) : EvE K (tCB (rLenS K) (tCons ta tNil)) ρ (.val (.int ds.length)) ρ1 := by
  intro C σ T H Q hK hs q
  subst hK
  refine ha C σ T H _ rfl hs fun v H1 h1 => ?_
  obtain ⟨A, sa⟩ := h1
  obtain ⟨a, xs, rfl, at1, r⟩ := sa.lastV.lst_inv
  refine ⟨a, xs, rfl, .inl at1.sq, ?_⟩
  rw [r.len]
  exact q _ _ (S.int ⟨A, sa.pop⟩ _)
theorem ev_lenT (ha : EvE K ta ρ (.val (.tup ds)) ρ1) : EvE K (tCB (rLenS K) (tCons ta tNil)) ρ (.val (.int ds.length)) ρ1 := by
  intro C σ T H Q hK hs q
  subst hK
  refine ha C σ T H _ rfl hs fun v H1 h1 => ?_
  obtain ⟨A, sa⟩ := h1
  obtain ⟨a, xs, rfl, at1, r⟩ := sa.lastV.tup_inv
  refine ⟨a, xs, rfl, .inr at1.sq, ?_⟩
  rw [r.len]
  exact q _ _ (S.int ⟨A, sa.pop⟩ _)
theorem ev_lenO {k : Nat} (h0 : ρ[k]? = some (.own ds)) : EvE K (tCB (rLenS K) (tCons (tVar k) tNil)) ρ (.val (.int ds.length)) ρ := by
  intro C σ T H Q hK hs q
  subst hK
  obtain ⟨a, vs, hv, hl, hn⟩ := hs.ownS h0
  refine ⟨.ref a, hv, a, vs, rfl, .inl (SqL.of hl), ?_⟩
  rw [hn]
  exact q _ _ (hs.int _)
/-- a new list, owned -/
theorem ev_lenN (ha : EvE K ta ρ (.own ds) ρ1) : EvE K (tCB (rLenS K) (tCons ta tNil)) ρ (.val (.int ds.length)) ρ1 := ev_lenL (ev_frz ha)

/-! ### targets -/
theorem wipe_get {σ : L2.St} {i : Nat} : ∀ {vs : List Nat}, (wipe σ vs)[i]? = if i ∈ vs ∧ i < σ.length then some none else σ[i]?
  | [] => by simp [wipe]
  | v :: vs => by
    unfold wipe
    by_cases e : v = i
    · subst e
      by_cases hl : v < σ.length
      · rw [List.getElem?_set_self (by rw [wipe_length]; exact hl), if_pos ⟨List.mem_cons_self, hl⟩]
      · rw [List.getElem?_eq_none (by rw [List.length_set, wipe_length]; omega), if_neg (fun z => hl z.2), List.getElem?_eq_none (by omega)]
    · rw [List.getElem?_set_ne e, wipe_get]
      by_cases h : i ∈ vs ∧ i < σ.length
      · rw [if_pos h, if_pos ⟨List.mem_cons_of_mem _ h.1, h.2⟩]
      · rw [if_neg h, if_neg (fun z => h ⟨(List.mem_cons.mp z.1).resolve_left (fun q => e q.symm), z.2⟩)]
theorem wipe_set {σ : L2.St} {i : Nat} {x : Option V} {vs : List Nat} (h : i ∈ vs) : wipe (σ.set i x) vs = wipe σ vs := by
  apply List.ext_getElem?
  intro k
  rw [wipe_get, wipe_get, List.length_set]
  by_cases hk : k ∈ vs ∧ k < σ.length
  · rw [if_pos hk, if_pos hk]
  · rw [if_neg hk, if_neg hk]
    by_cases e : i = k
    · subst e
      have : ¬ i < σ.length := fun z => hk ⟨h, z⟩
      rw [List.getElem?_eq_none (by rw [List.length_set]; omega), List.getElem?_eq_none (by omega)]
    · rw [List.getElem?_set_ne e]
theorem wipe_wipe {σ : L2.St} {vs : List Nat} : wipe (wipe σ vs) vs = wipe σ vs := by
  apply List.ext_getElem?
  intro k
  rw [wipe_get, wipe_length, wipe_get]
  by_cases hk : k ∈ vs ∧ k < σ.length
  · rw [if_pos hk, if_pos hk]
  · rw [if_neg hk]
theorem eg_name {j : Nat} (hj : j < ρ.length) : EvG K (gName j) [j] d ρ (ρ.set j (.val d)) := fun C σ T H x Q hK hs q =>
  q _ _ (fun vs h => wipe_set (h j (List.mem_singleton.mpr rfl))) (hs.asg hj)
theorem egs_nil : EvGs K gNil [] [] ρ ρ := fun C σ T H xs Q hK hl hs q => ⟨List.length_eq_zero_iff.mp hl, q σ H (fun _ _ => rfl) (by
  have e : xs = [] := List.length_eq_zero_iff.mp hl
  rw [e, List.zip_nil_left, List.append_nil] at hs; exact hs)⟩
/-- swap of what stands behind -/
theorem S.front {C : Ctx} {σ : L2.St} {T X : List (V × Slot)} {v : V} {H : Hp} (h : S C σ ρ (T ++ [(v, .val d)] ++ X) H) (hX : ∀ x ∈ X, ∃ e, x.2 = .val e) : S C σ ρ (T ++ X ++ [(v, .val d)]) H := by
  obtain ⟨A, h⟩ := h
  have st : Step C A (fun b i a => (b = true ∨ i < T.length) ∧ A b i a) H H := ⟨fun _ _ q _ => q, fun _ q => q, fun b i _ z => .inl ⟨b, i, z.2⟩, fun b i a z => (h.ow b i a z.2).1, fun b i b' j a z z' => h.dis b i b' j a z.2 z'.2⟩
  refine ⟨_, h.step st h.len (fun i s q => (h.sl i s q).mv st.mv fun a u z q => ⟨⟨.inl rfl, z⟩, q⟩) fun i w s q => ?_⟩
  by_cases h1 : i < T.length
  · rw [List.append_assoc, List.getElem?_append_left h1] at q
    exact (h.tm i w s (by rw [List.append_assoc, List.getElem?_append_left h1]; exact q)).mv st.mv fun a u z q => ⟨⟨.inr h1, z⟩, q⟩
  · have key : (w, s) ∈ X ∨ (w, s) = (v, Slot.val d) := by
      rw [List.append_assoc, List.getElem?_append_right (by omega)] at q
      have := List.mem_of_getElem? q
      rcases List.mem_append.mp this with z | z
      · exact .inl z
      · exact .inr (List.mem_singleton.mp z)
    have key2 : ∃ (k : Nat) (e : D), (T ++ [(v, Slot.val d)] ++ X)[k]? = some (w, Slot.val e) ∧ s = Slot.val e := by
      rcases key with z | z
      · obtain ⟨e, he⟩ := hX _ z
        obtain ⟨k, hk⟩ := List.getElem?_of_mem (List.mem_append_right (T ++ [(v, Slot.val d)]) z)
        have he' : s = .val e := he
        subst he'
        exact ⟨k, e, hk, rfl⟩
      · cases z
        exact ⟨T.length, d, by simp, rfl⟩
    obtain ⟨k, e, hk, rfl⟩ := key2
    obtain ⟨w', hw, r⟩ := h.tm k w _ hk
    exact ⟨w', hw, r.mv st.mv⟩
theorem egs_cons {g : TG} {gs : TGs} {js ks : List Nat} (h : EvG K g js d ρ ρ1) (hr : EvGs K gs ks ds ρ1 ρ2) : EvGs K (gCons g gs) (js ++ ks) (d :: ds) ρ ρ2 := fun C σ T H xs Q hK hl hs q => by
  cases xs with
  | nil => cases hl
  | cons x xs =>
    rw [List.map_cons, List.zip_cons_cons, List.append_cons] at hs
    have h2 := hs.front (fun y hy => by
      obtain ⟨a, b⟩ := y
      have := List.of_mem_zip hy
      obtain ⟨e, _, he⟩ := List.mem_map.mp this.2
      exact ⟨e, he.symm⟩)
    refine ⟨x, xs, rfl, h C σ _ H x _ hK h2 fun σ1 H1 w1 h1 => hr C σ1 T H1 xs Q hK (Nat.succ.inj hl) h1 fun σ2 H2 w2 h2 => q σ2 H2 (fun vs hv => ?_) h2⟩
    rw [w2 vs (fun j hj => hv j (List.mem_append_right _ hj)), w1 vs (fun j hj => hv j (List.mem_append_left _ hj))]
theorem eg_tup {gs : TGs} {js : List Nat} {n : Nat} (h : EvGs K gs js ds ρ ρ1) (hn : ds.length = n) : EvG K (gTup K n gs) js (.tup ds) ρ ρ1 := fun C σ T H x Q hK hs q => by
  subst hK
  obtain ⟨A, sa⟩ := hs
  obtain ⟨a, xs, rfl, at1, r⟩ := sa.lastV.tup_inv
  refine ⟨a, xs, rfl, at1.sq, r.len.trans hn, h C σ T H xs Q rfl r.len ?_ q⟩
  have aux : ∀ (xs : List V) (ds : List D) (T' : List (V × Slot)), Reps C.K (YA C A) H xs ds → SA C A σ ρ T' H → SA C A σ ρ (T' ++ xs.zip (ds.map .val)) H := by
    intro xs
    induction xs with
    | nil => intro ds T' _ h; rw [List.zip_nil_left, List.append_nil]; exact h
    | cons y ys ih =>
      intro ds T' r h
      cases r with
      | cons r t =>
        rw [List.map_cons, List.zip_cons_cons, List.append_cons]
        exact ih _ _ t (h.push r)
  exact ⟨A, aux xs ds T r sa.pop⟩
end
end Lw

namespace Lw
open PySem PySem.Spec PyProof.Rows L2
section
variable {K : PySem.W.Frag} {te ta tb tc tl : TE} {tt tu : TT} {tA : TA} {ρ ρ' ρ0 ρ1 ρ2 ρ3 : Env} {s s1 s2 : Slot} {d e : D} {ds es : List D} {ts tS : TS} {P : Post}

/-! ### what is walked -/
theorem ei_list (h : EvE K tl ρ (.val (.lst ds)) ρ') : EvI K (iList K tl) ρ ds ρ' := fun C σ T H R hK hs q => by
  subst hK
  refine h C σ T H _ rfl hs fun v H1 h1 => ?_
  obtain ⟨A, sa⟩ := id h1
  obtain ⟨a, xs, rfl, at1, r⟩ := sa.lastV.lst_inv
  refine ⟨a, rfl, ⟨xs, at1.sq⟩, q _ _ _ h1 ?_⟩
  intro σ2 ρ2 T2 H2 hs2
  obtain ⟨A2, sa2⟩ := id hs2
  have r0 := sa2.popL.lastV
  obtain ⟨a', xs', e, at2, r2⟩ := r0.lst_inv
  cases e
  refine ⟨fun i d hd => ?_, xs', at2.sq, Nat.le_of_eq r2.len⟩
  obtain ⟨x, hx, rx⟩ := r2.get hd
  refine ⟨⟨xs', x, at2.sq, hx⟩, fun y H' hy => ?_⟩
  obtain ⟨rfl, f⟩ := hy
  have ey := f xs' at2.sq
  rw [hx] at ey
  cases ey
  exact ⟨A2, sa2.push rx⟩
theorem ei_tup (h : EvE K tl ρ (.val (.tup ds)) ρ') : EvI K (iTup K tl) ρ ds ρ' := fun C σ T H R hK hs q => by
  subst hK
  refine h C σ T H _ rfl hs fun v H1 h1 => ?_
  obtain ⟨A, sa⟩ := id h1
  obtain ⟨a, xs, rfl, at1, r⟩ := sa.lastV.tup_inv
  refine ⟨a, rfl, ⟨xs, at1.sq⟩, q _ _ _ h1 ?_⟩
  intro σ2 ρ2 T2 H2 hs2
  obtain ⟨A2, sa2⟩ := id hs2
  have r0 := sa2.popL.lastV
  obtain ⟨a', xs', e, at2, r2⟩ := r0.tup_inv
  cases e
  refine ⟨fun i d hd => ?_, xs', at2.sq, Nat.le_of_eq r2.len⟩
  obtain ⟨x, hx, rx⟩ := r2.get hd
  refine ⟨⟨xs', x, at2.sq, hx⟩, fun y H' hy => ?_⟩
  obtain ⟨rfl, f⟩ := hy
  have ey := f xs' at2.sq
  rw [hx] at ey
  cases ey
  exact ⟨A2, sa2.push rx⟩
def rangeD (lo : Int) (n : Nat) : List D := (List.range n).map fun (i : Nat) => D.int (lo + (i : Int))
theorem itr_ok {C : Ctx} {lo : Int} {n : Nat} {T X : List (V × Slot)} : IterOk C (Itr lo n) (rangeD lo n) T X := by
  intro σ2 ρ2 T2 H2 hs2
  refine ⟨fun i d hd => ?_, ?_⟩
  · unfold rangeD at hd
    rw [List.getElem?_map] at hd
    cases q : (List.range n)[i]? with
    | none => rw [q] at hd; cases hd
    | some j =>
      rw [q] at hd
      obtain ⟨hi, e⟩ := List.getElem?_eq_some_iff.mp q
      rw [List.length_range] at hi
      rw [List.getElem_range] at e
      subst e
      cases hd
      refine ⟨hi, fun x H' hy => ?_⟩
      obtain ⟨rfl, rfl⟩ := hy
      exact hs2.int _
  · show n ≤ (rangeD lo n).length
    unfold rangeD
    rw [List.length_map, List.length_range]
    exact Nat.le_refl _
theorem ei_range1 {n : Int} (h : EvA K tA ρ [.val (.int n)] ρ') (hb : -(2 ^ 62) ≤ n ∧ n < 2 ^ 62) : EvI K (iRng1 tA) ρ (rangeD 0 n.toNat) ρ' := fun C σ T H R hK hs q => by
  subst hK
  refine h C σ T H _ rfl hs fun vs H1 hl h1 => ?_
  obtain ⟨A, sa⟩ := id h1
  have r := SA.reps (ds := [.int n]) sa hl
  obtain ⟨v, ws, rfl, r1, r2⟩ := r.cons_inv
  rw [r1.int_inv, r2.nil_inv] at h1 ⊢
  exact ⟨n, rfl, hb.1, hb.2, q _ [] _ (by rw [List.append_nil]; exact h1.popL) itr_ok⟩
theorem ei_range2 {m n : Int} (h : EvA K tA ρ [.val (.int m), .val (.int n)] ρ') (hb : -(2 ^ 62) ≤ m ∧ m < 2 ^ 62 ∧ -(2 ^ 62) ≤ n ∧ n < 2 ^ 62) : EvI K (iRng2 tA) ρ (rangeD m (n - m).toNat) ρ' := fun C σ T H R hK hs q => by
  subst hK
  refine h C σ T H _ rfl hs fun vs H1 hl h1 => ?_
  obtain ⟨A, sa⟩ := id h1
  have r := SA.reps (ds := [.int m, .int n]) sa hl
  obtain ⟨v, ws, rfl, r1, r2⟩ := r.cons_inv
  obtain ⟨v', ws', rfl, r3, r4⟩ := r2.cons_inv
  rw [r1.int_inv, r3.int_inv, r4.nil_inv] at h1 ⊢
  exact ⟨m, n, rfl, hb, q _ [] _ (by rw [List.append_nil]; exact h1.popL) itr_ok⟩

/-! ### the middle dropped; slots that no one asks for -/
theorem S.mid {C : Ctx} {σ : L2.St} {T X : List (V × Slot)} {v : V} {H : Hp} (h : S C σ ρ (T ++ X ++ [(v, s)]) H) : S C σ ρ (T ++ [(v, s)]) H := by
  obtain ⟨A, h⟩ := h
  let A' : Bool → Nat → Addr → Prop := fun b i a => (b = true ∧ A b i a) ∨ (b = false ∧ i < T.length ∧ A b i a) ∨ (b = false ∧ i = T.length ∧ A false (T ++ X).length a)
  have hd : ∀ b i a, A' b i a → ∃ j, A b j a ∧ (b = true → j = i) ∧ (b = false → (i < T.length ∧ j = i) ∨ (i = T.length ∧ j = (T ++ X).length)) := fun b i a z => by
    rcases z with ⟨rfl, z⟩ | ⟨rfl, hi, z⟩ | ⟨rfl, rfl, z⟩
    · exact ⟨i, z, fun _ => rfl, fun z => by cases z⟩
    · exact ⟨i, z, fun z => (by cases z), fun _ => .inl ⟨hi, rfl⟩⟩
    · exact ⟨_, z, fun z => (by cases z), fun _ => .inr ⟨rfl, rfl⟩⟩
  have hL : T.length ≤ (T ++ X).length := by rw [List.length_append]; omega
  have st : Step C A A' H H := by
    refine ⟨fun _ _ q _ => q, fun _ q => q, fun b i a z => ?_, fun b i a z => ?_, fun b i b' j a z z' => ?_⟩
    · obtain ⟨j, z, _⟩ := hd b i a z; exact .inl ⟨_, _, z⟩
    · obtain ⟨j, z, _⟩ := hd b i a z; exact (h.ow _ _ _ z).1
    · obtain ⟨k, z, t1, f1⟩ := hd b i a z
      obtain ⟨k', z', t2, f2⟩ := hd b' j a z'
      obtain ⟨rfl, e⟩ := h.dis _ _ _ _ _ z z'
      refine ⟨rfl, ?_⟩
      cases b with
      | true => rw [← t1 rfl, ← t2 rfl, e]
      | false =>
        rcases f1 rfl with ⟨a1, a2⟩ | ⟨a1, a2⟩ <;> rcases f2 rfl with ⟨b1, b2⟩ | ⟨b1, b2⟩ <;> omega
  refine ⟨A', h.step st h.len (fun i s q => (h.sl i s q).mv st.mv fun a u z q => ⟨.inl ⟨rfl, z⟩, q⟩) fun i w s q => ?_⟩
  rcases getE_snoc q with q | ⟨e, q⟩
  · have hi : i < T.length := (List.getElem?_eq_some_iff.mp q).1
    exact (h.tm i w s (by rw [List.append_assoc, List.getElem?_append_left hi]; exact q)).mv st.mv fun a u z q => ⟨.inr (.inl ⟨rfl, hi, z⟩), q⟩
  · cases q; subst e
    exact h.last.mv st.mv fun a u z q => ⟨.inr (.inr ⟨rfl, rfl, z⟩), q⟩
/-- the slots may hold what they like where nothing is told of them -/
theorem S.slots {C : Ctx} {σ σ' : L2.St} {T : List (V × Slot)} {H : Hp} (h : S C σ ρ T H) (hl : σ'.length = σ.length) (hw : ∀ i : Nat, ρ[i]? = some .no ∨ σ'[i]? = σ[i]?) : S C σ' ρ T H := by
  obtain ⟨A, h⟩ := h
  refine ⟨A, hl.trans h.len, h.fr, h.dom, h.ow, h.dis, fun i s q => ?_, h.tm⟩
  rcases hw i with z | z
  · rw [z] at q; cases q; exact True.intro
  · rw [z]; exact h.sl i s q
theorem S.wipe {C : Ctx} {σ : L2.St} {T : List (V × Slot)} {H : Hp} {vs : List Nat} (h : S C σ ρ T H) (hv : ∀ v ∈ vs, ρ[v]? = some .no) : S C (L2.wipe σ vs) ρ T H :=
  h.slots (wipe_length σ vs) fun i => by
    by_cases z : i ∈ vs
    · exact .inl (hv i z)
    · right; rw [wipe_get, if_neg (fun q => z q.1)]
theorem S.unwipe {C : Ctx} {σ : L2.St} {T : List (V × Slot)} {H : Hp} {vs : List Nat} (h : S C (L2.wipe σ vs) ρ T H) (hv : ∀ v ∈ vs, ρ[v]? = some .no) : S C σ ρ T H :=
  h.slots (wipe_length σ vs).symm fun i => by
    by_cases z : i ∈ vs
    · exact .inl (hv i z)
    · right; rw [wipe_get, if_neg (fun q => z q.1)]
def unset (ρ : Env) : List Nat → Env
  | [] => ρ
  | v :: vs => (unset ρ vs).set v .no
theorem unset_len : ∀ {vs : List Nat}, (unset ρ vs).length = ρ.length
  | [] => rfl
  | v :: vs => by unfold unset; rw [List.length_set, unset_len]
theorem S.unset {C : Ctx} {σ : L2.St} {T : List (V × Slot)} {H : Hp} (h : S C σ ρ T H) : ∀ vs : List Nat, S C (L2.wipe σ vs) (Lw.unset ρ vs) T H
  | [] => h
  | v :: vs => by unfold L2.wipe Lw.unset; exact (h.unset vs).forget v none

/-! ### for, while -/
theorem wp_for {wi : TI} {g : TG} (Inv : Nat → Env → Prop) (hi : EvI K wi ρ ds ρ0) (h0 : Inv 0 ρ0)
    (hs : ∀ i d ρ, ds[i]? = some d → Inv i ρ → ∃ ρ1, (∃ js, EvG K g js d ρ ρ1) ∧ Wp K tS ρ1 { nx := Inv (i + 1), rt := P.rt, bk := P.nx, ct := Inv (i + 1) }) (hd : ∀ ρ, Inv ds.length ρ → P.nx ρ) : Wp K (tFor wi g tS) ρ P := by
  intro C σ T H D hK hs0 qn qr qb qc
  refine hi C σ T H _ hK hs0 fun J X H1 h1 ok => ?_
  refine ⟨fun i m σ H => m = ds.length - i ∧ i ≤ ds.length ∧ ∃ ρ, Inv i ρ ∧ S C σ ρ (T ++ X) H, ⟨ds.length, by simp, Nat.zero_le _, ρ0, h0, h1⟩, ?_⟩
  rintro i m σ2 H2 ⟨rfl, hi, ρi, iv, h2⟩
  have ok2 := ok σ2 ρi [] H2 (by rw [List.append_nil]; exact h2)
  by_cases hlt : i < ds.length
  · have hd' : ds[i]? = some ds[i] := List.getElem?_eq_getElem hlt
    obtain ⟨g1, g2⟩ := ok2.1 i _ hd'
    obtain ⟨ρ1, ⟨js, eg⟩, wp⟩ := hs i _ ρi hd' iv
    refine .inr ⟨g1, fun σ' H' => ∃ ρ', Inv (i + 1) ρ' ∧ S C σ' ρ' (T ++ X) H', fun σ' H' ⟨ρ', iv', h'⟩ => ⟨ds.length - (i + 1), by omega, rfl, hlt, ρ', iv', h'⟩, fun x H' hy => ?_⟩
    have h3 := g2 x H' hy
    rw [List.append_nil] at h3
    refine eg C σ2 (T ++ X) H' x _ hK h3 fun σ3 H3 _ h3 => wp C σ3 (T ++ X) H3 _ hK h3 (fun σ' ρ' H' a b => ⟨ρ', a, b⟩) (fun v s σ' ρ' H' a b => qr v s σ' ρ' H' a b.mid) (fun σ' ρ' H' a b => qn σ' ρ' H' a b.popL) (fun σ' ρ' H' a b => ⟨ρ', a, b⟩)
  · have e : i = ds.length := by omega
    subst e
    exact .inl ⟨ok2.2, qn σ2 ρi H2 (hd ρi iv) h2.popL⟩
theorem wp_while (Inv : Env → Prop) (μ : Env → Nat) (h0 : Inv ρ) (hs : ∀ ρ, Inv ρ → ∃ b ρ1, EvT K tt ρ b ρ1 ∧ (b = true → Wp K tS ρ1 { nx := fun ρ' => Inv ρ' ∧ μ ρ' < μ ρ, rt := P.rt, bk := P.nx, ct := fun ρ' => Inv ρ' ∧ μ ρ' < μ ρ }) ∧ (b = false → P.nx ρ1)) : Wp K (tWhile tt tS) ρ P := by
  intro C σ T H D hK hs0 qn qr qb qc
  refine ⟨fun m σ H => ∃ ρ, Inv ρ ∧ μ ρ = m ∧ S C σ ρ T H, ⟨_, ρ, h0, rfl, hs0⟩, ?_⟩
  rintro m σ2 H2 ⟨ρi, iv, rfl, h2⟩
  obtain ⟨b, ρ1, et, h1, h3⟩ := hs ρi iv
  refine et C σ2 T H2 _ hK h2 fun H3 s3 => ?_
  cases b with
  | true =>
    rw [if_pos rfl]
    exact ⟨fun σ' H' => ∃ ρ', (Inv ρ' ∧ μ ρ' < μ ρi) ∧ S C σ' ρ' T H', fun σ' H' ⟨ρ', ⟨a, b⟩, c⟩ => ⟨_, b, ρ', a, rfl, c⟩, h1 rfl C σ2 T H3 _ hK s3 (fun σ' ρ' H' a b => ⟨ρ', a, b⟩) (fun v s σ' ρ' H' a b => qr v s σ' ρ' H' a b) (fun σ' ρ' H' a b => qn σ' ρ' H' a b) (fun σ' ρ' H' a b => ⟨ρ', a, b⟩)⟩
  | false =>
    rw [if_neg Bool.false_ne_true]
    exact qn σ2 ρ1 H3 (h3 rfl) s3

/-! ### comprehensions -/
def kept (bs : Nat → Bool) (es : Nat → D) (n : Nat) : List D := ((List.range n).filter bs).map es
theorem kept_yes {bs : Nat → Bool} {es : Nat → D} {n : Nat} (h : bs n = true) : kept bs es (n + 1) = kept bs es n ++ [es n] := by
  unfold kept
  rw [List.range_succ, List.filter_append, List.map_append, List.filter_cons, if_pos h] <;> rfl
theorem kept_no {bs : Nat → Bool} {es : Nat → D} {n : Nat} (h : bs n = false) : kept bs es (n + 1) = kept bs es n := by
  unfold kept
  rw [List.range_succ, List.filter_append, List.map_append, List.filter_cons, if_neg (by rw [h]; decide)]
  show _ ++ [] = _
  rw [List.append_nil]
theorem kept_len (bs : Nat → Bool) (es : Nat → D) (n : Nat) : (kept bs es n).length ≤ n := by
  unfold kept
  rw [List.length_map]
  have h := List.length_filter_le bs (List.range n)
  rw [List.length_range] at h
  exact h
def IterOkG (C : Ctx) (J : It) (ds : List D) (T X : List (V × Slot)) (G : L2.St → Env → Prop) : Prop := ∀ σ2 ρ2 T2 H2, G σ2 ρ2 → S C σ2 ρ2 (T ++ X ++ T2) H2 →
  (∀ i d, ds[i]? = some d → J.go i H2 ∧ ∀ x H', J.yld i H2 x H' → S C σ2 ρ2 (T ++ X ++ T2 ++ [(x, .val d)]) H') ∧ J.stop ds.length H2
def EvIG (K : PySem.W.Frag) (wi : TI) (ρ : Env) (ds : List D) (ρ' : Env) (G : L2.St → L2.St → Env → Prop) : Prop := ∀ (C : Ctx) (σ : L2.St) (T : List (V × Slot)) (H : Hp) (R : It → Hp → Prop), C.K = K → S C σ ρ T H →
  (∀ J X H1, S C σ ρ' (T ++ X) H1 → IterOkG C J ds T X (G σ) → R J H1) → wi σ H R
theorem ev_lcG {wi : TI} {g : TG} {js vs : List Nat} {G : L2.St → L2.St → Env → Prop} (ρs : Nat → Env) (bs : Nat → Bool) (es : Nat → D) (hi : EvIG K wi ρ ds (ρs 0) G) (hG : ∀ σ i, i ≤ ds.length → G σ (wipe σ vs) (ρs i)) (hz : ds.length ≤ 1000000) (hv : ∀ i, i ≤ ds.length → ∀ v ∈ vs, (ρs i)[v]? = some .no) (hj : ∀ j ∈ js, j ∈ vs)
    (hs : ∀ i d, ds[i]? = some d → ∃ ρ1 ρ2 ρ3, EvG K g js d (ρs i) ρ1 ∧ EvT K tt ρ1 (bs i) ρ2 ∧ (bs i = true → EvE K te ρ2 (.val (es i)) ρ3 ∧ Lw.unset ρ3 vs = ρs (i + 1)) ∧ (bs i = false → Lw.unset ρ2 vs = ρs (i + 1))) :
    EvE K (tLc wi g tt te vs) ρ (.own (kept bs es ds.length)) (ρs ds.length) := by
  intro C σ T H Q hK hs0 q
  refine hi C σ T H _ hK hs0 fun J X H1 h1 ok => fun D hD => ?_
  refine ⟨fun i m H => m = ds.length - i ∧ i ≤ ds.length ∧ S C (wipe σ vs) (ρs i) (T ++ X ++ [(.ref D, .own (kept bs es i))]) H, ⟨ds.length, by simp, Nat.zero_le _, ?_⟩, ?_⟩
  · obtain ⟨A, sa⟩ := h1.wipe (hv 0 (Nat.zero_le _))
    exact sa.pushOwn hD .nil
  rintro i m H2 ⟨rfl, hi, h2⟩
  have ok2 := ok _ _ _ H2 (hG σ i hi) h2
  by_cases hlt : i < ds.length
  · have hd' : ds[i]? = some ds[i] := List.getElem?_eq_getElem hlt
    obtain ⟨g1, g2⟩ := ok2.1 i _ hd'
    obtain ⟨ρ1, ρ2, ρ3, eg, et, ey, en⟩ := hs i _ hd'
    refine .inr ⟨g1, fun H' => S C (wipe σ vs) (ρs (i + 1)) (T ++ X ++ [(.ref D, .own (kept bs es (i + 1)))]) H', fun H' h' => ⟨ds.length - (i + 1), by omega, rfl, hlt, h'⟩, fun x H' hy => ?_⟩
    refine eg C _ _ H' x _ hK (g2 x H' hy) fun σ3 H3 w3 h3 => ?_
    have ew : wipe σ3 vs = wipe σ vs := by rw [w3 vs hj, wipe_wipe]
    refine ⟨ew, et C σ3 _ H3 _ hK h3 fun H4 h4 => ?_⟩
    cases hb : bs i with
    | true =>
      rw [if_pos rfl]
      obtain ⟨ee, eu⟩ := ey hb
      refine ee C σ3 _ H4 _ hK h4 fun y H5 h5 => ?_
      obtain ⟨A, sa⟩ := h5
      obtain ⟨a, acc, e, ha, h0, hl, r⟩ := sa.pop.lastOwn
      cases e
      refine ⟨acc, hl, ?_, ?_⟩
      · rw [r.len]
        have := kept_len bs es i
        have : (1000000 : Nat) < sizeLine := by rw [sizeLine_eq]; decide
        omega
      · have r2 := sa.lastV
        have m : Mv (YA C A) H5 (YA C A) (upd H5 D (.lst (acc ++ [y]))) := SA.mvOwn ha
        have := sa.mutT (s0 := .own (kept bs es (i + 1))) ha ⟨D, acc ++ [y], rfl, ha, h0, upd_same, by
          rw [kept_yes hb]
          exact (r.mv m).append (.cons (r2.mv m) .nil)⟩
        have h6 := S.unset ⟨A, this⟩ vs
        rw [ew, eu] at h6
        exact h6
    | false =>
      rw [if_neg Bool.false_ne_true]
      have h6 := S.unset h4 vs
      rw [ew, en hb] at h6
      rw [kept_no hb]
      exact h6
  · have e : i = ds.length := by omega
    subst e
    exact .inl ⟨ok2.2, q _ _ (h2.unwipe (hv _ (Nat.le_refl _))).mid⟩

theorem ev_lc {wi : TI} {g : TG} {js vs : List Nat} (ρs : Nat → Env) (bs : Nat → Bool) (es : Nat → D) (hi : EvI K wi ρ ds (ρs 0)) (hz : ds.length ≤ 1000000) (hv : ∀ i, i ≤ ds.length → ∀ v ∈ vs, (ρs i)[v]? = some .no) (hj : ∀ j ∈ js, j ∈ vs)
    (hs : ∀ i d, ds[i]? = some d → ∃ ρ1 ρ2 ρ3, EvG K g js d (ρs i) ρ1 ∧ EvT K tt ρ1 (bs i) ρ2 ∧ (bs i = true → EvE K te ρ2 (.val (es i)) ρ3 ∧ Lw.unset ρ3 vs = ρs (i + 1)) ∧ (bs i = false → Lw.unset ρ2 vs = ρs (i + 1))) :
    EvE K (tLc wi g tt te vs) ρ (.own (kept bs es ds.length)) (ρs ds.length) :=
  ev_lcG (G := fun _ _ _ => True) ρs bs es (fun C σ T H R hK hs q => hi C σ T H R hK hs fun J X H1 h1 ok => q J X H1 h1 fun σ2 ρ2 T2 H2 _ => ok σ2 ρ2 T2 H2) (fun _ _ _ => True.intro) hz hv hj hs
/-! ### statements -/
theorem wp_seq (h : Wp K ts ρ { P with nx := fun ρ' => Wp K tS ρ' P }) : Wp K (tSeq ts tS) ρ P := fun C σ T H D hK hs qn qr qb qc =>
  h C σ T H _ hK hs (fun σ' ρ' H' w s => w C σ' T H' D hK s qn qr qb qc) qr qb qc
theorem wp_seqM (Mid : Env → Prop) (h : Wp K ts ρ { P with nx := Mid }) (k : ∀ ρ', Mid ρ' → Wp K tS ρ' P) : Wp K (tSeq ts tS) ρ P := wp_seq (fun C σ T H D hK hs qn qr qb qc =>
  h C σ T H D hK hs (fun σ' ρ' H' m s => qn σ' ρ' H' (k ρ' m) s) qr qb qc)
theorem wp_next (h : P.nx ρ) : Wp K tNext ρ P := fun C σ T H D hK hs qn qr qb qc => qn σ ρ H h hs
theorem wp_break (h : P.bk ρ) : Wp K tBreak ρ P := fun C σ T H D hK hs qn qr qb qc => qb σ ρ H h hs
theorem wp_cont (h : P.ct ρ) : Wp K tCont ρ P := fun C σ T H D hK hs qn qr qb qc => qc σ ρ H h hs
theorem wp_set {i : Nat} (h : EvE K te ρ s ρ1) (hi : i < ρ1.length) (k : P.nx (ρ1.set i s)) : Wp K (tAsg te (gName i)) ρ P := fun C σ T H D hK hs qn qr qb qc =>
  h C σ T H _ hK hs fun v H1 h1 => qn _ _ _ k (h1.asg hi)
theorem wp_asg {g : TG} {js : List Nat} (h : EvE K te ρ (.val d) ρ1) (hg : EvG K g js d ρ1 ρ2) (k : P.nx ρ2) : Wp K (tAsg te g) ρ P := fun C σ T H D hK hs qn qr qb qc =>
  h C σ T H _ hK hs fun v H1 h1 => hg C σ T H1 v _ hK h1 fun σ2 H2 _ h2 => qn _ _ _ k h2
theorem wp_aug {i : Nat} {f : Int → Int → Int} {a b : Int} (h0 : ρ[i]? = some (.val (.int a))) (h : EvE K te ρ (.val (.int b)) ρ1) (k : P.nx (ρ1.set i (.val (.int (f a b))))) (hl : i < ρ1.length) : Wp K (tAug i te (ipI f)) ρ P := fun C σ T H D hK hs qn qr qb qc => by
  obtain ⟨A, sa⟩ := id hs
  obtain ⟨v, e, r⟩ := sa.sl _ _ h0
  rw [r.int_inv] at e
  refine ⟨.int a, ?_, h C σ T H _ hK hs fun w H1 h1 => ?_⟩
  · cases g : σ[i]? with
    | none => rw [g] at e; cases e
    | some o => rw [g] at e; exact congrArg some e
  · obtain ⟨A, sa⟩ := h1
    exact ⟨a, b, rfl, sa.lastV.int_inv, qn _ _ _ k ((S.int ⟨A, sa.pop⟩ _).asg hl)⟩
theorem wp_par {i j : Nat} (h : EvA K tA ρ [s1, s2] ρ1) (hi : i < ρ1.length) (hj : j < ρ1.length) (hij : i ≠ j) (k : P.nx ((ρ1.set i s1).set j s2)) : Wp K (tPar i j tA) ρ P := fun C σ T H D hK hs qn qr qb qc => by
  refine h C σ T H _ hK hs fun vs H1 hl h2 => ?_
  match vs, hl with
  | [v, w], _ =>
    refine ⟨v, w, rfl, qn _ _ _ k ?_⟩
    have h2' : S C σ ρ1 (T ++ [(v, s1)] ++ [(w, s2)]) H1 := by simpa using h2
    have h3 := (h2'.asg hj).asg (i0 := i) (by rw [List.length_set]; exact hi)
    rw [List.set_comm _ _ (Ne.symm hij), List.set_comm _ _ (Ne.symm hij)] at h3
    exact h3
theorem wp_drop (h : EvE K te ρ s ρ1) (k : P.nx ρ1) : Wp K (tDrop te) ρ P := fun C σ T H D hK hs qn qr qb qc => h C σ T H _ hK hs fun v H1 h1 => qn _ _ _ k h1.pop
theorem wp_ret (h : EvE K te ρ s ρ1) (k : P.rt s ρ1) : Wp K (tRet te) ρ P := fun C σ T H D hK hs qn qr qb qc => h C σ T H _ hK hs fun v H1 h1 => qr _ _ _ _ _ k h1
theorem wp_if {b : Bool} (h : EvT K tt ρ b ρ1) (h1 : b = true → Wp K ts ρ1 P) (h2 : b = false → Wp K tS ρ1 P) : Wp K (tIfS tt ts tS) ρ P := fun C σ T H D hK hs qn qr qb qc => h C σ T H _ hK hs fun H1 hs1 => by
  cases b with
  | true => rw [if_pos rfl]; exact h1 rfl C σ T H1 D hK hs1 qn qr qb qc
  | false => rw [if_neg Bool.false_ne_true]; exact h2 rfl C σ T H1 D hK hs1 qn qr qb qc
/-- what is wanted behind may ask less of a slot -/
theorem wp_forget (i : Nat) (h : Wp K ts (ρ.set i .no) P) : Wp K ts ρ P := fun C σ T H D hK hs qn qr qb qc => h C σ T H D hK (by
  have := hs.forget i (σ[i]?.getD none)
  exact this.slots (by rw [List.length_set]) (fun k => by
    by_cases e : i = k
    · subst e
      by_cases hl : i < σ.length
      · right; rw [List.getElem?_set_self hl, List.getElem?_eq_getElem hl]; rfl
      · right; rw [List.getElem?_eq_none (by omega), List.getElem?_eq_none (by rw [List.length_set]; omega)]
    · right; rw [List.getElem?_set_ne e])) qn qr qb qc
theorem wp_frz {i : Nat} (h0 : ρ[i]? = some (.own ds)) (h : Wp K ts (ρ.set i (.val (.lst ds))) P) : Wp K ts ρ P := fun C σ T H D hK hs qn qr qb qc => h C σ T H D hK (hs.frzAt h0) qn qr qb qc
theorem tyL {H : Hp} {a : Addr} {xs : List V} (h : H a = some (.lst xs)) : tyV K "list" (.ref a) H := .inl ⟨rfl, _, SqL.of h⟩
theorem wp_app {i : Nat} (h0 : ρ[i]? = some (.own ds)) (h : EvE K te ρ (.val d) ρ1) (h1 : ρ1[i]? = some (.own es)) (hz : es.length < sizeLine) (k : P.nx (ρ1.set i (.own (es ++ [d])))) :
    Wp K (tDrop (tBM K "list" rAppend (tVar i) (tCons te tNil))) ρ P := fun C σ T H D hK hs qn qr qb qc => by
  obtain ⟨a, vs, hv, hl, hn⟩ := hs.ownS h0
  refine ⟨.ref a, hv, tyL hl, h C σ T H _ hK hs fun w H1 hs1 => ?_⟩
  obtain ⟨A, sa⟩ := hs1
  obtain ⟨a', vs', e, ha, hz0, hl', r⟩ := sa.sl _ _ h1
  rw [hv] at e
  cases e
  refine ⟨a, vs', w, rfl, rfl, hl', by rw [r.len]; exact hz, qn σ _ _ k ⟨A, sa.pop.mutS ha ⟨a, vs' ++ [w], by rw [hv]; rfl, ha, hz0, upd_same, ?_⟩⟩⟩
  have m : Mv (YA C A) H1 (YA C A) (upd H1 a (.lst (vs' ++ [w]))) := SA.mvOwn ha
  exact (r.mv m).append (.cons (sa.lastV.mv m) .nil)
theorem wp_ext {i : Nat} {fs : List D} (h0 : ρ[i]? = some (.own ds)) (h : EvE K te ρ (.own fs) ρ1) (h1 : ρ1[i]? = some (.own es)) (hz : es.length + fs.length ≤ sizeLine) (k : P.nx (ρ1.set i (.own (es ++ fs)))) :
    Wp K (tDrop (tBM K "list" rExtend (tVar i) (tCons te tNil))) ρ P := fun C σ T H D hK hs qn qr qb qc => by
  obtain ⟨a, vs, hv, hl, hn⟩ := hs.ownS h0
  refine ⟨.ref a, hv, tyL hl, h C σ T H _ hK hs fun w H1 hs1 => ?_⟩
  obtain ⟨A, sa⟩ := hs1
  obtain ⟨a', vs', e, ha, hz0, hl', r⟩ := sa.sl _ _ h1
  rw [hv] at e
  cases e
  obtain ⟨b, ws, rfl, hb, hb0, hlb, rb⟩ := sa.lastOwn
  refine ⟨a, b, vs', ws, rfl, rfl, hl', hlb, by rw [r.len, rb.len]; exact hz, qn σ _ _ k ⟨A, sa.pop.mutS ha ⟨a, vs' ++ ws, by rw [hv]; rfl, ha, hz0, upd_same, ?_⟩⟩⟩
  have m : Mv (YA C A) H1 (YA C A) (upd H1 a (.lst (vs' ++ ws))) := SA.mvOwn ha
  exact (r.mv m).append (rb.mv m)
end
end Lw

namespace Lw
open PySem PySem.Spec PyProof.Rows L2

/-! ### promises -/
/-- a def of data: R told of the arguments and the answer -/
def spP (K : PySem.W.Frag) (R : List D → D → Prop) : Sp := fun vs H Q _ => ∃ (X0 : Addr → Prop) (ds : List D) (r : D), (∀ a, X0 a → H a ≠ none) ∧ Reps K X0 H vs ds ∧ R ds r ∧
  ∀ v H', (∀ a o, H a = some o → H' a = some o) → Rep K X0 H' v r → Q v H'
/-- a def whose first argument is the deal -/
abbrev DealS := List Int × Int × Int
def spD (K : PySem.W.Frag) (R : DealS → List D → D → DealS → Prop) : Sp := fun vs H Q _ => ∃ (X0 : Addr → Prop) (a g : Addr) (vs' : List V) (x : DealS) (ds : List D) (r : D) (y : DealS), vs = .ref a :: vs' ∧ (∀ a, X0 a → H a ≠ none) ∧ X0 a ∧ X0 g ∧
  DealAt H a g x.1 x.2.1 x.2.2 ∧ Reps K X0 H vs' ds ∧ R x ds r y ∧
  ∀ v H', (∀ b o, b ≠ a → b ≠ g → H b = some o → H' b = some o) → DealAt H' a g y.1 y.2.1 y.2.2 → Rep K X0 H' v r → Q v H'
/-- a def that makes a deal -/
def spM (K : PySem.W.Frag) (R : List D → DealS → Prop) : Sp := fun vs H Q _ => ∃ (X0 : Addr → Prop) (ds : List D) (y : DealS), (∀ a, X0 a → H a ≠ none) ∧ Reps K X0 H vs ds ∧ R ds y ∧
  ∀ a g H', (∀ a o, H a = some o → H' a = some o) → H a = none → H g = none → DealAt H' a g y.1 y.2.1 y.2.2 → Q (.ref a) H'
section
variable {K : PySem.W.Frag} {te ta tb tc tl : TE} {tt tu : TT} {tA : TA} {ρ ρ' ρ0 ρ1 ρ2 ρ3 : Env} {s s1 s2 : Slot} {d e r : D} {ds es : List D} {ts tS : TS} {P : Post}

theorem ev_call {R : List D → D → Prop} (h : EvA K tA ρ (ds.map .val) ρ1) (hr : R ds r) : EvE K (tCall (spP K R) [] E0 tA) ρ (.val r) ρ1 := fun C σ T H Q hK hs q => by
  subst hK
  refine h C σ T H _ rfl hs fun vs H1 hl h1 => ?_
  obtain ⟨A, sa⟩ := h1
  rw [List.length_map] at hl
  refine ⟨YA C A, ds, r, fun a z => ?_, by rw [List.append_nil]; exact sa.reps hl, hr, fun v H' e rv => q v H' ⟨A, (sa.popL.ext e).push rv⟩⟩
  rcases z with z | ⟨b, i, z⟩
  · exact sa.dom a z
  · exact (sa.ow b i a z).1
/-- the deal in a slot changes, with what else was made -/
theorem SA.dealt {C : Ctx} {A : Bool → Nat → Addr → Prop} {σ : L2.St} {T : List (V × Slot)} {H H' : Hp} {i0 : Nat} {a g : Addr} {p : Bool} {gr : List Int} {now seed : Int} (h : SA C A σ ρ T H) (hσ : σ[i0]?.getD none = some (.ref a)) (ha : A true i0 a) (hg : A true i0 g)
    (kp : ∀ b o, b ≠ a → b ≠ g → H b = some o → H' b = some o) (hp : p = true → C.dl = some (a, g)) (dl : DealAt H' a g gr now seed) : SA C A σ (ρ.set i0 (.deal p gr now seed)) T H' := by
  have st : Step C A A H H' := by
    refine ⟨fun c u q n => kp c u (fun e => n ⟨true, i0, e.symm ▸ ha⟩) (fun e => n ⟨true, i0, e.symm ▸ hg⟩) q, fun c q => ?_, fun b i c z => .inl ⟨_, _, z⟩, fun b i c z => ?_, h.dis⟩
    · by_cases e : c = a
      · rw [e, dl.2.1]; exact fun z => nomatch z
      · by_cases e2 : c = g
        · rw [e2, dl.2.2]; exact fun z => nomatch z
        · cases hq : H c with
          | none => exact absurd hq q
          | some u => rw [kp c u e e2 hq]; exact fun z => nomatch z
    · have q := (h.ow _ _ _ z).1
      by_cases e : c = a
      · rw [e, dl.2.1]; exact fun z => nomatch z
      · by_cases e2 : c = g
        · rw [e2, dl.2.2]; exact fun z => nomatch z
        · cases hq : H c with
          | none => exact absurd hq q
          | some u => rw [kp c u e e2 hq]; exact fun z => nomatch z
  have ne : ∀ b i c, A b i c → ¬ (b = true ∧ i = i0) → c ≠ a ∧ c ≠ g := fun b i c z n => ⟨fun e => n (h.dis _ _ _ _ _ (by rw [e] at z; exact z) ha), fun e => n (h.dis _ _ _ _ _ (by rw [e] at z; exact z) hg)⟩
  refine h.step st (by rw [List.length_set]; exact h.len) (fun i s q => ?_) fun i w s q => ?_
  · by_cases e : i0 = i
    · subst e
      by_cases hl : i0 < ρ.length
      · rw [List.getElem?_set_self hl] at q; cases q; exact ⟨a, g, hσ, ha, hg, hp, dl⟩
      · rw [List.getElem?_eq_none (by rw [List.length_set]; omega)] at q; cases q
    · rw [List.getElem?_set_ne e] at q
      exact (h.sl i s q).mv st.mv fun c u z q => ⟨z, kp c u (ne _ _ _ z fun z => e z.2.symm).1 (ne _ _ _ z fun z => e z.2.symm).2 q⟩
  · exact (h.tm i w s q).mv st.mv fun c u z q => ⟨z, kp c u (ne _ _ _ z fun z => (by cases z.1)).1 (ne _ _ _ z fun z => (by cases z.1)).2 q⟩
theorem S.dealS {C : Ctx} {σ : L2.St} {T : List (V × Slot)} {H : Hp} {i0 : Nat} {p : Bool} {gr : List Int} {now seed : Int} (h : S C σ ρ T H) (hi : ρ[i0]? = some (.deal p gr now seed)) : ∃ a g, σ[i0]? = some (some (.ref a)) ∧ DealAt H a g gr now seed := by
  obtain ⟨A, h⟩ := h
  obtain ⟨a, g, e, ha, hg, hp, d⟩ := h.sl _ _ hi
  refine ⟨a, g, ?_, d⟩
  cases q : σ[i0]? with
  | none => rw [q] at e; cases e
  | some o => rw [q] at e; exact congrArg some e
theorem ev_callD {R : DealS → List D → D → DealS → Prop} {i : Nat} {x y : DealS} {p p' : Bool} {gr : List Int} {now seed : Int} (h0 : ρ[i]? = some (.deal p' gr now seed)) (h : EvA K tA ρ (ds.map .val) ρ1) (h1 : ρ1[i]? = some (.deal p x.1 x.2.1 x.2.2)) (hr : R x ds r y) :
    EvE K (tCall (spD K R) [] E0 (tCons (tVar i) tA)) ρ (.val r) (ρ1.set i (.deal p y.1 y.2.1 y.2.2)) := fun C σ T H Q hK hs q => by
  subst hK
  obtain ⟨a, g, hv, _⟩ := hs.dealS h0
  refine ⟨.ref a, hv, h C σ T H _ rfl hs fun vs H1 hl hs1 => ?_⟩
  obtain ⟨A, sa⟩ := hs1
  rw [List.length_map] at hl
  obtain ⟨a', g', e, ha, hg, hp, dl⟩ := sa.sl _ _ h1
  rw [hv] at e
  cases e
  refine ⟨YA C A, a, g', vs, x, ds, r, y, by rw [List.append_nil], fun a z => ?_, .inr ⟨_, _, ha⟩, .inr ⟨_, _, hg⟩, dl, sa.reps hl, hr, fun v H' kp dl' rv => q v H' ⟨A, (sa.popL.dealt (by rw [hv]; rfl) ha hg kp hp dl').push rv⟩⟩
  rcases z with z | ⟨b, i, z⟩
  · exact sa.dom a z
  · exact (sa.ow b i a z).1
/-- f(..) makes a deal -/
theorem ev_callM {R : List D → DealS → Prop} {y : DealS} (h : EvA K tA ρ (ds.map .val) ρ1) (hr : R ds y) : EvE K (tCall (spM K R) [] E0 tA) ρ (.deal false y.1 y.2.1 y.2.2) ρ1 := fun C σ T H Q hK hs q => by
  subst hK
  refine h C σ T H _ rfl hs fun vs H1 hl h1 => ?_
  obtain ⟨A, sa⟩ := h1
  rw [List.length_map] at hl
  refine ⟨YA C A, ds, y, fun a z => ?_, by rw [List.append_nil]; exact sa.reps hl, hr, fun a g H' e na ng dl => q _ _ ?_⟩
  · rcases z with z | ⟨b, i, z⟩
    · exact sa.dom a z
    · exact (sa.ow b i a z).1
  · replace sa := sa.popL
    let A' : Bool → Nat → Addr → Prop := fun b i c => (b = false ∧ i = T.length ∧ (c = a ∨ c = g)) ∨ (¬ (b = false ∧ i = T.length) ∧ A b i c)
    have ne : ∀ b i c, A b i c → c ≠ a ∧ c ≠ g := fun b i c z => ⟨fun e => (sa.ow b i c z).1 (by rw [e]; exact na), fun e => (sa.ow b i c z).1 (by rw [e]; exact ng)⟩
    have kd : ∀ c, H1 c ≠ none → H' c ≠ none := fun c z => by
      cases hq : H1 c with
      | none => exact absurd hq z
      | some u => rw [e c u hq]; exact fun z => nomatch z
    have st : Step C A A' H1 H' := by
      refine ⟨fun c u q _ => e c u q, kd, fun b i c z => ?_, fun b i c z => ?_, fun b i b' j c z z' => ?_⟩
      · rcases z with ⟨_, _, rfl | rfl⟩ | ⟨_, z⟩
        · exact .inr na
        · exact .inr ng
        · exact .inl ⟨b, i, z⟩
      · rcases z with ⟨_, _, rfl | rfl⟩ | ⟨_, z⟩
        · rw [dl.2.1]; exact fun z => nomatch z
        · rw [dl.2.2]; exact fun z => nomatch z
        · exact kd c (sa.ow b i c z).1
      · rcases z with ⟨rfl, rfl, z⟩ | ⟨n1, z⟩
        · rcases z' with ⟨rfl, rfl, _⟩ | ⟨n1, z'⟩
          · exact ⟨rfl, rfl⟩
          · rcases z with z | z
            · exact absurd z (ne _ _ _ z').1
            · exact absurd z (ne _ _ _ z').2
        · rcases z' with ⟨rfl, rfl, z'⟩ | ⟨n2, z'⟩
          · rcases z' with z' | z'
            · exact absurd z' (ne _ _ _ z).1
            · exact absurd z' (ne _ _ _ z).2
          · exact sa.dis _ _ _ _ _ z z'
    refine ⟨A', sa.step st sa.len (fun i s q => (sa.sl i s q).mv st.mv fun c u z q => ⟨.inr ⟨fun z => (by cases z.1), z⟩, e c u q⟩) fun i w s q => ?_⟩
    rcases getE_snoc q with q | ⟨e2, q⟩
    · have hi : i < T.length := (List.getElem?_eq_some_iff.mp q).1
      exact (sa.tm i w s q).mv st.mv fun c u z q => ⟨.inr ⟨fun z => (by have := z.2; omega), z⟩, e c u q⟩
    · cases q; subst e2
      exact ⟨a, g, rfl, .inl ⟨rfl, rfl, .inl rfl⟩, .inl ⟨rfl, rfl, .inr rfl⟩, fun z => (by cases z), dl⟩

/-! ### a def by its body -/
def Slot.told : Slot → Option D
  | .val d => some d
  | .own ds => some (.lst ds)
  | _ => none
theorem Reps.sl {Y : Addr → Prop} {H : Hp} {C : Ctx} {A : Addr → Prop} {vs : List V} {n : Nat} (hK : C.K = K) (h : Reps K Y H vs ds) : ∀ (i : Nat) s, (ds.map Slot.val ++ List.replicate n .no)[i]? = some s → slotR C Y H A ((vs.map some ++ List.replicate n none)[i]?.getD none) s := fun i s q => by
  by_cases hi : i < ds.length
  · rw [List.getElem?_append_left (by rw [List.length_map]; exact hi), List.getElem?_map, List.getElem?_eq_getElem hi] at q
    cases q
    obtain ⟨v, h1, h2⟩ := h.get (List.getElem?_eq_getElem hi)
    have hv : i < vs.length := by rw [h.len]; exact hi
    refine ⟨v, ?_, by rw [hK]; exact h2⟩
    rw [List.getElem?_append_left (by rw [List.length_map]; exact hv), List.getElem?_map, h1]
    rfl
  · rw [List.getElem?_append_right (by rw [List.length_map]; omega)] at q
    have := List.mem_of_getElem? q
    rw [List.eq_of_mem_replicate this]
    exact True.intro
theorem fin_val {C : Ctx} {σ : L2.St} {v : V} {H : Hp} {s : Slot} (h : S C σ ρ ([] ++ [(v, s)]) H) (hr : s.told = some r) : Rep C.K C.X0 H v r := by
  have aux : ∀ {d}, S C σ ρ ([] ++ [(v, .val d)]) H → Rep C.K C.X0 H v d := fun h => by
    obtain ⟨A, sa⟩ := h
    exact sa.lastV.mv fun a o n q => ⟨fun z => n (.inl z), q⟩
  cases s with
  | val d => cases hr; exact aux h
  | own es => cases hr; exact aux h.frz
  | no => cases hr
  | deal _ _ _ _ => cases hr
  | dT _ => cases hr
  | dK _ => cases hr
end
section
variable {P : Program} {w : World} {K : PySem.W.Frag} {mg : Str → Option Value} {base : Heap}
/-- the wish behind a body: the answer r -/
def PostR (r : D) : Post := { nx := fun _ => r = .non, rt := fun s _ => s.told = some r }
theorem fn_pure {x qual : Str} {st : Stmt} {f : Addr} {fd : FuncData} {N ps : List Str} {k : Nat} {R : List D → D → Prop} (F : Fun K x qual st f fd) (Sc : FnScope N ps (defScope st)) (hn : ∀ ds r, R ds r → ds.length = ps.length)
    (hbody : ∀ (cdv : Value) (A : Around) (outer : List PySem.Env) (s : Shared) (H : Hp) (E : XK) (ds : List D) (r : D), Room k (A.deeper (envOfC qual (defScope st) s.heap.objs.size f cdv)) → R ds r →
      ∃ t, PSs (cxOf CX0 P w K mg base N qual (defScope st) f cdv A outer s H E).nox (defBody st) t ∧ Wp K t (ds.map .val ++ List.replicate (N.length - ds.length) .no) (PostR r)) : FnOk P w K mg base CX0 (k + 1) f fd ps (spP K R) := by
  refine F.ok Sc (fun vs H Q E h => ?_) (fun cdv A outer s H vs Q E hr h => ?_)
  · obtain ⟨X0, ds, r, hX, rs, hR, _⟩ := h
    rw [rs.len]; exact hn ds r hR
  · obtain ⟨X0, ds, r, hX, rs, hR, q⟩ := h
    obtain ⟨t, h1, h2⟩ := hbody cdv A outer s H E ds r hr hR
    refine ⟨t, h1, ?_⟩
    let C : Ctx := ⟨K, X0, fun _ => False, H, none, hX, fun _ z => z.elim⟩
    have sa : SA C (fun _ _ _ => False) (L2.start N vs) (ds.map .val ++ List.replicate (N.length - ds.length) .no) [] H := by
      refine ⟨by unfold L2.start; rw [List.length_append, List.length_append, List.length_map, List.length_map, List.length_replicate, List.length_replicate, rs.len], fun a o _ z => z, fun a z => hX a z, fun _ _ _ z => z.elim, fun _ _ _ _ _ z => z.elim, ?_, fun i v s q => by cases q⟩
      unfold L2.start
      rw [rs.len]
      exact Reps.sl (C := C) rfl (rs.mv fun a o n q => ⟨fun z => by rcases z with z | ⟨_, _, z⟩; exact n z; exact z, q⟩)
    refine h2 C _ [] H _ rfl ⟨_, sa⟩ (fun σ' ρ' H' e hs => ?_) (fun v s' σ' ρ' H' e hs => ?_) (fun _ _ _ e _ => e.elim) (fun _ _ _ e _ => e.elim)
    · obtain ⟨A', sa'⟩ := hs
      have e' : r = .non := e
      subst e'
      exact q .non H' (fun a o z => sa'.fr a o (fun z => z) z) .non
    · obtain ⟨A', sa'⟩ := id hs
      exact q v H' (fun a o z => sa'.fr a o (fun z => z) z) (fin_val hs e)
theorem fn_deal {x qual : Str} {st : Stmt} {f : Addr} {fd : FuncData} {N ps : List Str} {k : Nat} {R : DealS → List D → D → DealS → Prop} (F : Fun K x qual st f fd) (Sc : FnScope N ps (defScope st)) (hn : ∀ x ds r y, R x ds r y → ds.length + 1 = ps.length)
    (hbody : ∀ (cdv : Value) (A : Around) (outer : List PySem.Env) (s : Shared) (H : Hp) (E : XK) (x : DealS) (ds : List D) (r : D) (y : DealS), Room k (A.deeper (envOfC qual (defScope st) s.heap.objs.size f cdv)) → R x ds r y →
      ∃ t, PSs (cxOf CX0 P w K mg base N qual (defScope st) f cdv A outer s H E).nox (defBody st) t ∧ Wp K t (.deal true x.1 x.2.1 x.2.2 :: (ds.map .val ++ List.replicate (N.length - (ds.length + 1)) .no)) { nx := fun ρ' => r = .non ∧ ρ'[0]? = some (.deal true y.1 y.2.1 y.2.2), rt := fun s ρ' => s.told = some r ∧ ρ'[0]? = some (.deal true y.1 y.2.1 y.2.2) }) : FnOk P w K mg base CX0 (k + 1) f fd ps (spD K R) := by
  refine F.ok Sc (fun vs H Q E h => ?_) (fun cdv A outer s H vs Q E hr h => ?_)
  · obtain ⟨X0, a, g, vs', x, ds, r, y, rfl, hX, ha, hg, dl, rs, hR, _⟩ := h
    rw [List.length_cons, rs.len]; exact hn x ds r y hR
  · obtain ⟨X0, a, g, vs', x, ds, r, y, rfl, hX, ha, hg, dl, rs, hR, q⟩ := h
    obtain ⟨t, h1, h2⟩ := hbody cdv A outer s H E x ds r y hr hR
    refine ⟨t, h1, ?_⟩
    let C : Ctx := ⟨K, X0, fun b => b = a ∨ b = g, H, some (a, g), hX, fun b z => by rcases z with rfl | rfl; exact ha; exact hg⟩
    let A0 : Bool → Nat → Addr → Prop := fun b i c => b = true ∧ i = 0 ∧ (c = a ∨ c = g)
    have hd : ∀ c, c = a ∨ c = g → H c ≠ none := fun c z => by
      rcases z with rfl | rfl
      · exact hX _ ha
      · exact hX _ hg
    have m : Mv X0 H (YA C A0) H := fun b o n q => ⟨fun z => by
      rcases z with z | ⟨_, _, _, _, z⟩
      · exact n z
      · rcases z with rfl | rfl
        · exact n ha
        · exact n hg, q⟩
    have sa : SA C A0 (L2.start N (.ref a :: vs')) (.deal true x.1 x.2.1 x.2.2 :: (ds.map .val ++ List.replicate (N.length - (ds.length + 1)) .no)) [] H := by
      refine ⟨?_, fun a o _ z => z, fun a z => hX a z, fun b i c z => ⟨hd c z.2.2, .inr z.2.2⟩, fun b i b' j c z z' => ⟨z.1.trans z'.1.symm, z.2.1.trans z'.2.1.symm⟩, ?_, fun i v s q => by cases q⟩
      · simp only [L2.start, List.map_cons, List.cons_append, List.length_cons, List.length_append, List.length_map, List.length_replicate, rs.len]
      · unfold L2.start
        rw [List.map_cons, List.length_cons, rs.len, List.cons_append]
        intro i s q
        cases i with
        | zero => cases q; exact ⟨a, g, rfl, ⟨rfl, rfl, .inl rfl⟩, ⟨rfl, rfl, .inr rfl⟩, fun _ => rfl, dl⟩
        | succ i => exact Reps.sl (C := C) rfl (rs.mv m) i s q
    refine h2 C _ [] H _ rfl ⟨_, sa⟩ (fun σ' ρ' H' e hs => ?_) (fun v s' σ' ρ' H' e hs => ?_) (fun _ _ _ e _ => e.elim) (fun _ _ _ e _ => e.elim)
    · obtain ⟨A', sa'⟩ := hs
      obtain ⟨e', e0⟩ := e
      subst e'
      obtain ⟨a', g', _, _, _, hp, dl'⟩ := sa'.sl _ _ e0
      cases hp rfl
      exact q .non H' (fun b o n1 n2 z => sa'.fr b o (fun z => by rcases z with z | z; exact n1 z; exact n2 z) z) dl' .non
    · obtain ⟨A', sa'⟩ := id hs
      obtain ⟨a', g', _, _, _, hp, dl'⟩ := sa'.sl _ _ e.2
      cases hp rfl
      exact q v H' (fun b o n1 n2 z => sa'.fr b o (fun z => by rcases z with z | z; exact n1 z; exact n2 z) z) dl' (fin_val hs e.1)
end
end Lw

namespace Lw
open PySem PySem.Spec PyProof.Rows L2
section
variable {K : PySem.W.Frag} {te ta tb tc tl : TE} {tt tu : TT} {tA : TA} {ρ ρ' ρ0 ρ1 ρ2 ρ3 : Env} {s s1 s2 : Slot} {d e r : D} {ds es : List D} {ts tS : TS} {P : Post}

/-! ### slices -/
def EvO (K : PySem.W.Frag) (to : TO) (ρ : Env) (o : Option Int) (ρ' : Env) : Prop := ∀ (C : Ctx) (σ : L2.St) (T : List (V × Slot)) (H : Hp) (Q : Option Int → Hp → Prop), C.K = K → S C σ ρ T H → (∀ H', S C σ ρ' T H' → Q o H') → to σ H Q
theorem eo_none : EvO K tNoPart ρ none ρ := fun C σ T H Q hK hs q => q H hs
theorem eo_some {i : Int} (h : EvE K te ρ (.val (.int i)) ρ1) : EvO K (tPart te) ρ (some i) ρ1 := fun C σ T H Q hK hs q => h C σ T H _ hK hs fun v H1 h1 => by
  obtain ⟨A, sa⟩ := h1
  exact ⟨i, sa.lastV.int_inv, q _ ⟨A, sa.pop⟩⟩
def cutD {α : Type} (xs : List α) (lo hi : Option Int) : List α := (xs.drop (HT.sIx xs.length 0 lo)).take (HT.sIx xs.length xs.length hi - HT.sIx xs.length 0 lo)
/-! ### lists, tuples -/
theorem ev_rep {k : Int} (ha : EvE K ta ρ (.own ds) ρ1) (hb : EvE K tb ρ1 (.val (.int k)) ρ2) (hz : -(2 ^ 63) ≤ k ∧ k < 2 ^ 63 ∧ ds.length * k.toNat ≤ sizeLine) : EvE K (tOp rRep ta tb) ρ (.own (List.replicate k.toNat ds).flatten) ρ2 := by
  intro C σ T H Q hK hs q
  refine ha C σ T H _ hK hs fun v H1 h1 => hb C σ _ H1 _ hK h1 fun w H2 h2 => ?_
  obtain ⟨A, sa⟩ := h2
  obtain ⟨a, vs, rfl, _, _, hl, r⟩ := sa.pop.lastOwn
  exact ⟨a, k, vs, rfl, sa.lastV.int_inv, hl, hz.1, hz.2.1, by rw [r.len]; exact hz.2.2, fun p hp => q _ _ (sa.pop.pop.pushOwn hp (r.rep _))⟩
theorem ev_cat (ha : EvE K ta ρ (.val (.lst ds)) ρ1) (hb : EvE K tb ρ1 (.val (.lst es)) ρ2) (hz : ds.length + es.length ≤ sizeLine) : EvE K (tOp rCat ta tb) ρ (.own (ds ++ es)) ρ2 := by
  intro C σ T H Q hK hs q
  refine ha C σ T H _ hK hs fun v H1 h1 => hb C σ _ H1 _ hK h1 fun w H2 h2 => ?_
  obtain ⟨A, sa⟩ := h2
  obtain ⟨a, xs, rfl, at1, p1⟩ := sa.last2V.lst_inv
  obtain ⟨b, ys, rfl, at2, p2⟩ := sa.lastV.lst_inv
  exact ⟨a, b, xs, ys, rfl, rfl, at1.2, at2.2, by rw [p1.len, p2.len]; exact hz, fun p hp => q _ _ (sa.pop.pop.pushOwn hp (p1.append p2))⟩
/-- a slice of the script -/
theorem ev_slS {ns : List Int} {to tp : TO} {lo hi : Option Int} (ha : EvE K ta ρ (.val (.scr ns)) ρ1) (hl : EvO K to ρ1 lo ρ2) (hh : EvO K tp ρ2 hi ρ3) : EvE K (tSl (rSlL K) ta to tp) ρ (.own ((cutD ns lo hi).map D.int)) ρ3 := by
  intro C σ T H Q hK hs q
  subst hK
  refine ha C σ T H _ rfl hs fun v H1 h1 => hl C σ _ H1 _ rfl h1 fun H2 h2 => hh C σ _ H2 _ rfl h2 fun H3 h3 => ?_
  obtain ⟨A, sa⟩ := h3
  obtain ⟨a, rfl, at1⟩ := sa.lastV.scr_inv
  refine ⟨a, ns.map V.int, rfl, at1.sq, fun p hp => q _ _ (sa.pop.pushOwn hp ?_)⟩
  have e : cutV (ns.map V.int) lo hi = (cutD ns lo hi).map V.int := by
    unfold cutV cutD
    rw [List.length_map, List.map_take, List.map_drop]
  rw [e]
  exact Reps.of_ints
/-- an owned slot, and a new list -/
theorem ev_catO {k : Nat} (h0 : ρ[k]? = some (.own ds)) (hb : EvE K tb ρ (.own es) ρ1) (h1 : ρ1[k]? = some (.own ds)) (hz : ds.length + es.length ≤ sizeLine) : EvE K (tOp rCat (tVar k) tb) ρ (.own (ds ++ es)) ρ1 := by
  intro C σ T H Q hK hs q
  obtain ⟨a, vs, hv, _, _⟩ := hs.ownS h0
  refine ⟨.ref a, hv, hb C σ _ H _ hK hs fun w H2 h2 => ?_⟩
  obtain ⟨A, sa⟩ := h2
  obtain ⟨a', vs', e, ha, hz0, hl, r⟩ := sa.sl _ _ h1
  rw [hv] at e
  cases e
  obtain ⟨b, ws, rfl, hb1, hb0, hlb, rb⟩ := sa.lastOwn
  exact ⟨a, b, vs', ws, rfl, rfl, hl, hlb, by rw [r.len, rb.len]; exact hz, fun p hp => q _ _ (sa.pop.pushOwn hp (r.append rb))⟩
theorem ev_catA (ha : EvE K ta ρ (.val (.tup ds)) ρ1) (hb : EvE K tb ρ1 (.val (.tup es)) ρ2) (hz : ds.length + es.length ≤ sizeLine) : EvE K (tOp (rCatA K) ta tb) ρ (.val (.tup (ds ++ es))) ρ2 := by
  intro C σ T H Q hK hs q
  subst hK
  refine ha C σ T H _ rfl hs fun v H1 h1 => hb C σ _ H1 _ rfl h1 fun w H2 h2 => ?_
  obtain ⟨A, sa⟩ := h2
  have r1 := sa.last2V
  have r2 := sa.lastV
  obtain ⟨a, xs, rfl, at1, p1⟩ := r1.tup_inv
  obtain ⟨b, ys, rfl, at2, p2⟩ := r2.tup_inv
  refine ⟨a, b, xs, ys, rfl, rfl, at1.sq, at2.sq, by rw [p1.len, p2.len]; exact hz, fun e => ?_, fun _ e => ?_, fun _ _ p hp => q _ _ (sa.pop.pop.pushTup hp (p1.append p2))⟩
  · subst e
    have : ds = [] := List.eq_nil_of_length_eq_zero (by rw [← p1.len]; rfl)
    subst this
    exact q _ _ ⟨A, sa.pop.pop.push r2⟩
  · subst e
    have : es = [] := List.eq_nil_of_length_eq_zero (by rw [← p2.len]; rfl)
    subst this
    exact q _ _ ⟨A, by rw [List.append_nil]; exact sa.pop.pop.push r1⟩
theorem ev_k2t {k : List Key} (h : EvE K te ρ (.val (.ktup k)) ρ1) : EvE K te ρ (.val (.tup (k.map keyD))) ρ1 := fun C σ T H Q hK hs q => h C σ T H _ hK hs fun v H1 h1 => by
  obtain ⟨A, sa⟩ := h1
  exact q _ _ ⟨A, sa.pop.push sa.lastV.of_ktup⟩
/-- tuple(a list) -/
def rTupleOf (K : PySem.W.Frag) : List V → Hp → VK → Prop := fun xs H Q => ∃ p ys, xs = [.ref p] ∧ ((SqL K H p ys ∧ ∀ l, H l = none → Q (.ref l) (upd H l (.tup ys))) ∨ (SqT K H p ys ∧ Q (.ref p) H))
theorem ev_tupleL (ha : EvE K ta ρ (.val (.lst ds)) ρ1) : EvE K (tCB (rTupleOf K) (tCons ta tNil)) ρ (.val (.tup ds)) ρ1 := by
  intro C σ T H Q hK hs q
  subst hK
  refine ha C σ T H _ rfl hs fun v H1 h1 => ?_
  obtain ⟨A, sa⟩ := h1
  obtain ⟨a, xs, rfl, at1, r⟩ := sa.lastV.lst_inv
  exact ⟨a, xs, rfl, .inl ⟨at1.sq, fun p hp => q _ _ (sa.pop.pushTup hp r)⟩⟩
theorem ev_tupleT (ha : EvE K ta ρ (.val (.tup ds)) ρ1) : EvE K (tCB (rTupleOf K) (tCons ta tNil)) ρ (.val (.tup ds)) ρ1 := by
  intro C σ T H Q hK hs q
  subst hK
  refine ha C σ T H _ rfl hs fun v H1 h1 => ?_
  obtain ⟨A, sa⟩ := h1
  obtain ⟨a, xs, rfl, at1, r⟩ := id sa.lastV.tup_inv
  exact ⟨a, xs, rfl, .inr ⟨at1.sq, q _ _ ⟨A, sa⟩⟩⟩
/-- the same, a key -/
theorem ev_tupleK {ns : List Int} (ha : EvE K ta ρ (.val (.lst (ns.map D.int))) ρ1) : EvE K (tCB (rTupleOf K) (tCons ta tNil)) ρ (.val (.ktup (ns.map Sum.inl))) ρ1 := by
  intro C σ T H Q hK hs q
  subst hK
  refine ha C σ T H _ rfl hs fun v H1 h1 => ?_
  obtain ⟨A, sa⟩ := h1
  obtain ⟨a, xs, rfl, at1, r⟩ := sa.lastV.lst_inv
  refine ⟨a, xs, rfl, .inl ⟨at1.sq, fun p hp => q _ _ ⟨A, (sa.pop.ext (ext_new hp)).push (.ktup (fun z => ?_) ?_)⟩⟩⟩
  · rcases z with z | ⟨b, i, z⟩
    · exact sa.dom p z hp
    · exact (sa.ow b i p z).1 hp
  · rw [r.ints, List.map_map, upd_same]
    rfl
def rListOf (K : PySem.W.Frag) : List V → Hp → VK → Prop := fun xs H Q => ∃ p ys, xs = [.ref p] ∧ (SqL K H p ys ∨ SqT K H p ys) ∧ ∀ l, H l = none → Q (.ref l) (upd H l (.lst ys))
theorem ev_listL (ha : EvE K ta ρ (.val (.lst ds)) ρ1) : EvE K (tCB (rListOf K) (tCons ta tNil)) ρ (.own ds) ρ1 := by
  intro C σ T H Q hK hs q
  subst hK
  refine ha C σ T H _ rfl hs fun v H1 h1 => ?_
  obtain ⟨A, sa⟩ := h1
  obtain ⟨a, xs, rfl, at1, r⟩ := sa.lastV.lst_inv
  exact ⟨a, xs, rfl, .inl at1.sq, fun p hp => q _ _ (sa.pop.pushOwn hp r)⟩
theorem ev_listT (ha : EvE K ta ρ (.val (.tup ds)) ρ1) : EvE K (tCB (rListOf K) (tCons ta tNil)) ρ (.own ds) ρ1 := by
  intro C σ T H Q hK hs q
  subst hK
  refine ha C σ T H _ rfl hs fun v H1 h1 => ?_
  obtain ⟨A, sa⟩ := h1
  obtain ⟨a, xs, rfl, at1, r⟩ := sa.lastV.tup_inv
  exact ⟨a, xs, rfl, .inr at1.sq, fun p hp => q _ _ (sa.pop.pushOwn hp r)⟩
/-! ### slices -/
theorem Reps.cut {Y : Addr → Prop} {H : Hp} {vs : List V} (h : Reps K Y H vs ds) (lo hi : Option Int) : Reps K Y H (cutV vs lo hi) (cutD ds lo hi) := by
  unfold cutV cutD
  rw [h.len]
  exact (h.drop _).take _
theorem ev_slL {to tp : TO} {lo hi : Option Int} (ha : EvE K ta ρ (.val (.lst ds)) ρ1) (hl : EvO K to ρ1 lo ρ2) (hh : EvO K tp ρ2 hi ρ3) : EvE K (tSl (rSlL K) ta to tp) ρ (.own (cutD ds lo hi)) ρ3 := by
  intro C σ T H Q hK hs q
  subst hK
  refine ha C σ T H _ rfl hs fun v H1 h1 => hl C σ _ H1 _ rfl h1 fun H2 h2 => hh C σ _ H2 _ rfl h2 fun H3 h3 => ?_
  obtain ⟨A, sa⟩ := h3
  obtain ⟨a, xs, rfl, at1, r⟩ := sa.lastV.lst_inv
  exact ⟨a, xs, rfl, at1.sq, fun p hp => q _ _ (sa.pop.pushOwn hp (r.cut lo hi))⟩
theorem ev_slT {to tp : TO} {lo hi : Option Int} (ha : EvE K ta ρ (.val (.tup ds)) ρ1) (hl : EvO K to ρ1 lo ρ2) (hh : EvO K tp ρ2 hi ρ3) : EvE K (tSl (rSlA K) ta to tp) ρ (.val (.tup (cutD ds lo hi))) ρ3 := by
  intro C σ T H Q hK hs q
  subst hK
  refine ha C σ T H _ rfl hs fun v H1 h1 => hl C σ _ H1 _ rfl h1 fun H2 h2 => hh C σ _ H2 _ rfl h2 fun H3 h3 => ?_
  obtain ⟨A, sa⟩ := h3
  have r0 := sa.lastV
  obtain ⟨a, xs, rfl, at1, r⟩ := r0.tup_inv
  refine ⟨a, xs, rfl, at1.sq, fun e => ?_, fun _ p hp => q _ _ (sa.pop.pushTup hp (r.cut lo hi))⟩
  have : cutD ds lo hi = ds := by
    unfold cutD
    rw [← r.len, e.1, e.2, List.drop_zero, r.len]
    exact List.take_of_length_le (by omega)
  exact q _ _ ⟨A, by rw [this]; exact sa⟩
theorem ev_revL (ha : EvE K ta ρ (.val (.lst ds)) ρ1) : EvE K (tRevL K ta) ρ (.own ds.reverse) ρ1 := by
  intro C σ T H Q hK hs q
  subst hK
  refine ha C σ T H _ rfl hs fun v H1 h1 => ?_
  obtain ⟨A, sa⟩ := h1
  obtain ⟨a, xs, rfl, at1, r⟩ := sa.lastV.lst_inv
  exact ⟨a, xs, rfl, at1.sq, fun p hp => q _ _ (sa.pop.pushOwn hp r.reverse)⟩

/-! ### calls of built-ins -/
def rAbs : List V → Hp → VK → Prop := fun xs H Q => ∃ i, xs = [.int i] ∧ Q (.int (if i < 0 then -i else i)) H
theorem ev_abs {i : Int} (ha : EvE K ta ρ (.val (.int i)) ρ1) : EvE K (tCB rAbs (tCons ta tNil)) ρ (.val (.int (if i < 0 then -i else i))) ρ1 := by
  intro C σ T H Q hK hs q
  refine ha C σ T H _ hK hs fun v H1 h1 => ?_
  obtain ⟨A, sa⟩ := h1
  rw [sa.lastV.int_inv]
  exact ⟨i, rfl, q _ _ (S.int ⟨A, sa.pop⟩ _)⟩
def rInt1 : List V → Hp → VK → Prop := fun xs H Q => (∃ i, xs = [.int i] ∧ Q (.int i) H) ∨ ∃ k, xs = [.bl k] ∧ Q (.int (if k then 1 else 0)) H
theorem ev_int1 {i : Int} (ha : EvE K ta ρ (.val (.int i)) ρ1) : EvE K (tCB rInt1 (tCons ta tNil)) ρ (.val (.int i)) ρ1 := by
  intro C σ T H Q hK hs q
  refine ha C σ T H _ hK hs fun v H1 h1 => ?_
  obtain ⟨A, sa⟩ := h1
  rw [sa.lastV.int_inv]
  exact .inl ⟨i, rfl, q _ _ (S.int ⟨A, sa.pop⟩ _)⟩
theorem ev_intB {i : Bool} (ha : EvE K ta ρ (.val (.bl i)) ρ1) : EvE K (tCB rInt1 (tCons ta tNil)) ρ (.val (.int (if i then 1 else 0))) ρ1 := by
  intro C σ T H Q hK hs q
  refine ha C σ T H _ hK hs fun v H1 h1 => ?_
  obtain ⟨A, sa⟩ := h1
  rw [sa.lastV.bl_inv]
  exact .inr ⟨i, rfl, q _ _ (S.int ⟨A, sa.pop⟩ _)⟩
theorem ev_sum {ns : List Int} (ha : EvE K ta ρ (.val (.lst (ns.map D.int))) ρ1) : EvE K (tCB (rSum K) (tCons ta tNil)) ρ (.val (.int ns.sum)) ρ1 := by
  intro C σ T H Q hK hs q
  subst hK
  refine ha C σ T H _ rfl hs fun v H1 h1 => ?_
  obtain ⟨A, sa⟩ := h1
  obtain ⟨a, xs, rfl, at1, r⟩ := sa.lastV.lst_inv
  have e := r.ints
  subst e
  exact ⟨a, ns, rfl, at1.sq, q _ _ (S.int ⟨A, sa.pop⟩ _)⟩

/-! ### == of data -/
mutual
def D.py : D → PyData
  | .non => .none
  | .bl b => .bool b
  | .int i => .int i
  | .str x => .str x
  | .lst xs => .list (D.pys xs)
  | .tup xs => .tuple (D.pys xs)
  | _ => .none
def D.pys : List D → List PyData
  | [] => []
  | d :: ds => d.py :: D.pys ds
end
mutual
def D.flat : D → Bool
  | .non => true
  | .bl b => true
  | .int i => true
  | .str x => true
  | .lst xs => D.flats xs
  | .tup xs => D.flats xs
  | _ => false
def D.flats : List D → Bool
  | [] => true
  | d :: ds => d.flat && D.flats ds
end
mutual
theorem Rep.dp {Y : Addr → Prop} {H : Hp} : ∀ {v : V} {d : D}, Rep K Y H v d → d.flat = true → Dp K H v d.py
  | _, _, .non, _ => by unfold D.py; exact .non
  | _, _, .bl b, _ => by unfold D.py; exact .bl b
  | _, _, .int i, _ => by unfold D.py; exact .int i
  | _, _, .str x, _ => by unfold D.py; exact .str x
  | _, _, .lst h r, f => by unfold D.py; unfold D.flat at f; exact .lst h.sq (Reps.dp r f)
  | _, _, .tup h r, f => by unfold D.py; unfold D.flat at f; exact .tup h.sq (Reps.dp r f)
  | _, _, .ktup _ _, f => by unfold D.flat at f; cases f
  | _, _, .scr _, f => by unfold D.flat at f; cases f
  | _, _, .dic _ _ _, f => by unfold D.flat at f; cases f
  | _, _, .obj _ _ _ _ _, f => by unfold D.flat at f; cases f
theorem Reps.dp {Y : Addr → Prop} {H : Hp} : ∀ {vs : List V} {ds : List D}, Reps K Y H vs ds → D.flats ds = true → DpAll K H vs (D.pys ds)
  | _, _, .nil, _ => by unfold D.pys; exact .nil
  | _, _, .cons r t, f => by unfold D.pys; unfold D.flats at f; rw [Bool.and_eq_true] at f; exact .cons (Rep.dp r f.1) (Reps.dp t f.2)
end
theorem ev_eqD (ha : EvE K ta ρ (.val d) ρ1) (hb : EvE K tb ρ1 (.val e) ρ2) (hd : d.flat = true ∧ SeqAt.shaped d.py = true) (he : e.flat = true ∧ SeqAt.shaped e.py = true) : EvE K (tOp (rEqD K) ta tb) ρ (.val (.bl (PyData.eqv d.py e.py))) ρ2 := by
  intro C σ T H Q hK hs q
  subst hK
  refine ha C σ T H _ rfl hs fun v H1 h1 => hb C σ _ H1 _ rfl h1 fun w H2 h2 => ?_
  obtain ⟨A, sa⟩ := h2
  exact ⟨d.py, e.py, sa.last2V.dp hd.1, sa.lastV.dp he.1, hd.2, he.2, q _ _ (S.bl ⟨A, sa.pop.pop⟩ _)⟩
theorem ev_neD (ha : EvE K ta ρ (.val d) ρ1) (hb : EvE K tb ρ1 (.val e) ρ2) (hd : d.flat = true ∧ SeqAt.shaped d.py = true) (he : e.flat = true ∧ SeqAt.shaped e.py = true) : EvE K (tOp (rNeD K) ta tb) ρ (.val (.bl (!PyData.eqv d.py e.py))) ρ2 := by
  intro C σ T H Q hK hs q
  subst hK
  refine ha C σ T H _ rfl hs fun v H1 h1 => hb C σ _ H1 _ rfl h1 fun w H2 h2 => ?_
  obtain ⟨A, sa⟩ := h2
  exact ⟨d.py, e.py, sa.last2V.dp hd.1, sa.lastV.dp he.1, hd.2, he.2, q _ _ (S.bl ⟨A, sa.pop.pop⟩ _)⟩

/-! ### the deal -/
theorem deal_great {g n t : V} : valV (dealK g n t) (.inr "great") = some g := by rfl
theorem deal_now {g n t : V} : valV (dealK g n t) (.inr "now") = some n := by rfl
theorem deal_seed {g n t : V} : valV (dealK g n t) (.inr "seed") = some t := by rfl
theorem deal_putN {g n t v : V} : putK (dealK g n t) (.inr "now") v = dealK g v t := by rfl
theorem deal_putS {g n t v : V} : putK (dealK g n t) (.inr "seed") v = dealK g n v := by rfl
theorem ev_deal_now {i : Nat} {p : Bool} {gr : List Int} {now seed : Int} (h : ρ[i]? = some (.deal p gr now seed)) : EvE K (tDGet (tVar i) (tC (.str "now"))) ρ (.val (.int now)) ρ := by
  intro C σ T H Q hK hs q
  obtain ⟨a, g, hv, ne, h1, h2⟩ := hs.dealS h
  refine ⟨.ref a, hv, a, .int now, rfl, ?_, q _ _ (hs.int _)⟩
  have z := DGet.k (k := Sum.inr "now") h1
  rw [deal_now] at z
  exact z
theorem ev_deal_seed {i : Nat} {p : Bool} {gr : List Int} {now seed : Int} (h : ρ[i]? = some (.deal p gr now seed)) : EvE K (tDGet (tVar i) (tC (.str "seed"))) ρ (.val (.int seed)) ρ := by
  intro C σ T H Q hK hs q
  obtain ⟨a, g, hv, ne, h1, h2⟩ := hs.dealS h
  refine ⟨.ref a, hv, a, .int seed, rfl, ?_, q _ _ (hs.int _)⟩
  have z := DGet.k (k := Sum.inr "seed") h1
  rw [deal_seed] at z
  exact z
theorem ev_deal_len {i : Nat} {p : Bool} {gr : List Int} {now seed : Int} (h : ρ[i]? = some (.deal p gr now seed)) : EvE K (tCB (rLenS K) (tCons (tDGet (tVar i) (tC (.str "great"))) tNil)) ρ (.val (.int gr.length)) ρ := by
  intro C σ T H Q hK hs q
  subst hK
  obtain ⟨a, g, hv, ne, h1, h2⟩ := hs.dealS h
  refine ⟨.ref a, hv, a, .ref g, rfl, ?_, g, gr.map V.int, rfl, .inl (SqL.of h2), ?_⟩
  · have z := DGet.k (k := Sum.inr "great") h1
    rw [deal_great] at z
    exact z
  · rw [List.length_map]
    exact q _ _ (hs.int _)
theorem wp_now {i : Nat} {p : Bool} {gr : List Int} {now seed x : Int} (h : EvE K te ρ (.val (.int x)) ρ1) (h1 : ρ1[i]? = some (.deal p gr now seed)) (k : P.nx (ρ1.set i (.deal p gr x seed))) : Wp K (sDPut (tVar i) (tC (.str "now")) te) ρ P := fun C σ T H D hK hs qn qr qb qc => by
  refine h C σ T H _ hK hs fun v H1 hs1 => ?_
  obtain ⟨A, sa⟩ := hs1
  have ev := sa.lastV.int_inv
  subst ev
  obtain ⟨a, g, e, ha, hg, hp, ne, d1, d2⟩ := sa.sl _ _ h1
  refine ⟨.ref a, ?_, a, upd H1 a (.dK (dealK (.ref g) (.int x) (.int seed))), rfl, ?_, qn σ _ _ k ⟨A, sa.pop.mutS ha ⟨a, g, e, ha, hg, hp, ne, upd_same, by rw [upd_ne ne.symm]; exact d2⟩⟩⟩
  · cases q : σ[i]? with
    | none => rw [q] at e; cases e
    | some o => rw [q] at e; exact congrArg some e
  · have z := DPut.k (k := Sum.inr "now") (v := .int x) d1 (by show 3 < sizeLine; decide)
    rw [deal_putN] at z
    exact z
theorem wp_seed {i : Nat} {p : Bool} {gr : List Int} {now seed x : Int} (h : EvE K te ρ (.val (.int x)) ρ1) (h1 : ρ1[i]? = some (.deal p gr now seed)) (k : P.nx (ρ1.set i (.deal p gr now x))) : Wp K (sDPut (tVar i) (tC (.str "seed")) te) ρ P := fun C σ T H D hK hs qn qr qb qc => by
  refine h C σ T H _ hK hs fun v H1 hs1 => ?_
  obtain ⟨A, sa⟩ := hs1
  have ev := sa.lastV.int_inv
  subst ev
  obtain ⟨a, g, e, ha, hg, hp, ne, d1, d2⟩ := sa.sl _ _ h1
  refine ⟨.ref a, ?_, a, upd H1 a (.dK (dealK (.ref g) (.int now) (.int x))), rfl, ?_, qn σ _ _ k ⟨A, sa.pop.mutS ha ⟨a, g, e, ha, hg, hp, ne, upd_same, by rw [upd_ne ne.symm]; exact d2⟩⟩⟩
  · cases q : σ[i]? with
    | none => rw [q] at e; cases e
    | some o => rw [q] at e; exact congrArg some e
  · have z := DPut.k (k := Sum.inr "seed") (v := .int x) d1 (by show 3 < sizeLine; decide)
    rw [deal_putS] at z
    exact z
/-- deal["now"] = deal["great"].pop() -/
theorem wp_pop {i : Nat} {p : Bool} {gr : List Int} {now seed x : Int} (h1 : ρ[i]? = some (.deal p (gr ++ [x]) now seed)) (k : P.nx (ρ.set i (.deal p gr x seed))) :
    Wp K (sDPut (tVar i) (tC (.str "now")) (tBM0 K "list" rPop (tDGet (tVar i) (tC (.str "great"))))) ρ P := fun C σ T H D hK hs qn qr qb qc => by
  obtain ⟨A, sa⟩ := hs
  obtain ⟨a, g, e, ha, hg, hp, ne, d1, d2⟩ := sa.sl _ _ h1
  have hv : σ[i]? = some (some (.ref a)) := by
    cases q : σ[i]? with
    | none => rw [q] at e; cases e
    | some o => rw [q] at e; exact congrArg some e
  refine ⟨.ref a, hv, a, .ref g, rfl, ?_, tyL d2, g, _, .int x, rfl, rfl, d2, ?_, .ref a, hv, a, upd (upd H g (.lst (gr.map V.int))) a (.dK (dealK (.ref g) (.int x) (.int seed))), rfl, ?_, ?_⟩
  · have z := DGet.k (k := Sum.inr "great") d1
    rw [deal_great] at z
    exact z
  · rw [List.map_append, List.length_append, List.length_map]
    show (gr.map V.int ++ [V.int x])[gr.length + 1 - 1]? = _
    rw [Nat.add_sub_cancel, List.getElem?_append_right (by rw [List.length_map]; exact Nat.le_refl _), List.length_map, Nat.sub_self]
    rfl
  · have e1 : ((gr ++ [x]).map V.int).dropLast = gr.map V.int := by rw [List.map_append]; exact List.dropLast_concat
    rw [e1]
    have z := DPut.k (a := a) (H := upd H g (.lst (gr.map V.int))) (k := Sum.inr "now") (v := .int x) (kvs := dealK (.ref g) (.int now) (.int seed)) (by rw [upd_ne ne]; exact d1) (by show 3 < sizeLine; decide)
    rw [deal_putN] at z
    exact z
  · refine qn σ _ _ k ⟨A, ?_⟩
    refine sa.dealt (by rw [hv]; rfl) ha hg (fun b o n1 n2 q => by rw [upd_ne n1, upd_ne n2]; exact q) hp ⟨ne, upd_same, by rw [upd_ne ne.symm, upd_same]⟩
/-- a new deal -/
theorem deal_merge {g n t : V} : mergeK [] (dealK g n t) = dealK g n t := by rfl
theorem ev_disp {gr : List Int} {now seed : Int} {t1 t2 t3 : TE} (h1 : EvE K t1 ρ (.own (gr.map D.int)) ρ1) (h2 : EvE K t2 ρ1 (.val (.int now)) ρ2) (h3 : EvE K t3 ρ2 (.val (.int seed)) ρ3) :
    EvE K (tDisp [(tC (.str "great"), t1), (tC (.str "now"), t2), (tC (.str "seed"), t3)]) ρ (.deal false gr now seed) ρ3 := by
  intro C σ T H Q hK hs q p hp
  obtain ⟨A, sa⟩ := hs
  have s1 : S C σ ρ (T ++ [(.ref p, .dK [])]) (upd H p (.dK [])) := sa.pushNew hp fun A' _ m ha h0 => ⟨p, [], rfl, ha, h0, upd_same, rfl, .nil⟩
  refine h1 C σ _ _ _ hK s1 fun g H1 s2 => ?_
  refine h2 C σ _ _ _ hK s2 fun v2 H2 s3 => ?_
  refine h3 C σ _ _ _ hK s3 fun v3 H3 s4 => ?_
  obtain ⟨B, sb⟩ := s4
  have e2 := sb.last2V.int_inv
  have e3 := sb.lastV.int_inv
  subst e2 e3
  replace sb := sb.pop.pop
  obtain ⟨g', vs, eg, hg, hg0, hgl, rg⟩ := sb.lastOwn
  subst eg
  have evs := rg.ints
  subst evs
  obtain ⟨p', ws, ep, hp1, hp0, hpl, _, rp⟩ := sb.pop.last
  cases ep
  have ews : ws = [] := by
    have := rp.len
    rw [List.length_map] at this
    exact List.eq_nil_of_length_eq_zero this
  subst ews
  refine ⟨hpl, dealK (.ref g') (.int now) (.int seed), rfl, (by show 3 ≤ 15; decide), q _ _ ?_⟩
  rw [deal_merge]
  have hgp : g' ≠ p := fun e => by rw [e, hpl] at hgl; cases hgl
  let A' : Bool → Nat → Addr → Prop := fun b i c => (b = false ∧ i = T.length ∧ (c = p ∨ c = g')) ∨ ((b = true ∨ i < T.length) ∧ B b i c)
  have ne : ∀ b i c, (b = true ∨ i < T.length) → B b i c → c ≠ p ∧ c ≠ g' := fun b i c hi z => ⟨fun e => by
      obtain ⟨e1, e2⟩ := sb.dis _ _ _ _ _ (e ▸ z) hp1
      rcases hi with hi | hi
      · rw [hi] at e1; cases e1
      · omega, fun e => by
      obtain ⟨e1, e2⟩ := sb.dis _ _ _ _ _ (e ▸ z) hg
      rw [List.length_append] at e2
      rcases hi with hi | hi
      · rw [hi] at e1; cases e1
      · omega⟩
  have st : Step C B A' H3 (upd H3 p (.dK (dealK (.ref g') (.int now) (.int seed)))) := by
    refine ⟨fun c u q n => ?_, fun c q => ?_, fun b i c z => ?_, fun b i c z => ?_, fun b i b' j c z z' => ?_⟩
    · rw [upd_ne (fun e => n ⟨_, _, e.symm ▸ hp1⟩)]; exact q
    · by_cases e : c = p
      · rw [e, upd_same]; exact fun z => nomatch z
      · rw [upd_ne e]; exact q
    · rcases z with ⟨_, _, rfl | rfl⟩ | ⟨_, z⟩
      · exact .inl ⟨_, _, hp1⟩
      · exact .inl ⟨_, _, hg⟩
      · exact .inl ⟨_, _, z⟩
    · by_cases e : c = p
      · rw [e, upd_same]; exact fun z => nomatch z
      · rw [upd_ne e]
        rcases z with ⟨_, _, rfl | rfl⟩ | ⟨_, z⟩
        · exact absurd rfl e
        · rw [hgl]; exact fun z => nomatch z
        · exact (sb.ow _ _ _ z).1
    · rcases z with ⟨rfl, rfl, z⟩ | ⟨n1, z⟩
      · rcases z' with ⟨rfl, rfl, _⟩ | ⟨n2, z'⟩
        · exact ⟨rfl, rfl⟩
        · rcases z with z | z
          · exact absurd z (ne _ _ _ n2 z').1
          · exact absurd z (ne _ _ _ n2 z').2
      · rcases z' with ⟨rfl, rfl, z'⟩ | ⟨n2, z'⟩
        · rcases z' with z' | z'
          · exact absurd z' (ne _ _ _ n1 z).1
          · exact absurd z' (ne _ _ _ n1 z).2
        · exact sb.dis _ _ _ _ _ z z'
  refine ⟨A', sb.step st sb.len (fun i s q => (sb.sl i s q).mv st.mv fun c u z q => ⟨.inr ⟨.inl rfl, z⟩, by rw [upd_ne (ne _ _ _ (.inl rfl) z).1]; exact q⟩) fun i w s q => ?_⟩
  rcases getE_snoc q with q | ⟨e2, q⟩
  · have hi : i < T.length := (List.getElem?_eq_some_iff.mp q).1
    exact (sb.tm i w s (by rw [List.append_assoc, List.getElem?_append_left hi]; exact q)).mv st.mv fun c u z q => ⟨.inr ⟨.inr hi, z⟩, by rw [upd_ne (ne _ _ _ (.inr hi) z).1]; exact q⟩
  · cases q; subst e2
    exact ⟨p, g', rfl, .inl ⟨rfl, rfl, .inl rfl⟩, .inl ⟨rfl, rfl, .inr rfl⟩, fun z => (by cases z), hgp.symm, upd_same, by rw [upd_ne hgp]; exact hgl⟩
end
end Lw

/-! zip of three, each a list or a tuple; set(list of ints), sorted of it at any length; dict of one pair with a tuple key -/
namespace Lw
open PySem PySem.Spec PyProof.Rows L2

theorem ne_add {a N : Nat} (k : Nat) (h : a < N) : a ≠ N + k := by omega
/-- a list (true) or a tuple -/
def SqB (K : PySem.W.Frag) : Bool → Hp → Addr → List V → Prop
  | true => SqL K
  | false => SqT K
def SeqB : Bool → Heap → Addr → Array Value → Prop
  | true => fun h a xs => h.IsList a xs
  | false => fun h a xs => h.IsTuple a xs
def IterB : Bool → Heap → Addr → Addr → Nat → Prop
  | true => fun h it a i => h.IsListIter it a i
  | false => fun h it a i => h.IsTupleIter it a i
def firstB : Bool → Addr → Obj
  | true => fun a => { cls := .type "list_iterator", data := .fields #[.ref a, .int 0 0] }
  | false => fun a => { cls := .type "tuple_iterator", data := .fields #[.ref a, .int 0 0] }
section
variable {b : Bool} {X : Cx} {pins : List (Addr × Obj)} {σ : L2.St} {H : Hp} {s : Shared} {a it : Addr} {xs ys : List V}
theorem SqB.out (I : Inv X pins σ H s) (h : SqB X.K b H a xs) : ∃ its : List Value, Vals xs its ∧ SeqB b s.heap a its.toArray := by
  cases b with
  | true => obtain ⟨its, r, p, _⟩ := I.list h; exact ⟨its, r, p.isList⟩
  | false => obtain ⟨its, r, p, _⟩ := I.tuple h; exact ⟨its, r, p⟩
theorem SqB.inj (I : Inv X pins σ H s) (h : SqB X.K b H a xs) (h' : SqB X.K b H a ys) : xs = ys := by
  cases b with
  | true => exact I.list_inj h h'
  | false => exact I.tuple_inj h h'
theorem SeqB.lt {h : Heap} {its : Array Value} (q : SeqB b h a its) : a < h.objs.size := by
  cases b with
  | true => obtain ⟨o, ho, _⟩ := q; exact Heap.lt_size ho
  | false => obtain ⟨o, ho, _⟩ := q; exact Heap.lt_size ho
theorem IterB.at {h h' : Heap} {i : Nat} (q : IterB b h it a i) (k : ∀ o, h.get? it = some o → h'.get? it = some o) : IterB b h' it a i := by
  cases b with
  | true => exact PySem.Heap.IsListIter.at q k
  | false => exact PySem.Heap.IsTupleIter.at q k
theorem IterB.ob {h : Heap} {i : Nat} (q : IterB b h it a i) : ∃ o, h.get? it = some o ∧ ∀ v, o.data ≠ .cell v := by
  cases b with
  | true => obtain ⟨o, e, _, d⟩ := q; exact ⟨o, e, fun v z => by rw [d] at z; cases z⟩
  | false => obtain ⟨o, e, _, d⟩ := q; exact ⟨o, e, fun v z => by rw [d] at z; cases z⟩
theorem drawB {prog : Program} {w : World} {A : Around} (hh : A.handled = none) (ne : a ≠ it) (items : Array Value) :
    Draws prog w A it [it, a] items.size (fun i v => items[i]? = some v) (fun i h => IterB b h it a i ∧ SeqB b h a items) := by
  cases b with
  | true => exact Draws.list hh it a ne items
  | false => exact Draws.tuple hh it a ne items
theorem beginB (b : Bool) (a : Addr) (items : Array Value) : Begins (.ref a) (firstB b a) fun h => SeqB b h a items := by
  cases b with
  | true => exact begins_list a items
  | false => exact begins_tuple a items
theorem firstB_at {h : Heap} (e : h.get? it = some (firstB b a)) : IterB b h it a 0 := by
  cases b with
  | true => exact ⟨_, e, rfl, rfl⟩
  | false => exact ⟨_, e, rfl, rfl⟩
end
/-- zip of three -/
def It3 (K : PySem.W.Frag) (b1 b2 b3 : Bool) (a1 a2 a3 : Addr) : It :=
  ⟨fun i H => ∃ (xs ys zs : List V) (x y z : V), SqB K b1 H a1 xs ∧ SqB K b2 H a2 ys ∧ SqB K b3 H a3 zs ∧ xs[i]? = some x ∧ ys[i]? = some y ∧ zs[i]? = some z,
    fun i H v H' => ∃ T x y z, v = .ref T ∧ H T = none ∧ H' = upd H T (.tup [x, y, z]) ∧ (∀ xs, SqB K b1 H a1 xs → xs[i]? = some x) ∧ (∀ ys, SqB K b2 H a2 ys → ys[i]? = some y) ∧ ∀ zs, SqB K b3 H a3 zs → zs[i]? = some z,
    fun i H => ∃ xs ys zs : List V, SqB K b1 H a1 xs ∧ SqB K b2 H a2 ys ∧ SqB K b3 H a3 zs ∧ i = min (min xs.length ys.length) zs.length⟩
theorem turn3 {P : Program} {w : World} {K : PySem.W.Frag} {elts : List Expr} {kk : Nat} {tpos : Pos} {b1 b2 b3 : Bool} {a1 a2 a3 : Addr} {N : Nat} (l1 : a1 < N) (l2 : a2 < N) (l3 : a3 < N) :
    Turn P w K (.Tuple elts kk tpos) (It3 K b1 b2 b3 a1 a2 a3) [N + 5, N + 3, N + 4, N, N + 1, N + 2] (N + 5)
      (fun i h => IsZip h (N + 5) (N + 3) (N + 4) .none ∧ IsTupOf3 h (N + 3) (.ref N) (.ref (N + 1)) (.ref (N + 2)) ∧ (∃ x y z, IsTupOf3 h (N + 4) x y z) ∧ IterB b1 h N a1 i ∧ IterB b2 h (N + 1) a2 i ∧ IterB b3 h (N + 2) a3 i) := by
  have sep : ZipSep3 (N + 5) (N + 3) (N + 4) N (N + 1) (N + 2) (N :: [a1]) ((N + 1) :: [a2]) ((N + 2) :: [a3]) := zip_sep3 (by simpa using l1) (by simpa using l2) (by simpa using l3)
  refine ⟨by simp, fun i h st c hc => ?_, fun i h h' st k => ?_, ?_, ?_, fun A i s Q E st h => wpAny_pyIter_zip st.1 h⟩
  · obtain ⟨z1, z2, ⟨x, y, z, z3⟩, j1, j2, j3⟩ := st
    simp only [List.mem_cons, List.not_mem_nil, or_false] at hc
    rcases hc with q | q | q | q | q | q
    · rw [q]; exact ⟨_, z1, fun v q => nomatch q⟩
    · rw [q]; exact ⟨_, z2, fun v q => nomatch q⟩
    · rw [q]; exact ⟨_, z3, fun v q => nomatch q⟩
    · rw [q]; exact j1.ob
    · rw [q]; exact j2.ob
    · rw [q]; exact j3.ob
  · obtain ⟨z1, z2, ⟨x, y, z, z3⟩, j1, j2, j3⟩ := st
    exact ⟨k _ (by simp) _ z1, k _ (by simp) _ z2, ⟨x, y, z, k _ (by simp) _ z3⟩, j1.at fun o q => k _ (by simp) o q, j2.at fun o q => k _ (by simp) o q, j3.at fun o q => k _ (by simp) o q⟩
  · intro X hP hw hK hc i pins s σ H E I hf st hg
    subst hP hw hK
    obtain ⟨z1, z2, z3, j1, j2, j3⟩ := st
    obtain ⟨xs, ys, zs, x, y, z, q1, q2, q3, e1, e2, e3⟩ := hg
    obtain ⟨v1, r1, p1⟩ := q1.out I
    obtain ⟨v2, r2, p2⟩ := q2.out I
    obtain ⟨v3, r3, p3⟩ := q3.out I
    have hd : X.A.in1.handled = none := I.ok.hd hc
    have G := GoesN.zip3 (prog := X.prog) (w := X.w) (A := X.A) (elts := elts) (x1 := kk) (pos := tpos) sep (drawB (b := b1) hd (Nat.ne_of_lt l1) v1.toArray) (drawB (b := b2) hd (ne_add 1 l2) v2.toArray) (drawB (b := b3) hd (ne_add 2 l3) v3.toArray)
    have n1 : i < v1.length := by rw [← r1.length]; exact (List.getElem?_eq_some_iff.mp e1).1
    have n2 : i < v2.length := by rw [← r2.length]; exact (List.getElem?_eq_some_iff.mp e2).1
    have n3 : i < v3.length := by rw [← r3.length]; exact (List.getElem?_eq_some_iff.mp e3).1
    have big := G.goes i s (fun u s2 => ∃ x H', Inv X pins σ H' s2 ∧ RelV x u ∧ (It3 X.K b1 b2 b3 a1 a2 a3).yld i H x H' ∧ (IsZip s2.heap (N + 5) (N + 3) (N + 4) .none ∧ IsTupOf3 s2.heap (N + 3) (.ref N) (.ref (N + 1)) (.ref (N + 2)) ∧ (∃ x y z, IsTupOf3 s2.heap (N + 4) x y z) ∧ IterB b1 s2.heap N a1 (i + 1) ∧ IterB b2 s2.heap (N + 1) a2 (i + 1) ∧ IterB b3 s2.heap (N + 2) a3 (i + 1)) ∧ ∀ b ∈ [N + 5, N + 3, N + 4, N, N + 1, N + 2], H' b = none) E
      (by simp only [List.size_toArray]; omega) ⟨z1, z2, z3, ⟨j1, p1⟩, ⟨j2, p2⟩, ⟨j3, p3⟩⟩ (fun u h' tk hY st' hk htk => ?_)
    · refine thn big fun r s1 hr => ?_
      obtain ⟨v, rfl, h2⟩ := hr
      exact ⟨v, rfl, h2⟩
    · obtain ⟨T, u1, u2, u3, rfl, hT, g1, g2, g3, hTup⟩ := hY
      obtain ⟨w1, hw1, rw1⟩ := r1.get e1
      obtain ⟨w2, hw2, rw2⟩ := r2.get e2
      obtain ⟨w3, hw3, rw3⟩ := r3.get e3
      have c1 : u1 = w1 := Option.some.inj (g1.symm.trans (by simpa using hw1))
      have c2 : u2 = w2 := Option.some.inj (g2.symm.trans (by simpa using hw2))
      have c3 : u3 = w3 := Option.some.inj (g3.symm.trans (by simpa using hw3))
      subst c1 c2 c3
      have new : ObjOk X.prog X.w (upd H T (.tup [x, y, z])) h' T (.tup [x, y, z]) := ⟨by show 3 ≤ sizeLine; decide, [u1, u2, u3], .cons rw1 (.cons rw2 (.cons rw3 .nil)), hTup⟩
      have hn : H T = none := I.hok.fresh hT
      have I1 : Inv X pins σ (upd H T (.tup [x, y, z])) { s with heap := h', toks := tk } := I.turnedNew (t' := tk) (ch := [N + 5, N + 3, N + 4, N, N + 1, N + 2]) (fun c o hb q => hk c o (fun z => hb (by
        simp only [List.mem_cons, List.not_mem_nil, or_false] at z ⊢
        rcases z with z | z | z | z | z <;> simp [z])) q) hf hT new
      obtain ⟨y1, y2, y3, k1, k2, k3⟩ := st'
      refine ⟨.ref T, _, I1, rfl, ⟨T, x, y, z, rfl, hn, rfl, fun l hl => by rw [hl.inj I q1]; exact e1, fun l hl => by rw [hl.inj I q2]; exact e2, fun l hl => by rw [hl.inj I q3]; exact e3⟩, ⟨y1, y2, y3, k1.1, k2.1, k3.1⟩, fun c hcm => ?_⟩
      have hlt : c < s.heap.objs.size := by
        simp only [List.mem_cons, List.not_mem_nil, or_false] at hcm
        rcases hcm with q | q | q | q | q | q
        · rw [q]; exact Heap.lt_size z1
        · rw [q]; exact Heap.lt_size z2
        · obtain ⟨_, _, _, z3⟩ := z3; rw [q]; exact Heap.lt_size z3
        · rw [q]; obtain ⟨_, e, _⟩ := j1.ob; exact Heap.lt_size e
        · rw [q]; obtain ⟨_, e, _⟩ := j2.ob; exact Heap.lt_size e
        · rw [q]; obtain ⟨_, e, _⟩ := j3.ob; exact Heap.lt_size e
      rw [upd_ne (Nat.ne_of_lt (Nat.lt_of_lt_of_le hlt hT))]
      exact (hf c hcm).1
  · intro X hP hw hK hc i pins s σ H E I hf st hg
    subst hP hw hK
    obtain ⟨z1, z2, z3, j1, j2, j3⟩ := st
    obtain ⟨xs, ys, zs, q1, q2, q3, e⟩ := hg
    obtain ⟨v1, r1, p1⟩ := q1.out I
    obtain ⟨v2, r2, p2⟩ := q2.out I
    obtain ⟨v3, r3, p3⟩ := q3.out I
    have hd : X.A.in1.handled = none := I.ok.hd hc
    have G := GoesN.zip3 (prog := X.prog) (w := X.w) (A := X.A) (elts := elts) (x1 := kk) (pos := tpos) sep (drawB (b := b1) hd (Nat.ne_of_lt l1) v1.toArray) (drawB (b := b2) hd (ne_add 1 l2) v2.toArray) (drawB (b := b3) hd (ne_add 2 l3) v3.toArray)
    have ee : i = min (min v1.toArray.size v2.toArray.size) v3.toArray.size := by
      rw [e]; simp only [List.size_toArray]; rw [← r1.length, ← r2.length, ← r3.length]
    subst ee
    exact G.stops s (fun s1 => Inv X pins σ H s1) E ⟨z1, z2, z3, ⟨j1, p1⟩, ⟨j2, p2⟩, ⟨j3, p3⟩⟩ fun h' tk hk htk => I.turnedL (t' := tk) (ch := [N + 5, N + 3, N + 4, N, N + 1, N + 2]) (fun c o hb q => hk c o (fun z => hb (by
        simp only [List.mem_cons, List.not_mem_nil, or_false] at z ⊢
        rcases z with z | z | z | z | z <;> simp [z])) q) hf
def iZip3 (K : PySem.W.Frag) (b1 b2 b3 : Bool) (ta : TA) : TI := fun σ H R => ta σ H fun vs H1 => ∃ a1 a2 a3 xs ys zs, vs = [.ref a1, .ref a2, .ref a3] ∧ SqB K b1 H1 a1 xs ∧ SqB K b2 H1 a2 ys ∧ SqB K b3 H1 a3 zs ∧ R (It3 K b1 b2 b3 a1 a2 a3) H1
theorem pi_zip3 (b1 b2 b3 : Bool) {X : Cx} {e1 e2 e3 : Expr} {ta : TA} {p pos tpos : Pos} {elts : List Expr} {kk : Nat} (hg : Gl X "zip") (hm : X.mg "zip" = none) (ha : PA X [e1, e2, e3] ta)
    (hs : starEach [e1, e2, e3] X.env = (false, eval e1 X.env) :: starEach [e2, e3] X.env := by rfl) (hpl : (backTo pos (starEach [e2, e3] X.env)).any (·.1) = false := by rfl) :
    PI X (.Tuple elts kk tpos) (.Call (.Name "zip" p) [e1, e2, e3] [] pos) (iZip3 X.K b1 b2 b3 ta) := by
  refine ⟨fun pins s σ H R I h => ?_⟩
  refine Call_ (ld_blt I hg hm PyProof.Rows.boot_zip (PyProof.Rows.callWith_type1 (thn (ha.run pos pins s σ H _ I h) fun us s1 ⟨vs, H1, I1, r1, q1⟩ => ?_) hs hpl))
  obtain ⟨a1, a2, a3, xs, ys, zs, ex, k1, k2, k3, q⟩ := q1
  subst ex
  obtain ⟨u1, u2, u3, rfl, t1, t2, t3⟩ : ∃ u1 u2 u3, us = [u1, u2, u3] ∧ RelV (.ref a1) u1 ∧ RelV (.ref a2) u2 ∧ RelV (.ref a3) u3 := by
    cases r1 with
    | cons p q => cases q with
      | cons p' q' => cases q' with
        | cons p'' q'' => cases q''; exact ⟨_, _, _, rfl, p, p', p''⟩
  cases t1; cases t2; cases t3
  obtain ⟨v1, r1, p1⟩ := k1.out I1
  obtain ⟨v2, r2, p2⟩ := k2.out I1
  obtain ⟨v3, r3, p3⟩ := k3.out I1
  refine zip_begins3 (beginB b1 a1 v1.toArray) (beginB b2 a2 v2.toArray) (beginB b3 a3 v3.toArray) p1 p2 p3 fun h' hz hT hO g1 g2 g3 hsz hk => wpAny_pyIter_zip hz ?_
  have I2 : Inv X pins σ H1 { s1 with heap := h' } := I1.kept (t' := s1.toks) hk
  refine ⟨_, _, _, _, H1, rfl, I2, turn3 p1.lt p2.lt p3.lt, ⟨hz, hT, ⟨_, _, _, hO⟩, firstB_at g1, firstB_at g2, firstB_at g3⟩, fun c hcm => ?_, q⟩
  have hle : s1.heap.objs.size ≤ c := by
    simp only [List.mem_cons, List.not_mem_nil, or_false] at hcm
    rcases hcm with z | z | z | z | z | z <;> rw [z] <;> first | exact Nat.le_refl _ | exact Nat.le_add_right _ _
  exact I1.fpOk hle (I1.hok.fresh hle)
end Lw

namespace Lw
open PySem PySem.Spec PyProof.Rows L2
section
variable {X : Cx}
/-- dict([(t, v)]), t a tuple of ints and texts -/
def rDict1 (K : PySem.W.Frag) : List V → Hp → VK → Prop := fun vs H Q => ∃ (a t k : Addr) (ks : List Key) (v : V), vs = [.ref a] ∧ H a = some (.lst [.ref t]) ∧ SqT K H t [.ref k, v] ∧ H k = some (.tup (ks.map kV)) ∧
  ∀ p, H p = none → Q (.ref p) (upd H p (.dT [(ks, v)]))
theorem cr_dict1 (hc : X.calm = true) (hu : X.A.units + 64 < cLine) : CallR X (.type "dict") (rDict1 X.K) := by
  intro pins s σ H xs us Q I r q
  obtain ⟨a, t, k, ks, v, rfl, ha, ht, hk, q⟩ := q
  rw [Vals.ref1 r]
  obtain ⟨_, its, n, rv, hget⟩ := I.hok a _ ha
  obtain ⟨its2, rv2, ⟨o2, ho2, hc2, n2, hd2⟩, _⟩ := I.tuple ht
  obtain ⟨_, its3, rv3, o3, ho3, hc3, n3, hd3⟩ := I.hok k _ hk
  cases rv with
  | cons r1 rr =>
  cases rr; cases r1
  cases rv2 with
  | cons r1 rr =>
  cases rr with
  | cons r2 rr =>
  cases rr
  cases r1
  rename_i u
  have key0 := key_of (P := X.prog) (w := X.w) (ks := ks) I.hok hk
  have P := PairArg.list (prog := X.prog) (w := X.w) a #[Value.ref t] (fun _ => t) [(Value.ref k, u)]
  have hroom : (tupleKind (mixKind X.prog X.w)).room X.A.in1.in1 := by
    have h1 : X.A.in1.in1.units = X.A.units + 1 + 1 := rfl
    show X.A.in1.in1.units < cLine
    omega
  refine call_dict_pairsH (knd := tupleKind (mixKind X.prog X.w)) (ps := [(ks, k, u)]) P (I.ok.hd hc) hroom ⟨⟨_, n, hget, rfl, rfl, rfl⟩, rfl, fun j k' v' e => ?_⟩ ⟨rfl, fun i key v' e => ?_⟩ (fun h' hk' x hx => ?_) (by show 1 ≤ sizeLine; decide) fun h' tk hd' hkp => ?_
  · cases j with
    | zero => cases e; exact ⟨rfl, .inl ⟨_, ho2, hc2, n2, hd2⟩⟩
    | succ j => cases e
  · cases i with
    | zero => cases e; exact ⟨ks, k, rfl, rfl⟩
    | succ i => cases e
  · have ex := List.mem_singleton.mp hx
    subst ex
    obtain ⟨o, its, m, h1, h2⟩ := key0
    refine ⟨o, its, m, hk' _ _ (fun e => ?_) (fun z => nomatch z) h1, h2⟩
    have := Heap.lt_size h1
    exact absurd e (Nat.ne_of_lt this)
  · have hm : (s.heap.objs.size == sysModules) = false := beq_eq_false_iff_ne.mpr (Nat.ne_of_gt I.big)
    have hn : H s.heap.objs.size = none := I.hok.fresh (Nat.le_refl _)
    have kp : ∀ b o, s.heap.get? b = some o → h'.get? b = some o := fun b o e => hkp b o (fun z => nomatch z) e
    obtain ⟨ob, es, ep, g1, g2, g3, g4, g5, g6⟩ := hd'
    refine ⟨.ref s.heap.objs.size, upd H s.heap.objs.size (.dT [(ks, v)]), I.laid (t' := tk) kp (Nat.le_refl _) ?_, rfl, q _ hn⟩
    refine ⟨by show 1 ≤ sizeLine; decide, hm, storedAllH [] [(ks, k, u)], ?_, ob, es, ep, g1, g2, g3, g4, g6⟩
    show Paired _ _ (storedH [] ks k u)
    rw [storedH_new (by rfl)]
    exact .cons ⟨rfl, by show upd H s.heap.objs.size (.dT [(ks, v)]) k = _; rw [upd_ne (ne_of_none hk hn)]; exact hk, r2⟩ .nil
end
end Lw

namespace Lw
open PySem PySem.Spec PyProof.Rows L2

section
variable {P : Program} {w : World} {A : Around} {E : Value → Shared → Prop} {s : Shared}
abbrev emptySet (w : World) : Obj := { cls := .type "set", dict := none, data := .set #[] 0 (.fresh 0 0 (!w.params.followText "set-order")) }
/-- set(l), l a list of ints: told with the order's table, whatever stands twice -/
theorem call_setL {l : Addr} {items : Array Value} (ns : List Int) {Q : Value → Shared → Prop} (hh : A.handled = none) (hl : s.heap.IsList l items) (hit : IntsAre items.toList ns) (hb : ns.length + 1 < scanBound)
    (h : ∀ (h' : Heap) (tk c : Nat), SetR w h' s.heap.objs.size (fun j => decide (j ∈ ns)) c → c ≤ ns.length → (∀ b o, s.heap.get? b = some o → h'.get? b = some o) → Q (.ref s.heap.objs.size) { s with heap := h', toks := tk }) :
    wpAny (model P w) A (call (.type "set") [.ref l]) Q E s := by
  have isz : items.size = ns.length := (Array.length_toList (xs := items)).symm.trans (IntsAre.length hit)
  obtain ⟨c0, tl, mro0⟩ := F.called_set.mro
  have made0 := F.called_set.made
  have sub0 := F.called_set.sub
  have not0 := F.called_set.notType
  have can0 := F.called_set.canCreate
  have chk0 := F.typeCall_set_1 (.ref l)
  refine wpAny_call (codeAny_of_tree ?_)
  show wpAny _ _ (callAny (.type "set") _) _ _ _
  refine wpAny_pure ⟨Code.quiet_builtin _ (by decide +kernel), codeAny_builtin F.entry_type_call ?_⟩
  rw [Around.under_plain (weight_type_call_type "set" [.ref l] []) rfl]
  repeat (any_goals (first | assumption | wp_step))
  refine codeAny_mono (code_set_led1 (.ref l) (E := E) (Q₁ := fun ob sx => ob = .ref s.heap.objs.size ∧ sx = { s with heap := s.heap.push (emptySet w) }) ⟨rfl, rfl⟩) fun rr sx hrr => ?_
  cases rr with
  | error e => exact hrr
  | ok fl =>
    cases fl with
    | next => exact hrr.elim
    | brk => exact hrr.elim
    | cont => exact hrr.elim
    | ret ob =>
      obtain ⟨rfl, rfl⟩ := hrr
      have at0 : (s.heap.push (emptySet w)).get? s.heap.objs.size = some (emptySet w) := Heap.get?_push_size _ rfl
      have ty0 : Shared.TypeIs { s with heap := s.heap.push (emptySet w) } (.ref s.heap.objs.size) "set" := ⟨_, at0, rfl⟩
      have look0 := F.called_set.init.lookup
      have bind0 := F.called_set.init.bind (.ref s.heap.objs.size)
      repeat (any_goals (first | assumption | wp_step))
      refine codeAny_mono (codeAny_call_builtin (R := wants (fun r sy => r = .none ∧ ∃ h' tk c, sy = { s with heap := h', toks := tk } ∧ SetR w h' s.heap.objs.size (fun j => decide (j ∈ ns)) c ∧ c ≤ ns.length ∧ (∀ b o, s.heap.get? b = some o → h'.get? b = some o)) E)
        F.called_set.init.plain F.entry_set_init (check_set_init_1 ty0 ?_)) fun r2 sy hr2 => ?_
      · obtain ⟨ol, hol, hcl, nl, hdl⟩ := hl
        obtain ⟨ocls, odict, odata, oslots⟩ := ol
        simp only at hcl hdl
        subst hcl hdl
        have hol1 : (s.heap.push (emptySet w)).get? l = some { cls := .type "list", dict := odict, data := .seq items nl, slots := oslots } := Heap.get?_push_of_some _ hol
        have subA := PySem.F.sub_list_set
        have subB := PySem.F.sub_list_frozenset
        have neD : (Value.type "list" == Value.type "dict") = false := by decide
        have isl1 : (s.heap.push (emptySet w)).IsList l items := ⟨_, hol1, rfl, nl, rfl⟩
        unfold Builtin.«set.__init__» noKeywords Builtin.Frozenset.updateFrom
        generalize hPI : pyIter = PI
        wp_walk
        subst hPI
        refine wpAny_pyIter_list isl1 ?_
        refine wpAny_bind (wpAny_runValue ?_)
        have lt0 : l < s.heap.objs.size := Heap.lt_size hol
        have hh3 : A.in1.in1.in1.handled = none := by simp [hh]
        have neI : l ≠ (s.heap.push (emptySet w)).objs.size := by rw [Heap.size_push]; exact Nat.ne_of_lt (Nat.lt_succ_of_lt lt0)
        have notin : s.heap.objs.size ∉ [(s.heap.push (emptySet w)).objs.size, l] := by
          rw [Heap.size_push]
          intro z
          rcases List.mem_cons.mp z with z | z
          · exact absurd z (Nat.ne_of_lt (Nat.lt_succ_self _))
          · exact absurd (List.mem_singleton.mp z) (Nat.ne_of_gt lt0)
        have vals0 : ∀ (i : Nat) (v : Value), items[i]? = some v → ∃ k t, ns[i]? = some k ∧ v = .int k t := fun i v hv => by
          have hi : i < ns.length := isz ▸ (Array.getElem?_eq_some_iff.mp hv).1
          obtain ⟨t, e⟩ := PyProof.Rows.IntsAre.int_at hit i v (by rw [Array.getElem?_toList]; exact hv)
          refine ⟨ns[i], t, List.getElem?_eq_getElem hi, e.trans ?_⟩
          rw [List.getD_eq_getElem?_getD, List.getElem?_eq_getElem hi]
          rfl
        refine set_update_ints ((Walks.list hh3 _ l neI items).toS) s.heap.objs.size notin ns isz hb vals0 (items.size - 0) 0 _ (by omega) (Nat.zero_le _)
          ⟨⟨_, Heap.get?_push_size _ rfl, rfl, rfl⟩, (isl1.push _)⟩ ⟨0, Nat.le_refl 0, setR_new_at (Heap.get?_push_of_some _ at0)⟩ ?_
        intro s' c' hm hc' hS'
        obtain ⟨h', g2, d', tk', os'⟩ := s'
        obtain rfl : g2 = s.gens := hm.gens
        obtain rfl : d' = s.drawn := hm.drawn
        obtain rfl : os' = s.os := hm.os
        show wpAny _ _ _ _ _ _
        refine wpAny_pure ?_
        show wpAny _ _ (ret Value.none) _ _ _
        refine wpAny_pure ⟨rfl, h', tk', c', rfl, hS', isz ▸ hc', fun b o e => ?_⟩
        have ltb : b < s.heap.objs.size := Heap.lt_size e
        refine hm.heap b o (fun z => ?_) (Heap.get?_push_of_some _ (Heap.get?_push_of_some _ e))
        rcases List.mem_cons.mp z with z | z
        · exact absurd z (Nat.ne_of_lt ltb)
        · have z := List.mem_singleton.mp z
          rw [Heap.size_push] at z
          exact absurd z (Nat.ne_of_lt (Nat.lt_succ_of_lt ltb))
      · cases r2 with
        | error e => exact hr2
        | ok fl2 =>
          cases fl2 with
          | next => exact hr2.elim
          | brk => exact hr2.elim
          | cont => exact hr2.elim
          | ret r =>
            obtain ⟨rfl, h', tk, c', rfl, hS', hc', hk'⟩ := hr2
            repeat (any_goals (first | assumption | wp_step))
            exact h _ _ _ hS' hc' hk'
/-- sorted(a set of ints), any number of them -/
theorem sorted_setN {a : Addr} {M : Int → Bool} {n : Nat} {Q : Value → Shared → Prop} (R : SetR w s.heap a M n) (hh : A.handled = none) (hz : n ≤ sizeLine)
    (hQ : ∀ s' p (out : Array Value) (c : Nat) (ns : List Int), (∀ b o, s.heap.get? b = some o → s'.heap.get? b = some o) → s'.gens = s.gens → s'.os = s.os → s.heap.objs.size ≤ p →
      s'.heap.get? p = some (seqObj "list" out c) → IntsAre out.toList ns → ns.Pairwise (· < ·) → (∀ k, k ∈ ns ↔ M k = true) → ns.length = n → Q (.ref p) s') :
    wpAny (model P w) A (call (.builtin "sorted") [.ref a]) Q E s := by
  obtain ⟨o, es, ep, t, ho, hex, hd, g, nd, hm, hb, hf, hn, hr, hl⟩ := R
  refine Calls.call_function_entry kind_sorted plain_sorted entry_sorted (args_sorted1 _) ?_
  unfold Builtin.«sorted»
  refine wpAny_bind (m := checkCount "sorted" 1 1 _) (wpAny_pure ?_)
  refine wpAny_bind (collect_set (A := A.in1) hh ⟨o, ho, hex.1, hd⟩ hf hb hr hl fun s1 vs k1 hz1 g1 o1 pm => ?_)
  have lenv : vs.length = n := by rw [pm.length_eq, List.length_map, Array.length_toList]; exact hn
  have hints : IntsAre vs (vs.map Builtin.Re.reRawOf) := ints_of vs fun v hv => by
    obtain ⟨e, he, q⟩ := List.mem_map.mp (pm.mem_iff.mp hv)
    obtain ⟨k, tk, h1, _⟩ := g e he
    exact ⟨k, tk, q.symm.trans h1⟩
  have perm : (vs.map Builtin.Re.reRawOf).Perm (es.toList.map keyOf) := by
    have q := pm.map Builtin.Re.reRawOf
    rw [List.map_map] at q
    exact q
  refine wpAny_bind (wpAny_newList ?_ (by rw [lenv]; exact hz))
  have at0 : (s1.heap.push (seqObj "list" vs.toArray 0)).get? s1.heap.objs.size = some (seqObj "list" vs.toArray 0) := Heap.get?_push_size _ rfl
  refine wpAny_bind (wpAny_holding (wpAny_call_entry slot_list_sort ⟨_, at0, rfl⟩ entry_list_sort
    (SrtO.list_sort_ord SrtO.swo_int at0 (by rw [lenv]; exact hz) (fun h2 => SrtO.ints_sortable hints h2) fun out h1 h2 => ⟨.none, rfl, ?_⟩) (args_list_sort _)))
  obtain ⟨a1, a2, a3⟩ := SrtO.ints_out hints h1 h2
  obtain ⟨c, hc⟩ := sortedHeap_at (vs := vs) (out := out.toArray) at0
  have pn : (out.map SrtO.iv).Perm (es.toList.map keyOf) := a2.trans perm
  refine wpAny_pure ⟨_, rfl, hQ _ s1.heap.objs.size out.toArray c (out.map SrtO.iv) (fun b u e => ?_) g1 o1 hz1 hc a1 (lt_of_le_nodup _ a3 (pn.nodup_iff.mpr nd)) (fun k => by rw [pn.mem_iff, ← hm k]) ?_⟩
  · have q := k1 b u e
    have ltb := Heap.lt_size q
    refine (sortedHeap_old (Nat.ne_of_lt ltb) ?_).trans (Heap.get?_push_of_some _ q)
    rw [size_push']
    exact Nat.lt_succ_of_lt ltb
  · rw [pn.length_eq, List.length_map, Array.length_toList]; exact hn
end
section
variable {X : Cx}
/-- set(xs), ints -/
def rSetOf (K : PySem.W.Frag) (w : World) : List V → Hp → VK → Prop := fun vs H Q => ∃ (a : Addr) (ns : List Int), vs = [V.ref a] ∧ SqL K H a (ns.map V.int) ∧ ns.length ≤ 1000 ∧
  ∀ (p : Addr) (c : Nat), c ≤ ns.length → H p = none → Q (.ref p) (upd H p (SetO w p (fun j => decide (j ∈ ns)) c))
theorem cr_setOf (hc : X.calm = true) : CallR X (.type "set") (rSetOf X.K X.w) := by
  intro pins s σ H vs us Q I r h
  obtain ⟨a, ns, rfl, hs, hz, q⟩ := h
  obtain ⟨its, rv, hl, _⟩ := I.list hs
  rw [Vals.ref1 r]
  have b1 : (1002 : Nat) < scanBound := by decide
  refine call_setL ns (I.ok.hd hc) hl.isList rv.ints (by omega) fun h' tk c hS hc' hk => ?_
  exact ⟨.ref _, upd H s.heap.objs.size (SetO X.w s.heap.objs.size (fun j => decide (j ∈ ns)) c), I.laid (t' := tk) hk (Nat.le_refl _) (setO_new hS), rfl, q _ _ hc' (I.hok.fresh (Nat.le_refl _))⟩
/-- sorted(a set) -/
def rSortSet (w : World) : List V → Hp → VK → Prop := fun vs H Q => ∃ (a : Addr) (M : Int → Bool) (n : Nat), vs = [V.ref a] ∧ H a = some (SetO w a M n) ∧ n ≤ 1000 ∧
  ∀ (ns : List Int) (p : Addr), ns.Pairwise (· < ·) → (∀ k : Int, k ∈ ns ↔ M k = true) → ns.length = n → H p = none → Q (.ref p) (upd H p (.lst (ns.map V.int)))
theorem cr_sortSet (hc : X.calm = true) : CallR X (.builtin "sorted") (rSortSet X.w) := by
  intro pins s σ H vs us Q I r h
  obtain ⟨a, M, n, rfl, ha, hz, q⟩ := h
  have R := setO_get I ha
  rw [Vals.ref1 r]
  have b1 : (1000 : Nat) ≤ sizeLine := by rw [sizeLine_eq]; decide
  refine sorted_setN R (I.ok.hd hc) (by omega) fun s' p out c ns k g o hp hg hi hs hm hl => ?_
  have lenn : (ns.map V.int).length ≤ sizeLine := by rw [List.length_map, hl]; omega
  have hn : H p = none := I.hok.fresh hp
  obtain ⟨h', g', d', t', o'⟩ := s'
  have eg : g' = s.gens := g
  have eo : o' = s.os := o
  subst eg eo
  have J : Inv X pins σ (upd H p (.lst (ns.map V.int))) { s with heap := h', gens := s.gens, drawn := d', toks := t' } :=
    I.call (ch := []) (Un.laid k hp hn) (I.hok.laid k hp ⟨lenn, out.toList, c, vals_of_ints hi, hg⟩) I.bare (fun _ z => nomatch z)
  exact ⟨.ref p, _, J, rfl, q ns p hs hm hl hn⟩
end
end Lw

namespace Lw
open PySem PySem.Spec PyProof.Rows L2
section
variable {K : PySem.W.Frag} {te ta tb tc tl td ty tv : TE} {tt tu : TT} {tA : TA} {ρ ρ' ρ0 ρ1 ρ2 ρ3 : Env} {s s1 s2 : Slot} {d e r : D} {ds es fs : List D} {ts tS : TS} {P : Post}

/-! ### dicts with tuple keys -/
theorem ev_dict1 {k : List Key} (h : EvE K te ρ (.own [.tup [.ktup k, d]]) ρ1) : EvE K (tCB (rDict1 K) (tCons te tNil)) ρ (.dT [(k, d)]) ρ1 := by
  intro C σ T H Q hK hs q
  refine h C σ T H _ hK hs fun v H1 h1 => ?_
  obtain ⟨A, sa⟩ := h1
  obtain ⟨a, vs, rfl, ha, h0, hl, r⟩ := sa.lastOwn
  obtain ⟨t, ws, rfl, rt, rn⟩ := r.cons_inv
  rw [rn.nil_inv] at hl
  obtain ⟨b, xs, rfl, at1, r1⟩ := rt.tup_inv
  obtain ⟨x, ys, rfl, rk, r2⟩ := r1.cons_inv
  obtain ⟨y, zs, rfl, rd, r3⟩ := r2.cons_inv
  rw [r3.nil_inv] at at1
  obtain ⟨c, rfl, nc, hc⟩ := rk.ktup_inv
  subst hK
  refine ⟨a, b, c, k, y, rfl, hl, at1.sq, hc, fun p hp => q _ _ (sa.pop.pushNew hp fun A' _ m hA h0 => ⟨p, [(k, y)], rfl, hA, h0, upd_same, rfl, .cons (rd.mv m) .nil⟩)⟩
def hasK (kvs : List (List Key × D)) (k : List Key) : Bool := kvs.any fun kv => decide (kv.1 = k)
theorem valV_has {vs : List (List Key × V)} {kvs : List (List Key × D)} {k : List Key} (h : vs.map (·.1) = kvs.map (·.1)) : (valV vs k).isSome = hasK kvs k := by
  rw [← valV_any]
  unfold hasK
  have a : ∀ {β : Type} (l : List (List Key × β)), (l.any fun kv => decide (kv.1 = k)) = (l.map (·.1)).any fun x => decide (x = k) := fun l => by rw [List.any_map]; rfl
  rw [a, a, h]
theorem ev_dnotin {i : Nat} {kvs : List (List Key × D)} {k : List Key} (h : EvE K ty ρ (.val (.ktup k)) ρ1) (h1 : ρ1[i]? = some (.dT kvs)) : EvE K (tDNotIn ty (tVar i)) ρ (.val (.bl (!hasK kvs k))) ρ1 := by
  intro C σ T H Q hK hs q
  refine h C σ T H _ hK hs fun v H1 hs1 => ?_
  obtain ⟨A, sa⟩ := hs1
  obtain ⟨b, rfl, nb, hb⟩ := sa.lastV.ktup_inv
  obtain ⟨a, vs, e, ha, h0, hd, ek, r⟩ := sa.sl _ _ h1
  refine ⟨.ref a, ?_, a, _, rfl, DGet.t hd hb, ?_⟩
  · cases g : σ[i]? with
    | none => rw [g] at e; cases e
    | some o => rw [g] at e; exact congrArg some e
  · rw [valV_has ek]
    exact q _ _ (S.bl ⟨A, sa.pop⟩ _)
/-- a new key -/
theorem wp_dput {i j : Nat} {kvs : List (List Key × D)} {k : List Key} (h : EvE K tv ρ (.val d) ρ1) (h1 : ρ1[i]? = some (.dT kvs)) (h2 : ρ1[j]? = some (.val (.ktup k))) (hn : hasK kvs k = false) (hz : kvs.length < sizeLine) (kk : P.nx (ρ1.set i (.dT (kvs ++ [(k, d)])))) :
    Wp K (sDPut (tVar i) (tVar j) tv) ρ P := fun C σ T H D hK hs qn qr qb qc => by
  refine h C σ T H _ hK hs fun v H1 hs1 => ?_
  obtain ⟨A, sa⟩ := hs1
  have rd := sa.lastV
  obtain ⟨a, vs, e, ha, h0, hd, ek, r⟩ := sa.sl _ _ h1
  obtain ⟨w, e2, r2⟩ := sa.sl _ _ h2
  obtain ⟨b, rfl, nb, hb⟩ := r2.ktup_inv
  have get : ∀ {n : Nat} {x : V}, σ[n]?.getD none = some x → σ[n]? = some (some x) := fun {n x} e => by
    cases g : σ[n]? with
    | none => rw [g] at e; cases e
    | some o => rw [g] at e; exact congrArg some e
  have hval : valV vs k = none := by
    have := valV_has (k := k) ek
    rw [hn] at this
    cases q : valV vs k with
    | none => rfl
    | some x => rw [q] at this; cases this
  have hlen : vs.length = kvs.length := by
    have := congrArg List.length ek
    simpa using this
  have hp : putK vs k v = vs ++ [(k, v)] := putK_new v hval
  refine ⟨.ref a, get e, .ref b, get e2, a, _, rfl, DPut.t hd hb (by rw [hlen]; exact hz), qn σ _ _ kk ⟨A, sa.pop.mutS ha ?_⟩⟩
  rw [hp]
  have m : Mv (YA C A) H1 (YA C A) (upd H1 a (.dT (vs ++ [(k, v)]))) := SA.mvOwn ha
  refine ⟨a, _, e, ha, h0, upd_same, by rw [List.map_append, List.map_append, ek]; rfl, ?_⟩
  rw [List.map_append, List.map_append]
  exact (r.mv m).append (.cons (rd.mv m) .nil)

/-! ### zip of three, enumerate -/
def dsB : Bool → List D → D
  | true => .lst
  | false => .tup
theorem Rep.sqB {Y : Addr → Prop} {H : Hp} {v : V} {b : Bool} (r : Rep K Y H v (dsB b ds)) : ∃ a xs, v = .ref a ∧ SqB K b H a xs ∧ Reps K Y H xs ds := by
  cases b with
  | true => obtain ⟨a, xs, e, h, q⟩ := Rep.lst_inv r; exact ⟨a, xs, e, h.sq, q⟩
  | false => obtain ⟨a, xs, e, h, q⟩ := Rep.tup_inv r; exact ⟨a, xs, e, h.sq, q⟩
def zip3D : List D → List D → List D → List D
  | x :: xs, y :: ys, z :: zs => .tup [x, y, z] :: zip3D xs ys zs
  | _, _, _ => []
theorem zip3_len : ∀ (xs ys zs : List D), (zip3D xs ys zs).length = min (min xs.length ys.length) zs.length
  | [], _, _ => by simp [zip3D]
  | _ :: _, [], _ => by simp [zip3D]
  | _ :: _, _ :: _, [] => by simp [zip3D]
  | x :: xs, y :: ys, z :: zs => by
    show (zip3D xs ys zs).length + 1 = _
    rw [zip3_len xs ys zs]
    simp only [List.length_cons]
    omega
theorem zip3_get : ∀ {xs ys zs : List D} {i : Nat} {d : D}, (zip3D xs ys zs)[i]? = some d → ∃ x y z, xs[i]? = some x ∧ ys[i]? = some y ∧ zs[i]? = some z ∧ d = .tup [x, y, z]
  | [], _, _, _, _, h => by simp [zip3D] at h
  | _ :: _, [], _, _, _, h => by simp [zip3D] at h
  | _ :: _, _ :: _, [], _, _, h => by simp [zip3D] at h
  | x :: xs, y :: ys, z :: zs, 0, d, h => by
    have e : D.tup [x, y, z] = d := Option.some.inj h
    exact ⟨x, y, z, rfl, rfl, rfl, e.symm⟩
  | x :: xs, y :: ys, z :: zs, i + 1, d, h => zip3_get (xs := xs) (ys := ys) (zs := zs) (i := i) h
theorem ei_zip3 {b1 b2 b3 : Bool} {t1 t2 t3 : TE} (h : EvA K (tCons t1 (tCons t2 (tCons t3 tNil))) ρ ([dsB b1 ds, dsB b2 es, dsB b3 fs].map .val) ρ1) : EvI K (iZip3 K b1 b2 b3 (tCons t1 (tCons t2 (tCons t3 tNil)))) ρ (zip3D ds es fs) ρ1 := fun C σ T H R hK hs q => by
  subst hK
  refine h C σ T H _ rfl hs fun vs H1 hl h1 => ?_
  obtain ⟨A, sa⟩ := id h1
  rw [List.length_map] at hl
  have rr := sa.reps hl
  obtain ⟨v1, w1, rfl, r1, rr⟩ := rr.cons_inv
  obtain ⟨v2, w2, rfl, r2, rr⟩ := rr.cons_inv
  obtain ⟨v3, w3, rfl, r3, rr⟩ := rr.cons_inv
  rw [rr.nil_inv] at h1 ⊢
  obtain ⟨a1, x1, rfl, k1, p1⟩ := r1.sqB
  obtain ⟨a2, x2, rfl, k2, p2⟩ := r2.sqB
  obtain ⟨a3, x3, rfl, k3, p3⟩ := r3.sqB
  refine ⟨a1, a2, a3, x1, x2, x3, rfl, k1, k2, k3, q _ _ _ h1 ?_⟩
  intro σ2 ρ2 T2 H2 hs2
  obtain ⟨B, sb⟩ := id hs2
  have rr := (sb.popL).reps (vs := [.ref a1, .ref a2, .ref a3]) (ds := [dsB b1 ds, dsB b2 es, dsB b3 fs]) rfl
  obtain ⟨v1, w1, e1, r1, rr⟩ := rr.cons_inv
  cases e1
  obtain ⟨v2, w2, e2, r2, rr⟩ := rr.cons_inv
  cases e2
  obtain ⟨v3, w3, e3, r3, rr⟩ := rr.cons_inv
  cases e3
  obtain ⟨c1, y1, e, k1, p1⟩ := r1.sqB
  cases e
  obtain ⟨c2, y2, e, k2, p2⟩ := r2.sqB
  cases e
  obtain ⟨c3, y3, e, k3, p3⟩ := r3.sqB
  cases e
  refine ⟨fun i d hd => ?_, y1, y2, y3, k1, k2, k3, by rw [zip3_len, p1.len, p2.len, p3.len]⟩
  obtain ⟨x, y, z, g1, g2, g3, rfl⟩ := zip3_get hd
  obtain ⟨u1, f1, m1⟩ := p1.get g1
  obtain ⟨u2, f2, m2⟩ := p2.get g2
  obtain ⟨u3, f3, m3⟩ := p3.get g3
  refine ⟨⟨y1, y2, y3, u1, u2, u3, k1, k2, k3, f1, f2, f3⟩, fun v H' hy => ?_⟩
  obtain ⟨Tt, n1, n2, n3, rfl, hT, rfl, j1, j2, j3⟩ := hy
  have c1 := (j1 y1 k1).symm.trans f1
  have c2 := (j2 y2 k2).symm.trans f2
  have c3 := (j3 y3 k3).symm.trans f3
  cases c1; cases c2; cases c3
  exact sb.pushTup hT (.cons m1 (.cons m2 (.cons m3 .nil)))
def enumD (ds : List D) : List D := (List.range ds.length).zipWith (fun (i : Nat) d => .tup [.int (i : Int), d]) ds
theorem enum_get {i : Nat} (h : (enumD ds)[i]? = some d) : ∃ x, ds[i]? = some x ∧ d = .tup [.int (i : Int), x] := by
  unfold enumD at h
  rw [List.getElem?_zipWith] at h
  cases q : (List.range ds.length)[i]? with
  | none => rw [q] at h; cases h
  | some j =>
    obtain ⟨hj, e⟩ := List.getElem?_eq_some_iff.mp q
    rw [List.getElem_range] at e
    subst e
    cases q2 : ds[i]? with
    | none => rw [q, q2] at h; cases h
    | some x => rw [q, q2] at h; cases h; exact ⟨x, rfl, rfl⟩
theorem enum_len : (enumD ds).length = ds.length := by unfold enumD; rw [List.length_zipWith, List.length_range, Nat.min_self]
/-- over an owned slot, which stays owned -/
theorem ei_enumO {k : Nat} (h0 : ρ[k]? = some (.own ds)) : EvIG K (iEnum K (tCons (tVar k) tNil)) ρ (enumD ds) ρ (fun σ σ2 ρ2 => σ2[k]? = σ[k]? ∧ ρ2[k]? = some (.own ds)) := fun C σ T H R hK hs q => by
  subst hK
  obtain ⟨a, vs, hv, hl, hn⟩ := hs.ownS h0
  refine ⟨.ref a, hv, a, vs, rfl, SqL.of hl, q _ [] _ (by rw [List.append_nil]; exact hs) ?_⟩
  intro σ2 ρ2 T2 H2 hG hs2
  obtain ⟨g1, g2⟩ := hG
  obtain ⟨B, sb⟩ := id hs2
  obtain ⟨a', ws, e, _, _, hl2, r⟩ := sb.sl _ _ g2
  rw [g1, hv] at e
  cases e
  refine ⟨fun i d hd => ?_, ws, SqL.of hl2, by rw [enum_len, r.len]; exact Nat.le_refl _⟩
  obtain ⟨x, hx, rfl⟩ := enum_get hd
  obtain ⟨u, f1, m1⟩ := r.get hx
  refine ⟨⟨ws, u, SqL.of hl2, f1⟩, fun v H' hy => ?_⟩
  obtain ⟨Tt, n1, rfl, hT, rfl, j1⟩ := hy
  have c1 := (j1 ws (SqL.of hl2)).symm.trans f1
  cases c1
  exact sb.pushTup hT (.cons (.int _) (.cons m1 .nil))
theorem ei_enum (h : EvE K tl ρ (.val (.lst ds)) ρ1) : EvI K (iEnum K (tCons tl tNil)) ρ (enumD ds) ρ1 := fun C σ T H R hK hs q => by
  subst hK
  refine h C σ T H _ rfl hs fun v H1 h1 => ?_
  obtain ⟨A, sa⟩ := id h1
  obtain ⟨a, xs, rfl, at1, r⟩ := sa.lastV.lst_inv
  refine ⟨a, xs, rfl, at1.sq, q _ _ _ h1 ?_⟩
  intro σ2 ρ2 T2 H2 hs2
  obtain ⟨B, sb⟩ := id hs2
  obtain ⟨a', ws, e, at2, r2⟩ := sb.popL.lastV.lst_inv
  cases e
  refine ⟨fun i d hd => ?_, ws, at2.sq, by rw [enum_len, r2.len]; exact Nat.le_refl _⟩
  obtain ⟨x, hx, rfl⟩ := enum_get hd
  obtain ⟨u, f1, m1⟩ := r2.get hx
  refine ⟨⟨ws, u, at2.sq, f1⟩, fun v H' hy => ?_⟩
  obtain ⟨Tt, n1, rfl, hT, rfl, j1⟩ := hy
  have c1 := (j1 ws at2.sq).symm.trans f1
  cases c1
  exact sb.pushTup hT (.cons (.int _) (.cons m1 .nil))

/-! ### sorted(set(xs)) -/
theorem sorted_eq : ∀ {xs ys : List Int}, xs.Pairwise (· < ·) → ys.Pairwise (· < ·) → (∀ k, k ∈ xs ↔ k ∈ ys) → xs = ys
  | [], [], _, _, _ => rfl
  | [], y :: ys, _, _, h => absurd ((h y).mpr List.mem_cons_self) (by simp)
  | x :: xs, [], _, _, h => absurd ((h x).mp List.mem_cons_self) (by simp)
  | x :: xs, y :: ys, h1, h2, h => by
    obtain ⟨a1, a2⟩ := List.pairwise_cons.mp h1
    obtain ⟨b1, b2⟩ := List.pairwise_cons.mp h2
    have e : x = y := by
      rcases List.mem_cons.mp ((h x).mp List.mem_cons_self) with z | z
      · exact z
      · rcases List.mem_cons.mp ((h y).mpr List.mem_cons_self) with z2 | z2
        · exact z2.symm
        · have := b1 x z; have := a1 y z2; omega
    subst e
    refine congrArg (x :: ·) (sorted_eq a2 b2 fun k => ?_)
    have := h k
    constructor
    · intro m
      rcases List.mem_cons.mp (this.mp (List.mem_cons_of_mem _ m)) with z | z
      · have := a1 k m; omega
      · exact z
    · intro m
      rcases List.mem_cons.mp (this.mpr (List.mem_cons_of_mem _ m)) with z | z
      · have := b1 k m; omega
      · exact z
theorem ev_sortset {w : World} {ns ms : List Int} (h : EvE K te ρ (.val (.lst (ns.map D.int))) ρ1) (hz : ns.length ≤ 1000) (hp : ms.Pairwise (· < ·)) (hm : ∀ k, k ∈ ms ↔ k ∈ ns) : EvE K (tCB (rSortSet w) (tCons (tCB (rSetOf K w) (tCons te tNil)) tNil)) ρ (.own (ms.map D.int)) ρ1 := by
  intro C σ T H Q hK hs q
  subst hK
  refine h C σ T H _ rfl hs fun v H1 h1 => ?_
  obtain ⟨A, sa⟩ := h1
  obtain ⟨a, xs, rfl, at1, r⟩ := sa.lastV.lst_inv
  have e := r.ints
  subst e
  refine ⟨a, ns, rfl, at1.sq, hz, fun p c hc hp1 => ⟨p, _, c, rfl, upd_same, by omega, fun ns' p2 k1 k2 k3 hp2 => ?_⟩⟩
  have e2 : ns' = ms := sorted_eq k1 hp fun k => by rw [k2, hm]; exact decide_eq_true_iff
  subst e2
  have := (sa.pop.ext (ext_new (o := SetO w p (fun j => decide (j ∈ ns)) c) hp1)).pushOwn hp2 (Reps.of_ints (ns := ns'))
  exact q _ _ this
end
end Lw

namespace Lw
open PySem PySem.Spec PyProof.Rows L2
abbrev nI (n : Nat) : D := .int (n : Int)
section
variable {X : Cx} {K : PySem.W.Frag} (e : X.K = K)
include e
theorem cr_dict1K (hc : X.calm = true) (hu : X.A.units + 64 < cLine) : CallR X (.type "dict") (rDict1 K) := e ▸ cr_dict1 hc hu
theorem op_catAK : OpR X (binaryOp .Add) (rCatA K) := e ▸ op_catA
theorem ix_listK : IxR X (rIxL K) := e ▸ ix_list
theorem ix_tupK : IxR X (rIxT K) := e ▸ ix_tup
theorem call_lenK : CallR X (.builtin "len") (rLenS K) := e ▸ call_len_seq
theorem call_tupleK : CallR X (.type "tuple") (rTupleOf K) := e ▸ call_tuple_of
theorem call_listK : CallR X (.type "list") (rListOf K) := e ▸ call_list_of
theorem cr_sumK (hc : X.calm = true) : CallR X (.builtin "sum") (rSum K) := e ▸ cr_sum hc
theorem op_eqDK (hu : X.A.units + 64 < cLine) : OpR X (compareOp .Eq) (rEqD K) := e ▸ op_eqD hu
theorem op_neDK (hu : X.A.units + 64 < cLine) : OpR X (compareOp .NotEq) (rNeD K) := e ▸ op_neD hu
theorem sl_listK : SlR X (rSlL K) := e ▸ sl_list
theorem sl_tupAK : SlR X (rSlA K) := e ▸ sl_tupA
theorem op_inK : OpR X (compareOp .In) (rIn K false) := e ▸ op_in_seq
theorem op_niK : OpR X (compareOp .NotIn) (rIn K true) := e ▸ op_notIn_seq
end
theorem pi_listK {X : Cx} {K : PySem.W.Frag} {tg l : Expr} {tl : TE} (e : X.K = K) (hl : PE X l tl) : PI X tg l (iList K tl) := e ▸ pi_list hl
theorem pi_tupK {X : Cx} {K : PySem.W.Frag} {tg l : Expr} {tl : TE} (e : X.K = K) (hl : PE X l tl) : PI X tg l (iTup K tl) := e ▸ pi_tup hl
theorem pi_zip3K {K : PySem.W.Frag} {X : Cx} (e : X.K = K) (b1 b2 b3 : Bool) {e1 e2 e3 : Expr} {ta : TA} {p pos tpos : Pos} {elts : List Expr} {kk : Nat} (hg : Gl X "zip") (hm : X.mg "zip" = none) (ha : PA X [e1, e2, e3] ta)
    (hs : starEach [e1, e2, e3] X.env = (false, eval e1 X.env) :: starEach [e2, e3] X.env := by rfl) (hpl : (backTo pos (starEach [e2, e3] X.env)).any (·.1) = false := by rfl) :
    PI X (.Tuple elts kk tpos) (.Call (.Name "zip" p) [e1, e2, e3] [] pos) (iZip3 K b1 b2 b3 ta) := e ▸ pi_zip3 b1 b2 b3 hg hm ha hs hpl
theorem pg_tupK {X : Cx} {K : PySem.W.Frag} {pos : Pos} {es : List Expr} {k : Nat} {t : TGs} {n : Nat} (e : X.K = K) (hc : X.calm = true) (h : PGs X es t) (hn : (assignEach es X.env).length = n := by rfl) (hst : (assignEach es X.env).findIdx? (·.1) = none := by rfl) : PG X (.Tuple es k pos) (gTup K n t) := e ▸ pg_tup hc h hn hst
theorem map_range_getD {α : Type} (l : List α) (x : α) : (List.range l.length).map (fun i => l.getD i x) = l := by
  apply List.ext_getElem?
  intro i
  rw [List.getElem?_map]
  by_cases h : i < l.length
  · rw [List.getElem?_eq_getElem (by rw [List.length_range]; exact h), List.getElem_range, List.getElem?_eq_getElem h, Option.map_some, List.getD_eq_getElem?_getD, List.getElem?_eq_getElem h]
    rfl
  · rw [List.getElem?_eq_none (by rw [List.length_range]; omega), List.getElem?_eq_none (by omega)]
    rfl
theorem kept_list {α : Type} (l : List α) (x : α) (f : α → Bool) (e : α → D) : kept (fun i => f (l.getD i x)) (fun i => e (l.getD i x)) l.length = (l.filter f).map e := by
  have h := map_range_getD l x
  unfold kept
  conv => rhs; rw [← h]
  rw [List.filter_map, List.map_map]
  rfl
section
variable {K : PySem.W.Frag} {te : TE} {tt : TT} {ρ : Env} {wi : TI} {g : TG}
/-- a comprehension that changes nothing else -/
theorem ev_lcP {α : Type} (js : List Nat) {vs : List Nat} (l : List α) (x0 : α) (enc : α → D) (f : α → Bool) (e : α → D) (hi : EvI K wi ρ (l.map enc) ρ) (hz : l.length ≤ 1000000) (hv : ∀ v ∈ vs, ρ[v]? = some .no) (hj : ∀ j ∈ js, j ∈ vs)
    (hs : ∀ x ∈ l, ∃ ρ1 ρ2 ρ3, EvG K g js (enc x) ρ ρ1 ∧ EvT K tt ρ1 (f x) ρ2 ∧ (f x = true → EvE K te ρ2 (.val (e x)) ρ3 ∧ Lw.unset ρ3 vs = ρ) ∧ (f x = false → Lw.unset ρ2 vs = ρ)) :
    EvE K (tLc wi g tt te vs) ρ (.own ((l.filter f).map e)) ρ := by
  have h := ev_lc (K := K) (tt := tt) (te := te) (wi := wi) (g := g) (js := js) (vs := vs) (ρ := ρ) (ds := l.map enc) (fun _ => ρ) (fun i => f (l.getD i x0)) (fun i => e (l.getD i x0)) hi (by rw [List.length_map]; exact hz) (fun i _ => hv) hj (fun i d hd => by
    rw [List.getElem?_map] at hd
    obtain ⟨x, hx, rfl⟩ := Option.map_eq_some_iff.mp hd
    have hg : l.getD i x0 = x := by rw [List.getD_eq_getElem?_getD, hx]; rfl
    rw [hg]
    exact hs x (List.mem_of_getElem? hx))
  rw [List.length_map, kept_list] at h
  exact h
/-- the same over an owned slot, by enumerate -/
theorem ev_lcPG {α : Type} (js : List Nat) {vs : List Nat} {G : L2.St → L2.St → Env → Prop} (l : List α) (x0 : α) (enc : Nat → α → D) (f : Nat → α → Bool) (e : Nat → α → D) (hi : EvIG K wi ρ ((List.range l.length).map fun i => enc i (l.getD i x0)) ρ G) (hG : ∀ σ, G σ (wipe σ vs) ρ) (hz : l.length ≤ 1000000) (hv : ∀ v ∈ vs, ρ[v]? = some .no) (hj : ∀ j ∈ js, j ∈ vs)
    (hs : ∀ i x, l[i]? = some x → ∃ ρ1 ρ2 ρ3, EvG K g js (enc i x) ρ ρ1 ∧ EvT K tt ρ1 (f i x) ρ2 ∧ (f i x = true → EvE K te ρ2 (.val (e i x)) ρ3 ∧ Lw.unset ρ3 vs = ρ) ∧ (f i x = false → Lw.unset ρ2 vs = ρ)) :
    EvE K (tLc wi g tt te vs) ρ (.own (kept (fun i => f i (l.getD i x0)) (fun i => e i (l.getD i x0)) l.length)) ρ := by
  have h := ev_lcG (K := K) (tt := tt) (te := te) (wi := wi) (g := g) (js := js) (vs := vs) (ρ := ρ) (G := G) (ds := (List.range l.length).map fun i => enc i (l.getD i x0)) (fun _ => ρ) (fun i => f i (l.getD i x0)) (fun i => e i (l.getD i x0)) hi (fun σ i _ => hG σ) (by rw [List.length_map, List.length_range]; exact hz) (fun i _ => hv) hj (fun i d hd => by
    rw [List.getElem?_map] at hd
    obtain ⟨j, hj', rfl⟩ := Option.map_eq_some_iff.mp hd
    obtain ⟨hlt, e1⟩ := List.getElem?_eq_some_iff.mp hj'
    rw [List.length_range] at hlt
    rw [List.getElem_range] at e1
    subst e1
    have hx : l[i]? = some (l.getD i x0) := by rw [List.getD_eq_getElem?_getD, List.getElem?_eq_getElem hlt]; rfl
    exact hs i _ hx)
  rw [List.length_map, List.length_range] at h
  exact h
end
section
variable {P : Program} {w : World} {K : PySem.W.Frag} {mg : Str → Option Value} {base : Heap}
theorem fn_make {x qual : Str} {st : Stmt} {f : Addr} {fd : FuncData} {N ps : List Str} {k : Nat} {R : List D → DealS → Prop} (F : Fun K x qual st f fd) (Sc : FnScope N ps (defScope st)) (hn : ∀ ds r, R ds r → ds.length = ps.length)
    (hbody : ∀ (cdv : Value) (A : Around) (outer : List PySem.Env) (s : Shared) (H : Hp) (E : XK) (ds : List D) (y : DealS), Room k (A.deeper (envOfC qual (defScope st) s.heap.objs.size f cdv)) → R ds y →
      ∃ t, PSs (cxOf CX0 P w K mg base N qual (defScope st) f cdv A outer s H E).nox (defBody st) t ∧ Wp K t (ds.map .val ++ List.replicate (N.length - ds.length) .no) { nx := fun _ => False, rt := fun s _ => s = .deal false y.1 y.2.1 y.2.2 }) : FnOk P w K mg base CX0 (k + 1) f fd ps (spM K R) := by
  refine F.ok Sc (fun vs H Q E h => ?_) (fun cdv A outer s H vs Q E hr h => ?_)
  · obtain ⟨X0, ds, r, hX, rs, hR, _⟩ := h
    rw [rs.len]; exact hn ds r hR
  · obtain ⟨X0, ds, r, hX, rs, hR, q⟩ := h
    obtain ⟨t, h1, h2⟩ := hbody cdv A outer s H E ds r hr hR
    refine ⟨t, h1, ?_⟩
    let C : Ctx := ⟨K, X0, fun _ => False, H, none, hX, fun _ z => z.elim⟩
    have sa : SA C (fun _ _ _ => False) (L2.start N vs) (ds.map .val ++ List.replicate (N.length - ds.length) .no) [] H := by
      refine ⟨by simp only [L2.start, List.length_append, List.length_map, List.length_replicate, rs.len], fun a o _ z => z, fun a z => hX a z, fun _ _ _ z => z.elim, fun _ _ _ _ _ z => z.elim, ?_, fun i v s q => by cases q⟩
      unfold L2.start
      rw [rs.len]
      exact Reps.sl (C := C) rfl (rs.mv fun a o n q => ⟨fun z => by rcases z with z | ⟨_, _, z⟩; exact n z; exact z, q⟩)
    refine h2 C _ [] H _ rfl ⟨_, sa⟩ (fun σ' ρ' H' e hs => e.elim) (fun v s' σ' ρ' H' e hs => ?_) (fun _ _ _ e _ => e.elim) (fun _ _ _ e _ => e.elim)
    obtain ⟨A', sa'⟩ := hs
    subst e
    obtain ⟨a, g, e1, ha, hg, _, dl⟩ := sa'.last
    cases e1
    have n1 : C.H0 a = none := (sa'.ow _ _ _ ha).2.resolve_right (fun z => z)
    have n2 : C.H0 g = none := (sa'.ow _ _ _ hg).2.resolve_right (fun z => z)
    exact q a g H' (fun a o z => sa'.fr a o (fun z => z) z) n1 n2 dl
end
theorem log2_le {n m : Nat} (h : n ≤ 2 ^ m) : n.log2 ≤ m := by
  have h2 : n < 2 ^ (m + 1) := Nat.lt_of_le_of_lt h (Nat.pow_lt_pow_right (by decide) (Nat.lt_succ_self m))
  exact Nat.le_of_lt_succ (PySem.Flt.log2_lt_of (Nat.succ_pos m) h2)
theorem cmul_of {i j : Int} {a b : Nat} (ha : i.natAbs ≤ 2 ^ a) (hb : j.natAbs ≤ 2 ^ b) (h : a + b < 1000000) : CMulW i j := by
  have x := log2_le ha
  have y := log2_le hb
  unfold CMulW
  omega
end Lw
namespace Lw
open PySem PySem.Spec PyProof.Rows L2
theorem cr_setOfK {X : Cx} {K : PySem.W.Frag} (e : X.K = K) (hc : X.calm = true) : CallR X (.type "set") (rSetOf K X.w) := e ▸ cr_setOf hc
end Lw

namespace K55
open PySem PySem.Spec PyProof.Rows L2 Lw
def topS (i : Nat) : Stmt := PySem.Challenge.pw_addalong_k55_generating_tuples_counted.main.body.getD i (.Pass ⟨0, 0, 0, 0⟩)
theorem sz {n : Nat} (h : n ≤ 1000) : n ≤ sizeLine := Nat.le_of_lt (small1000 h)
section
variable {P : Program} {w : World} {K : PySem.W.Frag} {mg : Str → Option Value} {base : Heap} {f : Addr} {fd : FuncData}
abbrev s_product : Stmt := topS 1
abbrev N_product : List Str := ["numbers", "found", "number"]
theorem sc_product : FnScope ["numbers", "found", "number"] ["numbers"] (defScope s_product) := ⟨rfl, rfl, rfl, by decide +kernel, rfl, by decide +kernel, by decide +kernel⟩

def prodI (ns : List Int) : Int := ns.foldl (· * ·) 1
/-- bounds: all partial products below 2 ^ 9000 -/
def SmallP (ns : List Int) : Prop := ∀ k, k ≤ ns.length → (prodI (ns.take k)).natAbs.log2 < 9000 ∧ ∀ x ∈ ns, x.natAbs.log2 < 9000
def R_product : List D → D → Prop := fun ds r => ∃ ns : List Int, (ds = [.lst (ns.map .int)] ∨ ds = [.tup (ns.map .int)]) ∧ SmallP ns ∧ r = .int (prodI ns)
theorem prod_take {ns : List Int} {i : Nat} {x : Int} (h : ns[i]? = some x) : prodI (ns.take (i + 1)) = prodI (ns.take i) * x := by
  unfold prodI
  rw [List.take_add_one, h, Option.toList_some, List.foldl_append]
  rfl
theorem ok_product {k : Nat} (F : Fun K "product" "product" s_product f fd) : FnOk P w K mg base CX0 (k + 1) f fd ["numbers"] (spP K R_product) := by
  refine fn_pure F sc_product (fun ds r h => by obtain ⟨ns, rfl | rfl, _⟩ := h <;> rfl) fun cdv A outer s H E ds r hr h => ?_
  obtain ⟨ns, hds, hsm, rfl⟩ := h
  rcases hds with rfl | rfl
  · 
    refine ⟨_, (pss_cons
    (ps_set (i := 1) sc_product.nd rfl (.inl rfl) pe_int)
    (pss_cons
    (ps_for PassesOwn.never rfl (pi_list (pv 0)) (pg_name (i := 2) sc_product.nd rfl (.inl rfl)) (pss_one
      (ps_set (i := 1) sc_product.nd rfl (.inl rfl) (pe_op op_mulW (pv 1) (pv 2)))))
    (pss_one
    (ps_ret (pv 1))))), ?_⟩
    show Wp K _ [_, _, _] _
    refine wp_seq (wp_set ev_int (ltn (n := 3) (by decide) rfl) ?_)
    refine wp_seq (wp_for (fun i ρ => ∃ z, ρ = [.val (.lst (ns.map .int)), .val (.int (prodI (ns.take i))), z]) (ei_list (ev_var rfl)) ⟨_, rfl⟩ ?_ ?_)
    · rintro i d ρ hd ⟨z, rfl⟩
      rw [List.getElem?_map] at hd
      obtain ⟨x, hx, rfl⟩ := Option.map_eq_some_iff.mp hd
      have hm := List.mem_of_getElem? hx
      have hi : i < ns.length := (List.getElem?_eq_some_iff.mp hx).1
      refine ⟨_, ⟨_, eg_name (ltn (n := 3) (by decide) rfl)⟩, ?_⟩
      refine wp_set (ev_opC (ev_var rfl) (ev_var rfl) ?_) (ltn (n := 3) (by decide) rfl) ?_
      · have h1 := (hsm i (by omega)).1
        have h2 := (hsm i (by omega)).2 x hm
        unfold CMulW
        omega
      · exact ⟨_, by rw [prod_take hx]; rfl⟩
    · rintro ρ ⟨z, rfl⟩
      refine wp_ret (ev_var rfl) ?_
      rw [List.length_map, List.take_length]
      rfl
  · 
    refine ⟨_, (pss_cons
    (ps_set (i := 1) sc_product.nd rfl (.inl rfl) pe_int)
    (pss_cons
    (ps_for PassesOwn.never rfl (pi_tup (pv 0)) (pg_name (i := 2) sc_product.nd rfl (.inl rfl)) (pss_one
      (ps_set (i := 1) sc_product.nd rfl (.inl rfl) (pe_op op_mulW (pv 1) (pv 2)))))
    (pss_one
    (ps_ret (pv 1))))), ?_⟩
    show Wp K _ [_, _, _] _
    refine wp_seq (wp_set ev_int (ltn (n := 3) (by decide) rfl) ?_)
    refine wp_seq (wp_for (fun i ρ => ∃ z, ρ = [.val (.tup (ns.map .int)), .val (.int (prodI (ns.take i))), z]) (ei_tup (ev_var rfl)) ⟨_, rfl⟩ ?_ ?_)
    · rintro i d ρ hd ⟨z, rfl⟩
      rw [List.getElem?_map] at hd
      obtain ⟨x, hx, rfl⟩ := Option.map_eq_some_iff.mp hd
      have hm := List.mem_of_getElem? hx
      have hi : i < ns.length := (List.getElem?_eq_some_iff.mp hx).1
      refine ⟨_, ⟨_, eg_name (ltn (n := 3) (by decide) rfl)⟩, ?_⟩
      refine wp_set (ev_opC (ev_var rfl) (ev_var rfl) ?_) (ltn (n := 3) (by decide) rfl) ?_
      · have h1 := (hsm i (by omega)).1
        have h2 := (hsm i (by omega)).2 x hm
        unfold CMulW
        omega
      · exact ⟨_, by rw [prod_take hx]; rfl⟩
    · rintro ρ ⟨z, rfl⟩
      refine wp_ret (ev_var rfl) ?_
      rw [List.length_map, List.take_length]
      rfl
end
end K55

namespace K55
open PySem PySem.Spec PyProof.Rows L2 Lw
/-! ### the mirror -/
def strip : Nat → Nat → Nat → Nat
  | 0, l, _ => l
  | f + 1, l, p => if l % p = 0 then strip f (l / p) p else l
def primesF : Nat → Nat → Nat → List Nat → List Nat
  | 0, _, _, acc => acc
  | f + 1, l, p, acc => if l ≤ 1 then acc else
      let q := if p * p > l then l else p
      if l % q = 0 then primesF f (strip l l q) (q + 1) (acc ++ [q]) else primesF f l (q + 1) acc
def primesN (n : Nat) : List Nat := primesF (2 * n) n 2 []
abbrev nI (n : Nat) : D := .int (n : Int)
def R_primes : List D → D → Prop := fun ds r => ∃ n : Nat, ds = [nI n] ∧ 1 ≤ n ∧ n ≤ 10000 ∧ r = .lst ((primesN n).map nI)
theorem strip_le : ∀ f l p, 2 ≤ p → strip f l p ≤ l
  | 0, l, p, _ => Nat.le_refl _
  | f + 1, l, p, h => by
    unfold strip
    split
    · exact Nat.le_trans (strip_le f (l / p) p h) (Nat.div_le_self _ _)
    · exact Nat.le_refl _
theorem strip_pos : ∀ f l p, 2 ≤ p → 1 ≤ l → 1 ≤ strip f l p
  | 0, l, p, _, h => h
  | f + 1, l, p, h, h1 => by
    unfold strip
    split
    · rename_i hd
      refine strip_pos f (l / p) p h ?_
      have := Nat.div_add_mod l p
      rcases Nat.eq_zero_or_pos (l / p) with z | z
      · rw [z, hd] at this; omega
      · exact z
    · exact h1
section
variable {P : Program} {w : World} {K : PySem.W.Frag} {mg : Str → Option Value} {base : Heap} {f : Addr} {fd : FuncData}
abbrev s_primes_of : Stmt := topS 2
abbrev N_primes_of : List Str := ["number", "found", "left", "prime"]
theorem sc_primes_of : FnScope ["number", "found", "left", "prime"] ["number"] (defScope s_primes_of) := ⟨rfl, rfl, rfl, by decide +kernel, rfl, by decide +kernel, by decide +kernel⟩
theorem ok_primes {k : Nat} (F : Fun K "primes_of" "primes_of" s_primes_of f fd) : FnOk P w K mg base CX0 (k + 1) f fd ["number"] (spP K R_primes) := by
  refine fn_pure F sc_primes_of (fun ds r h => by obtain ⟨ns, rfl, _⟩ := h; rfl) fun cdv A outer s H E ds r hr h => ?_
  obtain ⟨n, rfl, h1, h2, rfl⟩ := h
  refine ⟨_, (pss_cons
    (ps_set (i := 1) sc_primes_of.nd rfl (.inl rfl) (pe_lst pa_nil))
    (pss_cons
    (ps_par (i := 2) (j := 3) (by rfl) sc_primes_of.nd rfl rfl (by decide) rfl rfl (pa_cons (pv 0) (pa_cons pe_int pa_nil)) (by rfl))
    (pss_cons
    (ps_while PassesOwn.never (pt_cmpR op_gt (pv 2) pe_int (nomark _)) (pss_cons
      (ps_if (pt_cmpR op_gt (pe_op op_mulW (pv 3) (pv 3)) (pv 2) (nomark _)) (pss_one
        (ps_set (i := 3) sc_primes_of.nd rfl (.inl rfl) (pv 2))) pss_nil)
      (pss_cons
      (ps_if (pt_cmpR op_eq (pe_op op_mod (pv 2) (pv 3)) pe_int (nomark _)) (pss_cons
        (ps_expr (pe_bm PySem.F.plainAttrs_list PySem.F.slot_list_append PySem.F.type_list_append mt_append (pv 1) (pa_cons (pv 3) pa_nil)))
        (pss_one
        (ps_while PassesOwn.never (pt_cmpR op_eq (pe_op op_mod (pv 2) (pv 3)) pe_int (nomark _)) (pss_one
          (ps_set (i := 2) sc_primes_of.nd rfl (.inl rfl) (pe_op op_fdiv (pv 2) (pv 3))))))) pss_nil)
      (pss_one
      (ps_aug (i := 3) sc_primes_of.nd rfl (.inl rfl) pe_int ip_add)))))
    (pss_one
    (ps_ret (pv 1)))))), ?_⟩
  show Wp K _ [_, _, _, _] _
  refine wp_seq (wp_set (ev_lst (ds := []) ea_nil (sz (by decide))) (ltn (n := 4) (by decide) rfl) ?_)
  refine wp_seq (wp_par (ea_cons (ev_var rfl) (ea_cons ev_int ea_nil)) (ltn (n := 4) (by decide) rfl) (ltn (n := 4) (by decide) rfl) (by decide) ?_)
  refine wp_seq (wp_while (fun ρ => ∃ (f l p : Nat) (acc : List Nat), ρ = [.val (nI n), .own (acc.map nI), .val (nI l), .val (nI p)] ∧ primesF f l p acc = primesN n ∧ l + (l - p) ≤ f ∧ 1 ≤ l ∧ l ≤ 10000 ∧ 2 ≤ p ∧ p ≤ 10001 ∧ acc.length + f ≤ 30000) (fun ρ => match ρ with
    | [_, _, .val (.int l), .val (.int p)] => l.toNat + (l.toNat - p.toNat)
    | _ => 0) ?_ ?_)
  · exact ⟨2 * n, n, 2, [], rfl, rfl, by omega, h1, h2, by omega, by omega, by simp; omega⟩
  · rintro ρ ⟨f, l, p, acc, rfl, hf, hm, l1, l2, p1, p2, ha⟩
    refine ⟨_, _, et_test (ev_op0B (ev_var rfl) ev_int), fun hc => ?_, fun hc => ?_⟩
    · have hl : 1 < l := by have := of_decide_eq_true hc; omega
      obtain ⟨f, rfl⟩ : ∃ g, f = g + 1 := ⟨f - 1, by omega⟩
      have hsq : p * p ≤ 10001 * 10001 := Nat.mul_le_mul p2 p2
      let q := if p * p > l then l else p
      have hq2 : 2 ≤ q := by show 2 ≤ if _ then _ else _; split <;> omega
      have hql : q ≤ 10001 := by show (if _ then _ else _) ≤ _; split <;> omega
      have hqm : q ≤ l := by
        show (if p * p > l then l else p) ≤ l
        split
        · exact Nat.le_refl _
        · have : p * 1 ≤ p * p := Nat.mul_le_mul_left p (by omega)
          omega
      have hstep : primesF (f + 1) l p acc = if l % q = 0 then primesF f (strip l l q) (q + 1) (acc ++ [q]) else primesF f l (q + 1) acc := by
        show (if l ≤ 1 then acc else _) = _
        rw [if_neg (by omega)]
      refine wp_seqM (fun ρ => ρ = [.val (nI n), .own (acc.map nI), .val (nI l), .val (nI q)]) (wp_if (et_test (ev_op0B (ev_opC (ev_var rfl) (ev_var rfl) ?_) (ev_var rfl))) (fun hc => ?_) (fun hc => ?_)) ?_
      · exact wide_mul (a := 20) (b := 20) (by show (p : Int).natAbs < 2 ^ 20; omega) (by show (p : Int).natAbs < 2 ^ 20; omega) (by decide) (by decide) (by decide)
      · have hq : q = l := if_pos (by have := of_decide_eq_true hc; exact Int.ofNat_lt.mp (by rw [Int.natCast_mul]; exact this))
        refine wp_set (ev_var rfl) (ltn (n := 4) (by decide) rfl) ?_
        show _ = _
        rw [hq]
        rfl
      · have hq : q = p := if_neg (by have := of_decide_eq_false hc; intro z; exact this (by have := Int.ofNat_lt.mpr z; rw [Int.natCast_mul] at this; exact this))
        refine wp_next ?_
        show _ = _
        rw [hq]
      rintro ρ' rfl
      have emod : ((l : Int) % (q : Int)) = ((l % q : Nat) : Int) := (Int.natCast_emod l q).symm
      refine wp_seqM (fun ρ => ∃ (f' l' : Nat) (acc' : List Nat), ρ = [.val (nI n), .own (acc'.map nI), .val (nI l'), .val (nI q)] ∧ primesF f' l' (q + 1) acc' = primesN n ∧ l' + (l' - (q + 1)) < l + (l - p) ∧ l' + (l' - (q + 1)) ≤ f' ∧ 1 ≤ l' ∧ l' ≤ 10000 ∧ q ≤ 10000 ∧ acc'.length + f' ≤ 30000) (wp_if (et_test (ev_eqI (ev_opC (ev_var rfl) (ev_var rfl) ?_) ev_int)) (fun hc => ?_) (fun hc => ?_)) ?_
      · show (0 : Int) < (q : Int); omega
      · have hd : l % q = 0 := by have := of_decide_eq_true hc; rw [emod] at this; omega
        rw [if_pos hd] at hstep
        refine wp_seq (wp_app rfl (ev_var rfl) rfl ?_ ?_)
        · rw [List.length_map]
          exact Nat.lt_of_lt_of_le (by omega : acc.length < 100000) (by rw [sizeLine_eq]; decide)
        refine wp_while (fun ρ => ∃ (g x : Nat), ρ = [.val (nI n), .own ((acc ++ [q]).map nI), .val (nI x), .val (nI q)] ∧ strip g x q = strip l l q ∧ x ≤ g ∧ 1 ≤ x ∧ x ≤ l) (fun ρ => match ρ with
          | [_, _, .val (.int x), _] => x.toNat
          | _ => 0) ?_ ?_
        · exact ⟨l, l, by rw [List.map_append]; rfl, rfl, Nat.le_refl _, by omega, Nat.le_refl _⟩
        · rintro ρ ⟨g, x, rfl, hg, hx1, hx2, hx3⟩
          have emod2 : ((x : Int) % (q : Int)) = ((x % q : Nat) : Int) := (Int.natCast_emod x q).symm
          obtain ⟨g, rfl⟩ : ∃ y, g = y + 1 := ⟨g - 1, by omega⟩
          have hs1 : strip (g + 1) x q = if x % q = 0 then strip g (x / q) q else x := rfl
          refine ⟨_, _, et_test (ev_eqI (ev_opC (ev_var rfl) (ev_var rfl) ?_) ev_int), fun hc => ?_, fun hc => ?_⟩
          · show (0 : Int) < (q : Int); omega
          · have hd2 : x % q = 0 := by have := of_decide_eq_true hc; rw [emod2] at this; omega
            rw [if_pos hd2] at hs1
            have hlt : x / q < x := Nat.div_lt_self hx2 hq2
            have hpos : 1 ≤ x / q := by
              have := Nat.div_add_mod x q
              rcases Nat.eq_zero_or_pos (x / q) with z | z
              · rw [z, hd2] at this; omega
              · exact z
            refine wp_set (ev_opC (ev_var rfl) (ev_var rfl) ?_) (ltn (n := 4) (by decide) rfl) ?_
            · show (0 : Int) < (q : Int) ∧ (q : Int) < 1073741824; omega
            · refine ⟨⟨g, x / q, ?_, by rw [← hs1]; exact hg, by omega, hpos, by omega⟩, ?_⟩
              · show [_, _, Slot.val (.int ((x : Int) / (q : Int))), _] = _
                rw [← Int.natCast_ediv]
              · show ((x : Int) / (q : Int)).toNat < (x : Int).toNat
                have e2 : ((x : Int) / (q : Int)).toNat = x / q := by rw [← Int.natCast_ediv]; exact Int.toNat_natCast _
                rw [e2]
                exact hlt
          · have hd2 : ¬ x % q = 0 := by have := of_decide_eq_false hc; rw [emod2] at this; omega
            rw [if_neg hd2] at hs1
            rw [hs1] at hg
            have hxl : x ≠ l := fun e => hd2 (e ▸ hd)
            have hll : 2 * x ≤ l := by
              have hg' : x = strip l l q := hg
              obtain ⟨m, hm'⟩ : ∃ m, l = m + 1 := ⟨l - 1, by omega⟩
              have : strip l l q = strip m (l / q) q := by
                rw [show strip l l q = strip (m + 1) l q by rw [← hm']]
                show (if l % q = 0 then strip m (l / q) q else l) = _
                rw [if_pos hd]
              have h3 := strip_le m (l / q) q hq2
              rw [← this, ← hg'] at h3
              have h4 : l / q ≤ l / 2 := Nat.div_le_div_left hq2 (by decide)
              omega
            refine ⟨f, x, acc ++ [q], rfl, ?_, ?_, ?_, hx2, by omega, by omega, by simp; omega⟩
            · rw [hg, ← hstep]; exact hf
            · show x + (x - (q + 1)) < l + (l - p); omega
            · omega
      · have hd : ¬ l % q = 0 := by have := of_decide_eq_false hc; rw [emod] at this; omega
        rw [if_neg hd] at hstep
        have hqp : q = p := by
          show (if p * p > l then l else p) = p
          by_cases z : p * p > l
          · exfalso; apply hd; show l % (if p * p > l then l else p) = 0; rw [if_pos z]; exact Nat.mod_self l
          · rw [if_neg z]
        have hpl : p < l := by
          rcases Nat.lt_or_ge p l with z | z
          · exact z
          · exfalso; apply hd
            have : q = l := by omega
            rw [this]; exact Nat.mod_self l
        refine wp_next ⟨f, l, acc, rfl, by rw [← hstep]; exact hf, ?_, ?_, by omega, l2, by omega, by omega⟩
        · omega
        · omega
      rintro ρ' ⟨f', l', acc', rfl, e1, e2, e3, e4, e5, e6, e7⟩
      refine wp_aug rfl ev_int ?_ (ltn (n := 4) (by decide) rfl)
      refine ⟨⟨f', l', q + 1, acc', rfl, e1, e3, e4, e5, by omega, by omega, e7⟩, ?_⟩
      show (l' : Int).toNat + ((l' : Int).toNat - ((q : Int) + 1).toNat) < (l : Int).toNat + ((l : Int).toNat - (p : Int).toNat)
      omega
    · have hl : ¬ 1 < l := by have := of_decide_eq_false hc; omega
      refine wp_ret (ev_varF rfl) ?_
      show some (D.lst _) = some _
      have : primesF f l p acc = acc := by
        cases f with
        | zero => rfl
        | succ f => show (if l ≤ 1 then acc else _) = _; rw [if_pos (by omega)]
      rw [← hf, this]
end
end K55

namespace K55
open PySem PySem.Spec PyProof.Rows L2 Lw
/-! ### products of small naturals -/
def prodN (l : List Nat) : Nat := l.foldl (· * ·) 1
theorem foldl_cast : ∀ (l : List Nat) (a : Nat), (l.map fun (n : Nat) => (n : Int)).foldl (· * ·) (a : Int) = ((l.foldl (· * ·) a : Nat) : Int)
  | [], _ => rfl
  | x :: l, a => by
    show (l.map fun (n : Nat) => (n : Int)).foldl (· * ·) ((a : Int) * (x : Int)) = _
    rw [← Int.natCast_mul, foldl_cast l (a * x)]
    rfl
theorem prodI_cast (l : List Nat) : prodI (l.map fun (n : Nat) => (n : Int)) = (prodN l : Int) := foldl_cast l 1
theorem foldl_bound : ∀ (l : List Nat) (a b c : Nat), (∀ x ∈ l, x ≤ 2 ^ b) → a ≤ 2 ^ c → l.foldl (· * ·) a ≤ 2 ^ (c + b * l.length)
  | [], a, b, c, _, h => by simpa using h
  | x :: l, a, b, c, hx, h => by
    have h1 : a * x ≤ 2 ^ (c + b) := by rw [Nat.pow_add]; exact Nat.mul_le_mul h (hx x List.mem_cons_self)
    have h2 := foldl_bound l (a * x) b (c + b) (fun y hy => hx y (List.mem_cons_of_mem _ hy)) h1
    have e : c + b * (x :: l).length = c + b + b * l.length := by rw [List.length_cons, Nat.mul_add]; omega
    rw [e]
    exact h2
theorem prodN_bound {l : List Nat} {b : Nat} (h : ∀ x ∈ l, x ≤ 2 ^ b) : prodN l ≤ 2 ^ (b * l.length) := by
  have := foldl_bound l 1 b 0 h (by decide)
  rw [Nat.zero_add] at this
  exact this
theorem smallP {l : List Nat} {b : Nat} (h : ∀ x ∈ l, x ≤ 2 ^ b) (hb : b * l.length < 9000 ∧ b < 9000) : SmallP (l.map fun (n : Nat) => (n : Int)) := by
  intro k hk
  constructor
  · rw [← List.map_take, prodI_cast]
    have h1 := prodN_bound (l := l.take k) (b := b) fun x hx => h x (List.mem_of_mem_take hx)
    have h2 : b * (l.take k).length ≤ b * l.length := Nat.mul_le_mul_left b (by rw [List.length_take]; omega)
    have h3 := log2_le (Nat.le_trans h1 (Nat.pow_le_pow_right (by decide) h2))
    show Nat.log2 (prodN (l.take k)) < 9000
    omega
  · intro x hx
    obtain ⟨n, hn, rfl⟩ := List.mem_map.mp hx
    have := log2_le (h n hn)
    show Nat.log2 n < 9000
    omega
theorem map_nI (l : List Nat) : l.map nI = (l.map fun (n : Nat) => (n : Int)).map D.int := by rw [List.map_map]; rfl
/-! ### power -/
def R_power : List D → D → Prop := fun ds r => ∃ a m : Nat, ds = [nI a, nI m] ∧ a ≤ 16384 ∧ m ≤ 6 ∧ r = nI (a ^ m)
section
variable {P : Program} {w : World} {K : PySem.W.Frag} {mg : Str → Option Value} {base : Heap} {f : Addr} {fd : FuncData}
abbrev s_law_power : Stmt := topS 7
abbrev N_law_power : List Str := ["_law_number", "_law_many", "_law_found", "_law_turn"]
theorem sc_law_power : FnScope ["_law_number", "_law_many", "_law_found", "_law_turn"] ["_law_number", "_law_many"] (defScope s_law_power) := ⟨rfl, rfl, rfl, by decide +kernel, rfl, by decide +kernel, by decide +kernel⟩
theorem ok_power {k : Nat} (F : Fun K "_law_power" "_law_power" s_law_power f fd) (Z_range : mg "range" = none) : FnOk P w K mg base CX0 (k + 1) f fd ["_law_number", "_law_many"] (spP K R_power) := by
  refine fn_pure F sc_law_power (fun ds r h => by obtain ⟨a, m, rfl, _⟩ := h; rfl) fun cdv A outer s H E ds r hr h => ?_
  obtain ⟨a, m, rfl, ha, hm, rfl⟩ := h
  refine ⟨_, (pss_cons
    (ps_set (i := 2) sc_law_power.nd rfl (.inl rfl) pe_int)
    (pss_cons
    (ps_for PassesOwn.never rfl (pi_range1 (by rfl) Z_range (pa_cons (pv 1) pa_nil)) (pg_name (i := 3) sc_law_power.nd rfl (.inl rfl)) (pss_one
      (ps_set (i := 2) sc_law_power.nd rfl (.inl rfl) (pe_op op_mulW (pv 2) (pv 0)))))
    (pss_one
    (ps_ret (pv 2))))), ?_⟩
  show Wp K _ [_, _, _, _] _
  refine wp_seq (wp_set ev_int (ltn (n := 4) (by decide) rfl) ?_)
  refine wp_seq (wp_for (fun i ρ => ∃ z, ρ = [.val (nI a), .val (nI m), .val (nI (a ^ i)), z]) (ei_range1 (ea_cons (ev_var rfl) ea_nil) ?_) ?_ ?_ ?_)
  · omega
  · exact ⟨_, rfl⟩
  · rintro i d ρ hd ⟨z, rfl⟩
    have hi : i < m := by
      have := (List.getElem?_eq_some_iff.mp hd).1
      unfold rangeD at this
      simpa using this
    refine ⟨_, ⟨_, eg_name (ltn (n := 4) (by decide) rfl)⟩, ?_⟩
    refine wp_set (ev_opC (ev_var rfl) (ev_var rfl) ?_) (ltn (n := 4) (by decide) rfl) ?_
    · have h1 : a ^ i ≤ (2 ^ 14) ^ i := Nat.pow_le_pow_left ha i
      rw [← Nat.pow_mul] at h1
      exact cmul_of (a := 14 * i) (b := 14) h1 ha (by omega)
    · refine ⟨.val d, ?_⟩
      show [_, _, Slot.val (.int (((a ^ i : Nat) : Int) * (a : Int))), _] = _
      rw [← Int.natCast_mul, ← Nat.pow_succ]
  · rintro ρ ⟨z, rfl⟩
    have e : (rangeD 0 ((m : Int)).toNat).length = m := by unfold rangeD; simp
    rw [e]
    exact wp_ret (ev_var rfl) rfl

/-! ### count_generating -/
def cgStep (p many c : Nat) (f k : Nat) : Nat := f / p ^ (many - c + 1 + k) * (p ^ (many - c + 1 + k) - 1)
def cgP (divs : List Nat) (many : Nat) (found p : Nat) : Option Nat :=
  let c := (divs.filter fun d => d % p == 0).length
  if many < c then none else some ((List.range c).foldl (cgStep p many c) found)
def lastN (divs : List Nat) : Nat := divs.getLast?.getD 1
def cg (divs : List Nat) (many : Nat) : Nat := ((primesN (lastN divs)).foldlM (cgP divs many) (prodN divs ^ many)).getD 0
def R_cg : List D → D → Prop := fun ds r => ∃ (divs : List Nat) (many : Nat), ds = [.tup (divs.map nI), nI many] ∧ divs.length ≤ 3 ∧ (∀ d ∈ divs, 1 ≤ d ∧ d ≤ 10000) ∧ many ≤ 6 ∧ r = nI (cg divs many)
theorem primes_bound : ∀ (f l p : Nat) (acc : List Nat) (L : Nat), 2 ≤ p → (∀ a ∈ acc, 2 ≤ a ∧ a ≤ L) → l ≤ L → ∀ a ∈ primesF f l p acc, 2 ≤ a ∧ a ≤ L
  | 0, l, p, acc, L, hp, ha, hl => ha
  | f + 1, l, p, acc, L, hp, ha, hl => by
    unfold primesF
    split
    · exact ha
    · rename_i h1
      have q2 : 2 ≤ (if p * p > l then l else p) := by split <;> omega
      have ql : (if p * p > l then l else p) ≤ l := by
        split
        · exact Nat.le_refl _
        · have : p * 1 ≤ p * p := Nat.mul_le_mul_left p (by omega)
          omega
      show ∀ a ∈ (if l % (if p * p > l then l else p) = 0 then primesF f (strip l l (if p * p > l then l else p)) ((if p * p > l then l else p) + 1) (acc ++ [if p * p > l then l else p]) else primesF f l ((if p * p > l then l else p) + 1) acc), _
      generalize (if p * p > l then l else p) = q at q2 ql ⊢
      split
      · refine primes_bound f _ _ _ L (by omega) (fun a hm => ?_) (Nat.le_trans (strip_le _ _ _ q2) hl)
        rcases List.mem_append.mp hm with hm | hm
        · exact ha a hm
        · rw [List.mem_singleton.mp hm]; omega
      · exact primes_bound f _ _ _ L (by omega) ha hl
theorem cgStep_le (p many c f k : Nat) (hp : 1 ≤ p) : cgStep p many c f k ≤ f := by
  unfold cgStep
  refine Nat.le_trans (Nat.mul_le_mul_left _ (Nat.sub_le _ 1)) (Nat.div_mul_le_self _ _)
theorem fold_le {g : Nat → Nat → Nat} (hg : ∀ f k, g f k ≤ f) : ∀ (l : List Nat) (f : Nat), l.foldl g f ≤ f
  | [], f => Nat.le_refl _
  | k :: l, f => Nat.le_trans (fold_le hg l (g f k)) (hg f k)
theorem foldlM_none {α β : Type} {g : β → α → Option β} {l : List α} {i : Nat} {x : α} {b b' : β} (hx : l[i]? = some x) (h : (l.take i).foldlM g b = some b') (hn : g b' x = none) : l.foldlM g b = none := by
  have e : l = l.take i ++ x :: l.drop (i + 1) := by
    obtain ⟨hi, e⟩ := List.getElem?_eq_some_iff.mp hx
    rw [← e, ← List.drop_eq_getElem_cons hi, List.take_append_drop]
  rw [e, List.foldlM_append, h]
  show (g b' x >>= _) = none
  rw [hn]
  rfl
theorem foldlM_step {α β : Type} {g : β → α → Option β} {l : List α} {i : Nat} {x : α} {b b' b2 : β} (hx : l[i]? = some x) (h : (l.take i).foldlM g b = some b') (hn : g b' x = some b2) : (l.take (i + 1)).foldlM g b = some b2 := by
  rw [List.take_add_one, hx, List.foldlM_append, h]
  show (g b' x >>= fun s => pure s) = some b2
  rw [hn]
  rfl
theorem prodN_rep (p i : Nat) : prodN (List.replicate i p) = p ^ i := by
  unfold prodN
  have : ∀ (i a : Nat), (List.replicate i p).foldl (· * ·) a = a * p ^ i := by
    intro i
    induction i with
    | zero => intro a; simp
    | succ i ih =>
      intro a
      rw [List.replicate_succ]
      show (List.replicate i p).foldl (· * ·) (a * p) = _
      rw [ih, Nat.pow_succ, Nat.mul_assoc, Nat.mul_comm p]
  rw [this, Nat.one_mul]
theorem flat_rep {α : Type} (x : α) : ∀ n : Nat, (List.replicate n [x]).flatten = List.replicate n x
  | 0 => rfl
  | n + 1 => by rw [List.replicate_succ, List.flatten_cons, flat_rep x n]; rfl
theorem last_at {divs : List Nat} (h : divs ≠ []) : atI (divs.map nI) (-1) = some (nI (lastN divs)) := by
  unfold lastN
  rw [List.getLast?_eq_some_getLast h]
  have e : divs.map nI = divs.dropLast.map nI ++ [nI (divs.getLast h)] := by
    rw [← List.map_singleton, ← List.map_append, List.dropLast_concat_getLast]
  rw [e]
  exact atI_last _ _
abbrev s_count_generating : Stmt := topS 3
abbrev N_count_generating : List Str := ["divisors", "many", "found", "prime", "least", "i", "power", "d"]
theorem sc_count_generating : FnScope ["divisors", "many", "found", "prime", "least", "i", "power", "d"] ["divisors", "many"] (defScope s_count_generating) := ⟨rfl, rfl, rfl, by decide +kernel, rfl, by decide +kernel, by decide +kernel⟩
theorem ok_cg {k : Nat} (F : Fun K "count_generating" "count_generating" s_count_generating f fd) (Z_range : mg "range" = none) (Z_len : mg "len" = none)
    {a1 a2 : Addr} {f1 f2 : FuncData} (G_product : FnOk P w K mg base CX0 k a1 f1 ["numbers"] (spP K R_product)) (M_product : mg "product" = some (.ref a1)) (k_product : PySem.W.keepIn K (.ref a1) = true) (B_product : Binds K f1 ["numbers"] [])
    (G_primes_of : FnOk P w K mg base CX0 k a2 f2 ["number"] (spP K R_primes)) (M_primes_of : mg "primes_of" = some (.ref a2)) (k_primes_of : PySem.W.keepIn K (.ref a2) = true) (B_primes_of : Binds K f2 ["number"] []) :
    FnOk P w K mg base CX0 (k + 1) f fd ["divisors", "many"] (spP K R_cg) := by
  refine fn_pure F sc_count_generating (fun ds r h => by obtain ⟨a, m, rfl, _⟩ := h; rfl) fun cdv A outer s H E ds r hr h => ?_
  obtain ⟨divs, many, rfl, hlen, hdiv, hmany, rfl⟩ := h
  refine ⟨_, (pss_cons
    (ps_set (i := 2) sc_count_generating.nd rfl (.inl rfl) (pe_call G_product hr (by rfl) M_product k_product B_product .nil pass0 (pa_cons (pe_op op_rep (pe_lst (pa_cons (pe_call G_product hr (by rfl) M_product k_product B_product .nil pass0 (pa_cons (pv 0) pa_nil)) pa_nil)) (pv 1)) pa_nil)))
    (pss_cons
    (ps_for PassesOwn.never rfl (pi_listK (K := K) rfl (pe_call G_primes_of hr (by rfl) M_primes_of k_primes_of B_primes_of .nil pass0 (pa_cons (pe_ifExp (pt_cmpR (op_neDK (K := K) rfl hr.units) (pv 0) (pe_tup pa_nil) (nomark _)) (pe_ix (ix_tupK (K := K) rfl) (pv 0) (pe_un un_neg pe_int) (fun _ _ => rfl)) pe_int) pa_nil))) (pg_name (i := 3) sc_count_generating.nd rfl (.inr rfl)) (pss_cons
      (ps_set (i := 4) sc_count_generating.nd rfl (.inl rfl) (pe_op op_add (pe_op op_sub (pv 1) (pe_callB (call_lenK (K := K) rfl) (by rfl) Z_len PySem.boot_len (pa_cons (pe_lc (own := [("d", 7)]) rfl sc_count_generating.nd (pi_tupK (K := K) rfl (pv 0)) (blkOk_by (N := N_count_generating) (sc := defScope s_count_generating) (by decide +kernel)) (fun _ _ _ _ _ => (pg_name (i := 7) sc_count_generating.nd rfl (.inl rfl))) (fun _ _ _ _ _ => (pts_one (pt_cmpR op_eq (pe_op op_mod (pv 7) (pv 3)) pe_int (nomark _)))) (fun _ _ _ _ _ => (pv 7))) pa_nil))) pe_int))
      (pss_one
      (ps_for PassesOwn.never rfl (pi_range2 (by rfl) Z_range (pa_cons (pv 4) (pa_cons (pe_op op_add (pv 1) pe_int) pa_nil))) (pg_name (i := 5) sc_count_generating.nd rfl (.inl rfl)) (pss_cons
        (ps_if (pt_cmpR op_le (pv 5) pe_int (nomark _)) (pss_one
          (ps_ret pe_int)) pss_nil)
        (pss_cons
        (ps_set (i := 6) sc_count_generating.nd rfl (.inl rfl) (pe_call G_product hr (by rfl) M_product k_product B_product .nil pass0 (pa_cons (pe_op op_rep (pe_lst (pa_cons (pv 3) pa_nil)) (pv 5)) pa_nil)))
        (pss_one
        (ps_set (i := 2) sc_count_generating.nd rfl (.inl rfl) (pe_op op_mulW (pe_op op_fdivW (pv 2) (pv 6)) (pe_op op_sub (pv 6) pe_int))))))))))
    (pss_one
    (ps_ret (pv 2))))), ?_⟩
  show Wp K _ [_, _, _, _, _, _, _, _] _
  have hd14 : ∀ x ∈ divs, x ≤ 2 ^ 14 := fun x hx => Nat.le_trans (hdiv x hx).2 (by decide)
  have hp0 : prodN divs ≤ 2 ^ 42 := Nat.le_trans (prodN_bound hd14) (Nat.pow_le_pow_right (by decide) (by omega))
  have hF0 : prodN divs ^ many ≤ 2 ^ 252 := Nat.le_trans (Nat.pow_le_pow_left hp0 many) (by rw [← Nat.pow_mul]; exact Nat.pow_le_pow_right (by decide) (by omega))
  have hlast : 1 ≤ lastN divs ∧ lastN divs ≤ 10000 := by
    unfold lastN
    cases hg : divs.getLast? with
    | none => exact ⟨Nat.le_refl _, by show 1 ≤ 10000; decide⟩
    | some x => exact hdiv x (List.mem_of_getLast? hg)
  refine wp_seq (wp_set (s := .val (nI (prodN divs ^ many))) (ev_call (R := R_product) (ds := [.lst ((List.replicate (many : Int).toNat [nI (prodN divs)]).flatten)]) (ea_cons (ev_frz (ev_rep (ev_lst (ds := [nI (prodN divs)]) (ea_cons (ev_call (R := R_product) (ds := [.tup (divs.map nI)]) (ea_cons (ev_var rfl) ea_nil) ?_) ea_nil) (sz (n := 1) (by decide))) (ev_var rfl) ?_)) ea_nil) ?_) (ltn (n := 8) (by decide) rfl) ?_)
  · exact ⟨divs.map fun (n : Nat) => (n : Int), .inr (by rw [map_nI]), smallP hd14 ⟨by omega, by decide⟩, by rw [prodI_cast]⟩
  · refine ⟨by omega, by omega, sz ?_⟩
    show 1 * (many : Int).toNat ≤ 1000
    omega
  · refine ⟨(List.replicate many (prodN divs)).map fun (n : Nat) => (n : Int), .inl ?_, smallP (b := 42) (fun x hx => ?_) ⟨by rw [List.length_replicate]; omega, by decide⟩, ?_⟩
    · show [D.lst ((List.replicate (many : Int).toNat [nI (prodN divs)]).flatten)] = _
      rw [flat_rep, Int.toNat_natCast, List.map_map, List.map_replicate]
      rfl
    · rw [List.eq_of_mem_replicate hx]; exact hp0
    · rw [prodI_cast, prodN_rep]
  have hpr := primes_bound (2 * lastN divs) (lastN divs) 2 [] 10000 (by decide) (fun a h => by cases h) hlast.2
  refine wp_seq (wp_for (ds := (primesN (lastN divs)).map nI) (fun i ρ => ∃ (fnd : Nat) (z1 z2 z3 z4 : Slot), ((primesN (lastN divs)).take i).foldlM (cgP divs many) (prodN divs ^ many) = some fnd ∧ fnd ≤ 2 ^ 252 ∧ ρ = [.val (.tup (divs.map nI)), .val (nI many), .val (nI fnd), z1, z2, z3, z4, .no])
    (ei_list (ev_call (R := R_primes) (ds := [nI (lastN divs)]) (ea_cons (s := .val (nI (lastN divs))) (ev_if (b := !divs.isEmpty) (et_is (et_test (ev_neD (ev_var rfl) (ev_tup (ds := []) ea_nil (sz (by decide))) ?_ ?_)) ?_) (fun hc => (ev_ixT (ev_var rfl) (ev_un ev_int) ?_)) (fun hc => (ev_is ev_int ?_))) ea_nil) ?_)) ?_ ?_ ?_)
  · match divs, hlen with
    | [], _ => exact ⟨rfl, rfl⟩
    | [_], _ => exact ⟨rfl, rfl⟩
    | [_, _], _ => exact ⟨rfl, rfl⟩
    | [_, _, _], _ => exact ⟨rfl, rfl⟩
  · exact ⟨rfl, rfl⟩
  · cases divs with
    | nil => rfl
    | cons x xs => rfl
  · exact last_at (by intro e; rw [e] at hc; cases hc)
  · have e : divs = [] := by
      cases divs with
      | nil => rfl
      | cons x xs => cases hc
    rw [e]
    rfl
  · exact ⟨lastN divs, rfl, hlast.1, hlast.2, rfl⟩
  · exact ⟨_, _, _, _, _, rfl, hF0, rfl⟩
  · rintro i d ρ hd ⟨fnd, z1, z2, z3, z4, hf, hle, rfl⟩
    rw [List.getElem?_map] at hd
    obtain ⟨p, hp, rfl⟩ := Option.map_eq_some_iff.mp hd
    obtain ⟨p2, p3⟩ := hpr p (List.mem_of_getElem? hp)
    refine ⟨_, ⟨_, eg_name (ltn (n := 8) (by decide) rfl)⟩, ?_⟩
    let c := (divs.filter fun d => d % p == 0).length
    have hc3 : c ≤ 3 := Nat.le_trans (List.length_filter_le _ _) hlen
    refine wp_seq (wp_set (s := .val (.int ((many : Int) - (c : Int) + 1))) (ev_op0 (f := fun i j => i + j) (ev_op0 (f := fun i j => i - j) (ev_var rfl) (ev_is (ev_lenN (ev_lcP [7] divs 0 nI (fun d => d % p == 0) nI (ei_tup (ev_var rfl)) ?_ ?_ ?_ ?_)) ?_)) ev_int) (ltn (n := 8) (by decide) rfl) ?_)
    · omega
    · intro v hv
      rw [List.mem_singleton.mp hv]
      rfl
    · exact fun j hj => hj
    · intro x hx
      refine ⟨_, _, _, eg_name (ltn (n := 8) (by decide) rfl), et_is (et_test (ev_eqI (ev_opC (ev_var rfl) (ev_var rfl) ?_) ev_int)) ?_, fun _ => ⟨ev_var rfl, rfl⟩, fun _ => rfl⟩
      · show (0 : Int) < (p : Int); omega
      · show decide ((x : Int) % (p : Int) = 0) = (x % p == 0)
        rw [← Int.natCast_emod, Bool.eq_iff_iff]
        simp
        omega
    · rw [List.length_map]
    refine wp_for (ds := rangeD ((many : Int) - c + 1) ((many : Int) + 1 - ((many : Int) - c + 1)).toNat) (fun k ρ => ∃ (z3 z4 : Slot), (k = 0 ∨ c ≤ many) ∧ ρ = [.val (.tup (divs.map nI)), .val (nI many), .val (nI ((List.range k).foldl (cgStep p many c) fnd)), .val (nI p), .val (.int ((many : Int) - (c : Int) + 1)), z3, z4, .no])
      (ei_range2 (ea_cons (ev_var rfl) (ea_cons (ev_op0 (ev_var rfl) ev_int) ea_nil)) ?_) ?_ ?_ ?_
    · omega
    · exact ⟨_, _, .inl rfl, rfl⟩
    · rintro k d ρ hd ⟨z3, z4, hk, rfl⟩
      have hkc : k < c ∧ d = .int ((many : Int) - c + 1 + (k : Int)) := by
        unfold rangeD at hd
        rw [List.getElem?_map] at hd
        obtain ⟨j, hj, rfl⟩ := Option.map_eq_some_iff.mp hd
        obtain ⟨h1, h2⟩ := List.getElem?_eq_some_iff.mp hj
        rw [List.getElem_range] at h2
        rw [List.length_range] at h1
        subst h2
        exact ⟨by omega, rfl⟩
      obtain ⟨hkc, rfl⟩ := hkc
      refine ⟨_, ⟨_, eg_name (ltn (n := 8) (by decide) rfl)⟩, ?_⟩
      refine wp_seqM (fun ρ' => c ≤ many ∧ ρ' = [.val (.tup (divs.map nI)), .val (nI many), .val (nI ((List.range k).foldl (cgStep p many c) fnd)), .val (nI p), .val (.int ((many : Int) - (c : Int) + 1)), .val (.int ((many : Int) - c + 1 + (k : Int))), z4, .no]) (wp_if (et_test (ev_op0B (ev_var rfl) ev_int)) (fun hc => ?_) (fun hc => ?_)) ?_
      · have hlt : many < c := by have := of_decide_eq_true hc; omega
        refine wp_ret ev_int ?_
        show some (D.int 0) = some (nI (cg divs many))
        unfold cg
        rw [foldlM_none hp hf (by show (if many < c then _ else _) = _; rw [if_pos hlt])]
        rfl
      · have hge : c ≤ many := by
          have := of_decide_eq_false hc
          rcases hk with rfl | hk
          · omega
          · exact hk
        exact wp_next ⟨hge, rfl⟩
      rintro ρ' ⟨hge, rfl⟩
      let ex := many - c + 1 + k
      have hex : ((many : Int) - c + 1 + (k : Int)) = (ex : Int) := by show _ = ((many - c + 1 + k : Nat) : Int); omega
      have hex6 : ex ≤ 6 := by show many - c + 1 + k ≤ 6; omega
      have hpow : p ^ ex ≤ 2 ^ 84 := Nat.le_trans (Nat.pow_le_pow_left (Nat.le_trans p3 (by decide : 10000 ≤ 2 ^ 14)) ex) (by rw [← Nat.pow_mul]; exact Nat.pow_le_pow_right (by decide) (by omega))
      have hpos : 1 ≤ p ^ ex := Nat.pos_of_ne_zero (by intro z; have := Nat.pow_eq_zero.mp z; omega)
      let cur := (List.range k).foldl (cgStep p many c) fnd
      have hcur : cur ≤ 2 ^ 252 := Nat.le_trans (fold_le (fun f k => cgStep_le p many c f k (by omega)) _ _) hle
      rw [hex]
      refine wp_seq (wp_set (s := .val (nI (p ^ ex))) (ev_call (R := R_product) (ds := [.lst ((List.replicate (ex : Int).toNat [nI p]).flatten)]) (ea_cons (ev_frz (ev_rep (ev_lst (ds := [nI p]) (ea_cons (ev_var rfl) ea_nil) (sz (n := 1) (by decide))) (ev_var rfl) ?_)) ea_nil) ?_) (ltn (n := 8) (by decide) rfl) ?_)
      · refine ⟨by omega, by omega, sz ?_⟩
        show 1 * (ex : Int).toNat ≤ 1000
        omega
      · refine ⟨(List.replicate ex p).map fun (n : Nat) => (n : Int), .inl ?_, smallP (b := 14) (fun x hx => ?_) ⟨by rw [List.length_replicate]; omega, by decide⟩, ?_⟩
        · show [D.lst ((List.replicate (ex : Int).toNat [nI p]).flatten)] = _
          rw [flat_rep, Int.toNat_natCast, List.map_map, List.map_replicate]
          rfl
        · rw [List.eq_of_mem_replicate hx]; exact Nat.le_trans p3 (by decide)
        · rw [prodI_cast, prodN_rep]
      have hdiv2 : ((cur : Int) / ((p ^ ex : Nat) : Int)) = ((cur / p ^ ex : Nat) : Int) := (Int.natCast_ediv _ _).symm
      have hsub : (((p ^ ex : Nat) : Int) - 1) = ((p ^ ex - 1 : Nat) : Int) := by omega
      refine wp_set (s := .val (nI (cgStep p many c cur k))) (ev_is (ev_opC (f := fun i j => i * j) (ev_opC (f := fun i j => i / j) (ev_var rfl) (ev_var rfl) ?_) (ev_op0 (f := fun i j => i - j) (ev_var rfl) ev_int) ?_) ?_) (ltn (n := 8) (by decide) rfl) ?_
      · exact wide_div (i := (cur : Int)) (j := ((p ^ ex : Nat) : Int)) (b := 85) (by omega) (by show p ^ ex < 2 ^ 85; exact Nat.lt_of_le_of_lt hpow (by decide)) (by decide) (by decide)
      · show CMulW ((cur : Int) / ((p ^ ex : Nat) : Int)) (((p ^ ex : Nat) : Int) - 1)
        rw [hdiv2, hsub]
        exact cmul_of (a := 252) (b := 84) (Nat.le_trans (Nat.div_le_self _ _) hcur) (by show p ^ ex - 1 ≤ 2 ^ 84; omega) (by decide)
      · show Slot.val (.int ((cur : Int) / ((p ^ ex : Nat) : Int) * (((p ^ ex : Nat) : Int) - 1))) = _
        rw [hdiv2, hsub, ← Int.natCast_mul]
        rfl
      · refine ⟨.val (nI ex), .val (nI (p ^ ex)), .inr hge, ?_⟩
        rw [List.range_succ, List.foldl_append]
        rfl
    · rintro ρ ⟨z3, z4, hk, rfl⟩
      have hlenr : (rangeD ((many : Int) - c + 1) ((many : Int) + 1 - ((many : Int) - c + 1)).toNat).length = c := by
        unfold rangeD; rw [List.length_map, List.length_range]; omega
      rw [hlenr] at hk ⊢
      have hge : ¬ many < c := by rcases hk with z | z <;> omega
      refine ⟨_, _, _, _, _, foldlM_step hp hf (by show (if many < c then _ else _) = _; rw [if_neg hge]), ?_, rfl⟩
      exact Nat.le_trans (fold_le (fun f k => cgStep_le p many c f k (by omega)) _ _) hle
  · rintro ρ ⟨fnd, z1, z2, z3, z4, hf, hle, rfl⟩
    rw [List.length_map, List.take_length] at hf
    refine wp_ret (ev_var rfl) ?_
    show some (nI fnd) = some (nI (cg divs many))
    unfold cg
    rw [hf]
    rfl
end
end K55

namespace K55
open PySem PySem.Spec PyProof.Rows L2 Lw
/-! ### the deal -/
def absI (i : Int) : Int := if i < 0 then -i else i
def cellsF (ns : List Int) (b : Nat) : List Int := (Lw.cutD ns (some (b : Int)) (some 63)).map absI
def seedS (s c : Int) : Int := (s * 48271 + c % 2147483629 + 11) % 2147483647
def seedF (b : Nat) (cells : List Int) : Int := cells.foldl seedS (7368787 + 37 * (b : Int))
def greatF (cells : List Int) : List Int := (cells.filter fun c => decide ((10 : Int) ^ 18 ≤ c)).reverse
def dealF (ns : List Int) (b : Nat) : DealS := (greatF (cellsF ns b), 0, seedF b (cellsF ns b))
def R_deal : List D → DealS → Prop := fun ds y => ∃ (ns : List Int) (b : Nat), ds = [.scr ns, nI b] ∧ ns.length ≤ 100000 ∧ b ≤ 3 ∧ y = dealF ns b
theorem seedS_lt (s c : Int) : 0 ≤ seedS s c ∧ seedS s c < 2147483647 := ⟨Int.emod_nonneg _ (by decide), Int.emod_lt_of_pos _ (by decide)⟩
theorem seed_take {l : List Int} {i : Nat} {c : Int} (s : Int) (h : l[i]? = some c) : (l.take (i + 1)).foldl seedS s = seedS ((l.take i).foldl seedS s) c := by
  rw [List.take_add_one, h, Option.toList_some, List.foldl_append]
  rfl
theorem seed_bound (l : List Int) (s : Int) (h : 0 ≤ s ∧ s < 2147483647) : 0 ≤ l.foldl seedS s ∧ l.foldl seedS s < 2147483647 := by
  induction l generalizing s with
  | nil => exact h
  | cons c l ih => exact ih _ (seedS_lt s c)
theorem dealF_wf (ns : List Int) (b : Nat) (hb : b ≤ 3) : (∀ g ∈ (dealF ns b).1, 0 ≤ g) ∧ 0 ≤ (dealF ns b).2.1 ∧ 0 ≤ (dealF ns b).2.2 ∧ (dealF ns b).2.2 < 2147483647 := by
  refine ⟨fun g hg => ?_, Int.le_refl _, (seed_bound _ _ (by omega)).1, (seed_bound _ _ (by omega)).2⟩
  have h1 := (List.mem_filter.mp (List.mem_reverse.mp hg)).2
  have h2 := of_decide_eq_true h1
  have : (0 : Int) ≤ 10 ^ 18 := by decide
  omega
section
variable {P : Program} {w : World} {K : PySem.W.Frag} {mg : Str → Option Value} {base : Heap} {f : Addr} {fd : FuncData}
theorem cut_le {α : Type} (l : List α) (a b : Option Int) : (Lw.cutD l a b).length ≤ l.length := by
  unfold Lw.cutD
  rw [List.length_take, List.length_drop]
  omega
abbrev s_law_deal : Stmt := topS 5
abbrev N_law_deal : List Str := ["_law_script", "_law_base", "_law_cells", "_law_seed", "_law_cell"]
theorem sc_law_deal : FnScope ["_law_script", "_law_base", "_law_cells", "_law_seed", "_law_cell"] ["_law_script", "_law_base"] (defScope s_law_deal) := ⟨rfl, rfl, rfl, by decide +kernel, rfl, by decide +kernel, by decide +kernel⟩
theorem ok_deal {k : Nat} (F : Fun K "_law_deal" "_law_deal" s_law_deal f fd) (Z_abs : mg "abs" = none) (Z_int : mg "int" = none) : FnOk P w K mg base CX0 (k + 1) f fd ["_law_script", "_law_base"] (spM K R_deal) := by
  refine fn_make F sc_law_deal (fun ds r h => by obtain ⟨a, m, rfl, _⟩ := h; rfl) fun cdv A outer s H E ds y hr h => ?_
  obtain ⟨ns, b, rfl, hlen, hb, rfl⟩ := h
  refine ⟨_, (pss_cons
    (ps_setLc (i := 2) (own := [("_law_cell", 4)]) rfl sc_law_deal.nd rfl rfl (sw_true rfl rfl rfl (by decide +kernel)) (pi_listK (K := K) rfl (pe_slice (sl_listK (K := K) rfl) (pv 0) (po_some (pv 1)) (po_some pe_int))) (blkOk_by (N := N_law_deal) (sc := defScope s_law_deal) (by decide +kernel)) (fun _ _ _ _ _ => (pg_name (i := 4) sc_law_deal.nd rfl (.inl rfl))) (fun _ _ _ _ _ => pts_nil) (fun _ _ _ _ _ => (pe_callB call_abs (by rfl) Z_abs (by decide +kernel) (pa_cons (pe_callTy call_int1 (by rfl) Z_int (by decide +kernel) (pa_cons (pv 4) pa_nil)) pa_nil))))
    (pss_cons
    (ps_set (i := 3) sc_law_deal.nd rfl (.inl rfl) (pe_op op_add pe_int (pe_op op_mulW pe_int (pv 1))))
    (pss_cons
    (ps_for PassesOwn.never rfl (pi_listK (K := K) rfl (pv 2)) (pg_name (i := 4) sc_law_deal.nd rfl (.inl rfl)) (pss_one
      (ps_set (i := 3) sc_law_deal.nd rfl (.inl rfl) (pe_op op_mod (pe_callTy call_int1 (by rfl) Z_int (by decide +kernel) (pa_cons (pe_op op_add (pe_op op_add (pe_op op_mulW (pv 3) pe_int) (pe_op op_mod (pe_callTy call_int1 (by rfl) Z_int (by decide +kernel) (pa_cons (pv 4) pa_nil)) pe_int)) pe_int) pa_nil)) pe_int))))
    (pss_one
    (ps_ret (pe_disp (pps_cons pe_str (pe_revL (pe_lc (own := [("_law_cell", 4)]) rfl sc_law_deal.nd (pi_listK (K := K) rfl (pv 2)) (blkOk_by (N := N_law_deal) (sc := defScope s_law_deal) (by decide +kernel)) (fun _ _ _ _ _ => (pg_name (i := 4) sc_law_deal.nd rfl (.inl rfl))) (fun _ _ _ _ _ => (pts_one (pt_cmpR op_ge (pv 4) (pe_op op_pow pe_int pe_int) (nomark _)))) (fun _ _ _ _ _ => (pv 4)))) (pps_cons pe_str pe_int (pps_cons pe_str (pv 3) pps_nil))) (by rfl) (by rfl) (fun z => by cases z) (by decide))))))), ?_⟩
  show Wp K _ [_, _, _, _, _] _
  let cut := Lw.cutD ns (some (b : Int)) (some 63)
  let cells := cellsF ns b
  have hcut : cut.length ≤ 100000 := Nat.le_trans (cut_le _ _ _) hlen
  have hcl : cells.length ≤ 100000 := by show (List.map absI cut).length ≤ _; rw [List.length_map]; exact hcut
  have el : ((cut.filter fun _ => true).map fun i => D.int (absI i)) = cells.map D.int := by
    rw [List.filter_eq_self.mpr (fun _ _ => rfl)]
    show _ = (cut.map absI).map D.int
    rw [List.map_map]
    rfl
  refine wp_seq (wp_set (s := .own (cells.map D.int)) (ev_is (ev_lcP [4] cut 0 D.int (fun _ => true) (fun i => .int (absI i)) (ei_list (ev_frz (ev_slS (ev_var rfl) (eo_some (ev_var rfl)) (eo_some ev_int)))) ?_ ?_ ?_ ?_) ?_) (ltn (n := 5) (by decide) rfl) ?_)
  · omega
  · intro v hv; rw [List.mem_singleton.mp hv]; rfl
  · exact fun j hj => hj
  · intro x hx
    exact ⟨_, _, _, eg_name (ltn (n := 5) (by decide) rfl), et_yes, fun _ => ⟨ev_abs (ev_int1 (ev_var rfl)), rfl⟩, fun z => (by cases z)⟩
  · exact congrArg Lw.Slot.own el
  refine wp_seq (wp_set (s := .val (.int (7368787 + 37 * (b : Int)))) (ev_op0 (f := fun i j => i + j) ev_int (ev_opC (f := fun i j => i * j) ev_int (ev_var rfl) ?_)) (ltn (n := 5) (by decide) rfl) ?_)
  · exact cmul_of (a := 6) (b := 2) (by decide) (by show b ≤ 2 ^ 2; omega) (by decide)
  refine wp_seq (wp_for (fun i ρ => ∃ z, ρ = [.val (.scr ns), .val (nI b), .val (.lst (cells.map D.int)), .val (.int ((cells.take i).foldl seedS (7368787 + 37 * (b : Int)))), z]) (ei_list (ev_varF rfl)) ⟨_, rfl⟩ ?_ ?_)
  · rintro i d ρ hd ⟨z, rfl⟩
    rw [List.getElem?_map] at hd
    obtain ⟨c, hc, rfl⟩ := Option.map_eq_some_iff.mp hd
    have hs := seed_bound (cells.take i) (7368787 + 37 * (b : Int)) (by omega)
    refine ⟨_, ⟨_, eg_name (ltn (n := 5) (by decide) rfl)⟩, ?_⟩
    refine wp_set (s := .val (.int (seedS ((cells.take i).foldl seedS (7368787 + 37 * (b : Int))) c))) (ev_opC (f := fun i j => i % j) (ev_int1 (ev_op0 (f := fun i j => i + j) (ev_op0 (f := fun i j => i + j) (ev_opC (f := fun i j => i * j) (ev_var rfl) ev_int ?_) (ev_opC (f := fun i j => i % j) (ev_int1 (ev_var rfl)) ev_int ?_)) ev_int)) ev_int ?_) (ltn (n := 5) (by decide) rfl) ?_
    · exact cmul_of (a := 31) (b := 16) (by omega) (by decide) (by decide)
    · show (0 : Int) < 2147483629; decide
    · show (0 : Int) < 2147483647; decide
    · refine ⟨.val (.int c), ?_⟩
      rw [seed_take _ hc]
      rfl
  · rintro ρ ⟨z, rfl⟩
    rw [List.length_map, List.take_length]
    refine wp_forget 4 ?_
    refine wp_ret (s := .deal false (greatF cells) 0 (seedF b cells)) (ev_disp (ev_is (ev_revL (ev_frz (ev_lcP [4] cells 0 D.int (fun c => decide ((10 : Int) ^ 18 ≤ c)) D.int (ei_list (ev_var rfl)) ?_ ?_ ?_ ?_))) ?_) ev_int (ev_var rfl)) rfl
    · omega
    · intro v hv; rw [List.mem_singleton.mp hv]; rfl
    · exact fun j hj => hj
    · intro x hx
      refine ⟨_, _, _, eg_name (ltn (n := 5) (by decide) rfl), et_test (ev_op0B (f := fun i j => decide (j ≤ i)) (ev_var rfl) (ev_opC (f := fun i j => i ^ j.toNat) ev_int ev_int ?_)), fun _ => ⟨ev_var rfl, rfl⟩, fun _ => rfl⟩
      show (0 : Int) ≤ 18 ∧ (18 : Int) ≤ 1000000 ∧ (10 : Int).natAbs < 2 ^ 64
      decide
    · show Lw.Slot.own _ = Lw.Slot.own ((greatF cells).map D.int)
      unfold greatF
      rw [List.map_reverse]

/-! ### a draw -/
def popG : Nat → List Int → Int → List Int × Int
  | 0, g, now => (g, now)
  | f + 1, g, now => if now = 0 ∧ g ≠ [] then popG f g.dropLast (g.getLastD 0) else (g, now)
def drawF (x : DealS) (m : Int) : Int × DealS :=
  let p := popG x.1.length x.1 x.2.1
  if 0 < p.2 then (p.2 % m, (p.1, p.2 / m, x.2.2)) else
    let one := (x.2.2 * 39373 + 5003) % 2147483647
    let seed := (one * 69623 + 60013) % 2147483587
    let other := (seed * seed) % 2147483549
    (((one * one) % 2147483563 * 2147483549 + other) % m, (p.1, p.2, seed))
def WF (x : DealS) : Prop := (∀ g ∈ x.1, 0 ≤ g) ∧ 0 ≤ x.2.1 ∧ 0 ≤ x.2.2 ∧ x.2.2 < 2147483647
def R_draw : DealS → List D → D → DealS → Prop := fun x ds r y => ∃ m : Int, ds = [.int m] ∧ 0 < m ∧ m < 1000000 ∧ WF x ∧ r = .int (drawF x m).1 ∧ y = (drawF x m).2
theorem popG_wf : ∀ (f : Nat) (g : List Int) (now : Int), (∀ x ∈ g, 0 ≤ x) → 0 ≤ now → (∀ x ∈ (popG f g now).1, 0 ≤ x) ∧ 0 ≤ (popG f g now).2
  | 0, g, now, h1, h2 => ⟨h1, h2⟩
  | f + 1, g, now, h1, h2 => by
    unfold popG
    split
    · rename_i h
      refine popG_wf f _ _ (fun x hx => h1 x (List.dropLast_subset g hx)) ?_
      obtain ⟨l, x, rfl⟩ : ∃ l x, g = l ++ [x] := ⟨g.dropLast, g.getLast h.2, (List.dropLast_concat_getLast h.2).symm⟩
      rw [List.getLastD_concat]
      exact h1 x (by simp)
    · exact ⟨h1, h2⟩
theorem draw_range (x : DealS) (m : Int) (h : 0 < m) : 0 ≤ (drawF x m).1 ∧ (drawF x m).1 < m := by
  unfold drawF
  dsimp only
  split
  · exact ⟨Int.emod_nonneg _ (by omega), Int.emod_lt_of_pos _ h⟩
  · exact ⟨Int.emod_nonneg _ (by omega), Int.emod_lt_of_pos _ h⟩
theorem draw_wf (x : DealS) (m : Int) (h : 0 < m) (hx : WF x) : WF (drawF x m).2 := by
  obtain ⟨h1, h2, h3, h4⟩ := hx
  have p := popG_wf x.1.length x.1 x.2.1 h1 h2
  unfold drawF
  dsimp only
  split
  · exact ⟨p.1, Int.ediv_nonneg p.2 (by omega), h3, h4⟩
  · refine ⟨p.1, p.2, Int.emod_nonneg _ (by decide), ?_⟩
    exact Int.lt_trans (Int.emod_lt_of_pos _ (by decide)) (by decide)
abbrev s_law_draw : Stmt := topS 6
abbrev N_law_draw : List Str := ["_law_deal_here", "_law_many", "_law_left", "_law_one", "_law_other"]
theorem sc_law_draw : FnScope ["_law_deal_here", "_law_many", "_law_left", "_law_one", "_law_other"] ["_law_deal_here", "_law_many"] (defScope s_law_draw) := ⟨rfl, rfl, rfl, by decide +kernel, rfl, by decide +kernel, by decide +kernel⟩
theorem ok_draw {k : Nat} (F : Fun K "_law_draw" "_law_draw" s_law_draw f fd) (Z_len : mg "len" = none) (Z_int : mg "int" = none) : FnOk P w K mg base CX0 (k + 1) f fd ["_law_deal_here", "_law_many"] (spD K R_draw) := by
  refine fn_deal F sc_law_draw (fun x ds r y h => by obtain ⟨m, rfl, _⟩ := h; rfl) fun cdv A outer s H E x ds r y hr h => ?_
  obtain ⟨m, rfl, hm, hm2, hwf, rfl, rfl⟩ := h
  obtain ⟨gr, now, seed⟩ := x
  obtain ⟨w1, w2, w3, w4⟩ := hwf
  have w3 : 0 ≤ seed := w3
  have w4 : seed < 2147483647 := w4
  have hu := hu_of hr
  refine ⟨_, (pss_cons
    (ps_while PassesOwn.never (PW.pt (pw_and (pt_cmpR op_eq (pe_dget hu (pv 0) pe_str (fun _ _ => rfl)) pe_int (nomark _)) (pw_and1 (pt_cmpR op_gt (pe_callB (call_lenK (K := K) rfl) (by rfl) Z_len PySem.boot_len (pa_cons (pe_dget hu (pv 0) pe_str (fun _ _ => rfl)) pa_nil)) pe_int (nomark _))))) (pss_one
      (ps_dput hu (pv 0) pe_str (pe_bm0 PySem.F.plainAttrs_list PySem.F.slot_list_pop PySem.F.type_list_pop mt_pop (pe_dget hu (pv 0) pe_str (fun _ _ => rfl))) rfl)))
    (pss_cons
    (ps_set (i := 2) sc_law_draw.nd rfl (.inl rfl) (pe_dget hu (pv 0) pe_str (fun _ _ => rfl)))
    (pss_cons
    (ps_if (pt_cmpR op_gt (pv 2) pe_int (nomark _)) (pss_cons
      (ps_dput hu (pv 0) pe_str (pe_op op_fdiv (pv 2) (pv 1)) rfl)
      (pss_one
      (ps_ret (pe_op op_mod (pe_callTy call_int1 (by rfl) Z_int (by decide +kernel) (pa_cons (pv 2) pa_nil)) (pv 1))))) pss_nil)
    (pss_cons
    (ps_set (i := 3) sc_law_draw.nd rfl (.inl rfl) (pe_op op_mod (pe_callTy call_int1 (by rfl) Z_int (by decide +kernel) (pa_cons (pe_op op_add (pe_op op_mulW (pe_dget hu (pv 0) pe_str (fun _ _ => rfl)) pe_int) pe_int) pa_nil)) pe_int))
    (pss_cons
    (ps_dput hu (pv 0) pe_str (pe_op op_mod (pe_callTy call_int1 (by rfl) Z_int (by decide +kernel) (pa_cons (pe_op op_add (pe_op op_mulW (pv 3) pe_int) pe_int) pa_nil)) pe_int) rfl)
    (pss_cons
    (ps_set (i := 4) sc_law_draw.nd rfl (.inl rfl) (pe_op op_mod (pe_callTy call_int1 (by rfl) Z_int (by decide +kernel) (pa_cons (pe_op op_mulW (pe_dget hu (pv 0) pe_str (fun _ _ => rfl)) (pe_dget hu (pv 0) pe_str (fun _ _ => rfl))) pa_nil)) pe_int))
    (pss_one
    (ps_ret (pe_op op_mod (pe_callTy call_int1 (by rfl) Z_int (by decide +kernel) (pa_cons (pe_op op_add (pe_op op_mulW (pe_op op_mod (pe_callTy call_int1 (by rfl) Z_int (by decide +kernel) (pa_cons (pe_op op_mulW (pv 3) (pv 3)) pa_nil)) pe_int) pe_int) (pv 4)) pa_nil)) (pv 1)))))))))), ?_⟩
  show Wp K _ [_, _, _, _, _] _
  let p := popG gr.length gr now
  have hp := popG_wf gr.length gr now w1 w2
  refine wp_seqM (fun ρ => ρ = [.deal true p.1 p.2 seed, .val (.int m), .no, .no, .no]) (wp_while (fun ρ => ∃ (f : Nat) (g : List Int) (n : Int), ρ = [.deal true g n seed, .val (.int m), .no, .no, .no] ∧ g.length ≤ f ∧ popG f g n = p) (fun ρ => match ρ with
    | [.deal _ g _ _, _, _, _, _] => g.length
    | _ => 0) ⟨gr.length, gr, now, rfl, Nat.le_refl _, rfl⟩ ?_) ?_
  · rintro ρ ⟨f, g, n, rfl, hf, hg⟩
    refine ⟨_, _, et_and (et_test (ev_eqI (ev_deal_now rfl) ev_int)) (fun hc => et_test (ev_op0B (ev_deal_len rfl) ev_int)) (fun hc => rfl), fun hc => ?_, fun hc => ?_⟩
    · rw [Bool.and_eq_true] at hc
      have h0 : n = 0 := of_decide_eq_true hc.1
      have h1 : (0 : Int) < g.length := of_decide_eq_true hc.2
      have hne : g ≠ [] := by intro e; rw [e] at h1; exact absurd h1 (by decide)
      obtain ⟨l, z, rfl⟩ : ∃ l z, g = l ++ [z] := ⟨g.dropLast, g.getLast hne, (List.dropLast_concat_getLast hne).symm⟩
      rw [List.length_append] at hf
      obtain ⟨f, rfl⟩ : ∃ y, f = y + 1 := ⟨f - 1, by simp at hf; omega⟩
      refine wp_pop (gr := l) (x := z) rfl ?_
      refine ⟨⟨f, l, z, rfl, by simp at hf; omega, ?_⟩, by show l.length < (l ++ [z]).length; simp⟩
      rw [← hg]
      show _ = (if n = 0 ∧ l ++ [z] ≠ [] then _ else _)
      rw [if_pos ⟨h0, hne⟩, List.dropLast_concat, List.getLastD_concat]
    · show _ = _
      have : popG f g n = (g, n) := by
        cases f with
        | zero => rfl
        | succ f =>
          show (if n = 0 ∧ g ≠ [] then _ else _) = _
          rw [if_neg]
          rintro ⟨e1, e2⟩
          rw [e1] at hc
          have : decide ((0 : Int) < g.length) = false := by simpa using hc
          have := of_decide_eq_false this
          have : 0 < g.length := List.length_pos_iff.mpr e2
          omega
      rw [← hg, this]
  rintro ρ rfl
  refine wp_seq (wp_set (ev_deal_now rfl) (ltn (n := 5) (by decide) rfl) ?_)
  refine wp_seq (wp_if (et_test (ev_op0B (f := fun i j => decide (j < i)) (ev_var rfl) ev_int)) (fun hc => ?_) (fun hc => ?_))
  · have h0 : 0 < p.2 := of_decide_eq_true hc
    have e : drawF (gr, now, seed) m = (p.2 % m, (p.1, p.2 / m, seed)) := by unfold drawF; exact if_pos h0
    refine wp_seq (wp_now (ev_opC (f := fun i j => i / j) (ev_var rfl) (ev_var rfl) ?_) rfl ?_)
    · exact ⟨hm, by omega⟩
    refine wp_ret (ev_opC (f := fun i j => i % j) (ev_int1 (ev_var rfl)) (ev_var rfl) ?_) ?_
    · exact hm
    · rw [e]; exact ⟨rfl, rfl⟩
  · have h0 : ¬ 0 < p.2 := of_decide_eq_false hc
    refine wp_next ?_
    let one := (seed * 39373 + 5003) % 2147483647
    let sd := (one * 69623 + 60013) % 2147483587
    let other := (sd * sd) % 2147483549
    have e : drawF (gr, now, seed) m = (((one * one) % 2147483563 * 2147483549 + other) % m, (p.1, p.2, sd)) := by unfold drawF; exact if_neg h0
    have b1 : 0 ≤ one ∧ one < 2147483647 := ⟨Int.emod_nonneg _ (by decide), Int.emod_lt_of_pos _ (by decide)⟩
    have b2 : 0 ≤ sd ∧ sd < 2147483587 := ⟨Int.emod_nonneg _ (by decide), Int.emod_lt_of_pos _ (by decide)⟩
    have b3 : 0 ≤ (one * one) % 2147483563 ∧ (one * one) % 2147483563 < 2147483563 := ⟨Int.emod_nonneg _ (by decide), Int.emod_lt_of_pos _ (by decide)⟩
    refine wp_seq (wp_set (s := .val (.int one)) (ev_opC (f := fun i j => i % j) (ev_int1 (ev_op0 (f := fun i j => i + j) (ev_opC (f := fun i j => i * j) (ev_deal_seed rfl) ev_int ?_) ev_int)) ev_int ?_) (ltn (n := 5) (by decide) rfl) ?_)
    · exact cmul_of (a := 31) (b := 16) (by omega) (by decide) (by decide)
    · show (0 : Int) < 2147483647; decide
    refine wp_seq (wp_seed (x := sd) (ev_opC (f := fun i j => i % j) (ev_int1 (ev_op0 (f := fun i j => i + j) (ev_opC (f := fun i j => i * j) (ev_var rfl) ev_int ?_) ev_int)) ev_int ?_) rfl ?_)
    · exact cmul_of (a := 31) (b := 17) (by omega) (by decide) (by decide)
    · show (0 : Int) < 2147483587; decide
    refine wp_seq (wp_set (s := .val (.int other)) (ev_opC (f := fun i j => i % j) (ev_int1 (ev_opC (f := fun i j => i * j) (ev_deal_seed rfl) (ev_deal_seed rfl) ?_)) ev_int ?_) (ltn (n := 5) (by decide) rfl) ?_)
    · exact cmul_of (a := 31) (b := 31) (by omega) (by omega) (by decide)
    · show (0 : Int) < 2147483549; decide
    refine wp_ret (ev_opC (f := fun i j => i % j) (ev_int1 (ev_op0 (f := fun i j => i + j) (ev_opC (f := fun i j => i * j) (ev_opC (f := fun i j => i % j) (ev_int1 (ev_opC (f := fun i j => i * j) (ev_var rfl) (ev_var rfl) ?_)) ev_int ?_) ev_int ?_) (ev_var rfl))) (ev_var rfl) ?_) ?_
    · exact cmul_of (a := 31) (b := 31) (by omega) (by omega) (by decide)
    · show (0 : Int) < 2147483563; decide
    · exact cmul_of (a := 31) (b := 31) (by omega) (by decide) (by decide)
    · exact hm
    · rw [e]; exact ⟨rfl, rfl⟩
end
end K55

namespace K55
open PySem PySem.Spec PyProof.Rows L2 Lw
abbrev tI (l : List Nat) : D := .tup (l.map nI)
def kI (l : List Nat) : List Key := l.map fun (n : Nat) => Sum.inl (n : Int)
theorem kI_keyD (l : List Nat) : (kI l).map keyD = l.map nI := by unfold kI; rw [List.map_map]; rfl
theorem kI_inj : ∀ {l m : List Nat}, kI l = kI m → l = m
  | [], [], _ => rfl
  | [], _ :: _, h => by cases h
  | _ :: _, [], h => by cases h
  | x :: l, y :: m, h => by
    have h1 : (Sum.inl (x : Int) : Key) :: kI l = Sum.inl (y : Int) :: kI m := h
    have h2 := List.cons.inj h1
    have e : x = y := by have := Sum.inl.inj h2.1; omega
    rw [e, kI_inj h2.2]
theorem rangeD0 (n : Nat) : rangeD 0 n = (List.range n).map nI := by
  unfold rangeD
  apply List.map_congr_left
  intro i _
  show D.int (0 + (i : Int)) = D.int (i : Int)
  rw [Int.zero_add]
theorem flat_len {α β : Type} {g : α → List β} {c : Nat} : ∀ (l : List α), (∀ x ∈ l, (g x).length = c) → (l.flatMap g).length = l.length * c
  | [], _ => by simp
  | x :: l, h => by
    rw [List.flatMap_cons, List.length_append, h x List.mem_cons_self, flat_len l fun y hy => h y (List.mem_cons_of_mem _ hy), List.length_cons, Nat.succ_mul, Nat.add_comm]
theorem flat_take {α β : Type} {g : α → List β} {l : List α} {i : Nat} {x : α} (h : l[i]? = some x) : (l.take (i + 1)).flatMap g = (l.take i).flatMap g ++ g x := by
  rw [List.take_add_one, h, Option.toList_some, List.flatMap_append, List.flatMap_cons, List.flatMap_nil, List.append_nil]
theorem sline {n : Nat} (h : n ≤ 100000) : n < sizeLine := Nat.lt_of_le_of_lt h (by rw [sizeLine_eq]; decide)
/-! ### all elements -/
def widen (found : List (List Nat)) (o : Nat) : List (List Nat) := found.flatMap fun one => (List.range o).map fun k => one ++ [k]
def elemsF (orders : List Nat) : List (List Nat) := orders.foldl widen [[]]
def R_elem : List D → D → Prop := fun ds r => ∃ orders : List Nat, ds = [.lst (orders.map nI)] ∧ orders.length ≤ 3 ∧ (∀ o ∈ orders, o ≤ 40) ∧ r = .lst ((elemsF orders).map tI)
theorem widen_len (found : List (List Nat)) (o : Nat) : (widen found o).length = found.length * o := flat_len _ fun x _ => by rw [List.length_map, List.length_range]
theorem elems_len : ∀ (orders : List Nat) (f : List (List Nat)) (c : Nat), (∀ o ∈ orders, o ≤ 40) → f.length ≤ c → (orders.foldl widen f).length ≤ c * 40 ^ orders.length
  | [], f, c, _, h => by simpa using h
  | o :: os, f, c, ho, h => by
    have h1 : (widen f o).length ≤ c * 40 := by rw [widen_len]; exact Nat.mul_le_mul h (ho o List.mem_cons_self)
    have h2 := elems_len os (widen f o) (c * 40) (fun x hx => ho x (List.mem_cons_of_mem _ hx)) h1
    rw [List.length_cons, Nat.pow_succ, Nat.mul_comm (40 ^ os.length), ← Nat.mul_assoc]
    exact h2
theorem elems_mem : ∀ (orders : List Nat) (f : List (List Nat)) (n : Nat), (∀ x ∈ f, x.length ≤ n) → ∀ x ∈ orders.foldl widen f, x.length ≤ n + orders.length
  | [], f, n, h => h
  | o :: os, f, n, h => by
    intro x hx
    have h1 := elems_mem os (widen f o) (n + 1) (fun y hy => by
      obtain ⟨z, hz, hy⟩ := List.mem_flatMap.mp hy
      obtain ⟨k, _, rfl⟩ := List.mem_map.mp hy
      rw [List.length_append, List.length_singleton]
      exact Nat.succ_le_succ (h z hz)) x hx
    rw [List.length_cons]
    omega
theorem elems_take (orders : List Nat) (h3 : orders.length ≤ 3) (ho : ∀ o ∈ orders, o ≤ 40) (i : Nat) : ((orders.take i).foldl widen [[]]).length ≤ 64000 := by
  have h := elems_len (orders.take i) [[]] 1 (fun o h => ho o (List.mem_of_mem_take h)) (Nat.le_refl _)
  refine Nat.le_trans h ?_
  rw [Nat.one_mul]
  exact Nat.le_trans (Nat.pow_le_pow_right (by decide) (by rw [List.length_take]; omega : (orders.take i).length ≤ 3)) (by decide)
section
variable {P : Program} {w : World} {K : PySem.W.Frag} {mg : Str → Option Value} {base : Heap} {f : Addr} {fd : FuncData}
abbrev s_law_elements : Stmt := topS 8
abbrev N_law_elements : List Str := ["_law_orders", "_law_found", "_law_order", "_law_wider", "_law_one", "_law_k"]
theorem sc_law_elements : FnScope ["_law_orders", "_law_found", "_law_order", "_law_wider", "_law_one", "_law_k"] ["_law_orders"] (defScope s_law_elements) := ⟨rfl, rfl, rfl, by decide +kernel, rfl, by decide +kernel, by decide +kernel⟩
theorem ok_elem {k : Nat} (F : Fun K "_law_elements" "_law_elements" s_law_elements f fd) (Z_range : mg "range" = none) : FnOk P w K mg base CX0 (k + 1) f fd ["_law_orders"] (spP K R_elem) := by
  refine fn_pure F sc_law_elements (fun ds r h => by obtain ⟨a, rfl, _⟩ := h; rfl) fun cdv A outer s H E ds r hr h => ?_
  obtain ⟨orders, rfl, h3, ho, rfl⟩ := h
  refine ⟨_, (pss_cons
    (ps_set (i := 1) sc_law_elements.nd rfl (.inl rfl) (pe_lst (pa_cons (pe_tup pa_nil) pa_nil)))
    (pss_cons
    (ps_for PassesOwn.never rfl (pi_listK (K := K) rfl (pv 0)) (pg_name (i := 2) sc_law_elements.nd rfl (.inl rfl)) (pss_cons
      (ps_set (i := 3) sc_law_elements.nd rfl (.inl rfl) (pe_lst pa_nil))
      (pss_cons
      (ps_for PassesOwn.never rfl (pi_listK (K := K) rfl (pv 1)) (pg_name (i := 4) sc_law_elements.nd rfl (.inr rfl)) (pss_one
        (ps_expr (pe_bm PySem.F.plainAttrs_list PySem.F.slot_list_extend PySem.F.type_list_extend mt_extend (pv 3) (pa_cons (pe_lc (own := [("_law_k", 5)]) rfl sc_law_elements.nd (pi_range1 (by rfl) Z_range (pa_cons (pv 2) pa_nil)) (blkOk_by (N := N_law_elements) (sc := defScope s_law_elements) (by decide +kernel)) (fun _ _ _ _ _ => (pg_name (i := 5) sc_law_elements.nd rfl (.inl rfl))) (fun _ _ _ _ _ => pts_nil) (fun _ _ _ _ _ => (pe_op (op_catAK (K := K) rfl) (pv 4) (pe_tup (pa_cons (pv 5) pa_nil))))) pa_nil)))))
      (pss_one
      (ps_set (i := 1) sc_law_elements.nd rfl (.inl rfl) (pv 3))))))
    (pss_one
    (ps_ret (pv 1))))), ?_⟩
  show Wp K _ [_, _, _, _, _, _] _
  refine wp_seq (wp_set (s := .own [tI []]) (ev_lst (ds := [tI []]) (ea_cons (ev_tup (ds := []) ea_nil (sz (n := 0) (by decide))) ea_nil) (sz (n := 1) (by decide))) (ltn (n := 6) (by decide) rfl) ?_)
  refine wp_frz (i := 1) rfl ?_
  refine wp_seq (wp_for (fun i ρ => ∃ z1 z2 z3, ρ = [.val (.lst (orders.map nI)), .val (.lst (((orders.take i).foldl widen [[]]).map tI)), z1, z2, z3, .no]) (ei_list (ev_var rfl)) ⟨_, _, _, rfl⟩ ?_ ?_)
  · rintro i d ρ hd ⟨z1, z2, z3, rfl⟩
    rw [List.getElem?_map] at hd
    obtain ⟨o, hoi, rfl⟩ := Option.map_eq_some_iff.mp hd
    have ho40 := ho o (List.mem_of_getElem? hoi)
    let found := (orders.take i).foldl widen [[]]
    have hfl : found.length ≤ 64000 := elems_take orders h3 ho i
    have hfl2 : found.length * o ≤ 64000 := by
      have e : widen found o = (orders.take (i + 1)).foldl widen [[]] := by
        rw [List.take_add_one, hoi, Option.toList_some, List.foldl_append]
        rfl
      rw [← widen_len, e]
      exact elems_take orders h3 ho (i + 1)
    refine ⟨_, ⟨_, eg_name (ltn (n := 6) (by decide) rfl)⟩, ?_⟩
    refine wp_seq (wp_set (ev_lst (ds := []) ea_nil (sz (n := 0) (by decide))) (ltn (n := 6) (by decide) rfl) ?_)
    refine wp_seq (wp_for (fun j ρ => ∃ z3, ρ = [.val (.lst (orders.map nI)), .val (.lst (found.map tI)), .val (nI o), .own (((found.take j).flatMap fun one => (List.range o).map fun k => one ++ [k]).map tI), z3, .no]) (ei_list (ev_var rfl)) ⟨_, rfl⟩ ?_ ?_)
    · rintro j d ρ hd ⟨z3, rfl⟩
      rw [List.getElem?_map] at hd
      obtain ⟨one, hj, rfl⟩ := Option.map_eq_some_iff.mp hd
      have hjl : j < found.length := (List.getElem?_eq_some_iff.mp hj).1
      refine ⟨_, ⟨_, eg_name (ltn (n := 6) (by decide) rfl)⟩, ?_⟩
      refine wp_ext rfl (ev_lcP [5] (List.range o) 0 nI (fun _ => true) (fun k => tI (one ++ [k])) (rangeD0 o ▸ ei_range1 (n := (o : Int)) (ea_cons (ev_var rfl) ea_nil) (by omega)) ?_ ?_ ?_ ?_) rfl ?_ ?_
      · rw [List.length_range]; omega
      · intro v hv; rw [List.mem_singleton.mp hv]; rfl
      · exact fun j hj => hj
      · intro k hk
        refine ⟨_, _, _, eg_name (ltn (n := 6) (by decide) rfl), et_yes, fun _ => ⟨ev_is (ev_catA (ev_var rfl) (ev_tup (ds := [nI k]) (ea_cons (ev_var rfl) ea_nil) (sz (n := 1) (by decide))) ?_) ?_, rfl⟩, fun z => (by cases z)⟩
        · have h1 := elems_mem (orders.take i) [[]] 0 (fun x hx => by rw [List.mem_singleton.mp hx]; exact Nat.le_refl _) one (List.mem_of_getElem? hj)
          have h2 : (orders.take i).length ≤ 3 := by rw [List.length_take]; omega
          rw [List.length_map]
          exact sz (by show one.length + 1 ≤ 1000; omega)
        · show Lw.Slot.val (.tup (one.map nI ++ [nI k])) = _
          rw [← List.map_singleton, ← List.map_append]
      · rw [List.filter_eq_self.mpr (fun _ _ => rfl), List.length_map, List.length_map, List.length_range, flat_len (c := o) _ (fun x _ => by rw [List.length_map, List.length_range]), List.length_take]
        have : min j found.length * o + o ≤ 64000 := by
          have e : min j found.length = j := by omega
          rw [e, ← Nat.succ_mul]
          exact Nat.le_trans (Nat.mul_le_mul_right o hjl) hfl2
        exact Nat.le_of_lt (sline (by omega))
      · refine ⟨.val (tI one), ?_⟩
        rw [flat_take hj, List.filter_eq_self.mpr (fun _ _ => rfl), List.map_append, List.map_map (f := fun k => one ++ [k])]
        rfl
    · rintro ρ ⟨z3, rfl⟩
      rw [List.length_map, List.take_length]
      refine wp_set (ev_varF rfl) (ltn (n := 6) (by decide) rfl) ?_
      refine ⟨.val (nI o), .val (.lst ((widen found o).map tI)), z3, ?_⟩
      rw [List.take_add_one, hoi, Option.toList_some, List.foldl_append]
      rfl
  · rintro ρ ⟨z1, z2, z3, rfl⟩
    rw [List.length_map, List.take_length]
    exact wp_ret (ev_var rfl) rfl

/-! ### what some generate -/
def addO : List Nat → List Nat → List Nat → List Nat
  | x :: xs, y :: ys, o :: os => ((x + y) % o) :: addO xs ys os
  | _, _, _ => []
def genStep (orders cur : List Nat) (found : List (List Nat)) (one : List Nat) : List (List Nat) := if addO cur one orders ∈ found then found else found ++ [addO cur one orders]
def bfs : Nat → List Nat → List (List Nat) → List (List Nat) → Nat → Option Nat
  | 0, _, _, _, _ => none
  | f + 1, orders, some1, found, i => if i < found.length then bfs f orders some1 (some1.foldl (genStep orders (found.getD i [])) found) (i + 1) else some found.length
def zerosF (orders : List Nat) : List Nat := orders.map fun _ => 0
def R_gen : List D → D → Prop := fun ds r => ∃ (orders : List Nat) (some1 : List (List Nat)) (n : Nat), ds = [.lst (orders.map nI), .tup (some1.map tI)] ∧ (∀ o ∈ orders, 1 ≤ o ∧ o ≤ 40) ∧ orders.length ≤ 3 ∧ some1.length ≤ 3 ∧ bfs 64 orders some1 [zerosF orders] 0 = some n ∧ r = nI n
def z3 : List Nat → List Nat → List Nat → List (Nat × Nat × Nat)
  | x :: xs, y :: ys, o :: os => (x, y, o) :: z3 xs ys os
  | _, _, _ => []
theorem z3_add : ∀ xs ys os, (z3 xs ys os).map (fun t => (t.1 + t.2.1) % t.2.2) = addO xs ys os
  | x :: xs, y :: ys, o :: os => by show _ :: (z3 xs ys os).map _ = _ :: _; rw [z3_add xs ys os]
  | [], _, _ => by simp [z3, addO]
  | _ :: _, [], _ => by simp [z3, addO]
  | _ :: _, _ :: _, [] => by simp [z3, addO]
theorem z3_zip : ∀ xs ys os : List Nat, zip3D (xs.map nI) (ys.map nI) (os.map nI) = (z3 xs ys os).map fun t => D.tup [nI t.1, nI t.2.1, nI t.2.2]
  | x :: xs, y :: ys, o :: os => by show _ :: zip3D (xs.map nI) (ys.map nI) (os.map nI) = _ :: (z3 xs ys os).map _; rw [z3_zip xs ys os]
  | [], _, _ => by simp [z3, zip3D]
  | _ :: _, [], _ => by simp [z3, zip3D]
  | _ :: _, _ :: _, [] => by simp [z3, zip3D]
theorem z3_mem : ∀ {xs ys os : List Nat} {t : Nat × Nat × Nat}, t ∈ z3 xs ys os → t.2.2 ∈ os
  | x :: xs, y :: ys, o :: os, t, h => by
    rcases List.mem_cons.mp h with rfl | h
    · exact List.mem_cons_self
    · exact List.mem_cons_of_mem _ (z3_mem h)
  | [], _, _, _, h => by simp [z3] at h
  | _ :: _, [], _, _, h => by simp [z3] at h
  | _ :: _, _ :: _, [], _, h => by simp [z3] at h
theorem z3_len : ∀ xs ys os : List Nat, (z3 xs ys os).length ≤ os.length
  | x :: xs, y :: ys, o :: os => Nat.succ_le_succ (z3_len xs ys os)
  | [], _, _ => by simp [z3]
  | _ :: _, [], _ => by simp [z3]
  | _ :: _, _ :: _, [] => by simp [z3]
theorem genStep_len (orders cur : List Nat) (found : List (List Nat)) (one : List Nat) : (genStep orders cur found one).length ≤ found.length + 1 := by
  unfold genStep
  split
  · omega
  · rw [List.length_append, List.length_singleton]; exact Nat.le_refl _
theorem genStep_pre (orders cur : List Nat) (found : List (List Nat)) (one : List Nat) : ∃ r, genStep orders cur found one = found ++ r := by
  unfold genStep
  split
  · exact ⟨[], by rw [List.append_nil]⟩
  · exact ⟨_, rfl⟩
theorem gen_pre (orders cur : List Nat) : ∀ (l : List (List Nat)) (found : List (List Nat)), ∃ r, l.foldl (genStep orders cur) found = found ++ r ∧ r.length ≤ l.length
  | [], found => ⟨[], by rw [List.append_nil]; rfl, Nat.le_refl _⟩
  | one :: l, found => by
    obtain ⟨r1, h1⟩ := genStep_pre orders cur found one
    obtain ⟨r2, h2, h3⟩ := gen_pre orders cur l (genStep orders cur found one)
    refine ⟨r1 ++ r2, by show l.foldl _ (genStep orders cur found one) = _; rw [h2, h1, List.append_assoc], ?_⟩
    have := genStep_len orders cur found one
    rw [h1, List.length_append] at this
    rw [List.length_append, List.length_cons]
    omega
theorem hasK_found (found : List (List Nat)) (m : List Nat) : hasK (found.map fun l => (kI l, D.bl true)) (kI m) = decide (m ∈ found) := by
  unfold hasK
  rw [List.any_map, Bool.eq_iff_iff]
  simp only [List.any_eq_true, Function.comp, decide_eq_true_eq]
  constructor
  · rintro ⟨x, hx, e⟩
    rw [← kI_inj e]; exact hx
  · intro h
    exact ⟨m, h, rfl⟩
abbrev kD (l : List Nat) : D := .ktup (kI l)
theorem kI_ints (l : List Nat) : (l.map fun (n : Nat) => (n : Int)).map Sum.inl = kI l := by unfold kI; rw [List.map_map]; rfl
abbrev s_law_generated : Stmt := topS 9
abbrev N_law_generated : List Str := ["_law_orders", "_law_some", "_law_found", "_law_at", "_law_known", "_law_one", "_law_more", "_law_order", "_law_a", "_law_b"]
theorem sc_law_generated : FnScope ["_law_orders", "_law_some", "_law_found", "_law_at", "_law_known", "_law_one", "_law_more", "_law_order", "_law_a", "_law_b"] ["_law_orders", "_law_some"] (defScope s_law_generated) := ⟨rfl, rfl, rfl, by decide +kernel, rfl, by decide +kernel, by decide +kernel⟩
theorem ok_gen {k : Nat} (F : Fun K "_law_generated" "_law_generated" s_law_generated f fd) (Z_len : mg "len" = none) (Z_int : mg "int" = none) (Z_tuple : mg "tuple" = none) (Z_dict : mg "dict" = none) (Z_zip : mg "zip" = none) : FnOk P w K mg base CX0 (k + 1) f fd ["_law_orders", "_law_some"] (spP K R_gen) := by
  refine fn_pure F sc_law_generated (fun ds r h => by obtain ⟨a, b, n, rfl, _⟩ := h; rfl) fun cdv A outer s H E ds r hr h => ?_
  obtain ⟨orders, some1, n, rfl, ho, hol, hs3, hbfs, rfl⟩ := h
  have hu := hu_of hr
  refine ⟨_, (pss_cons
    (ps_par (i := 2) (j := 3) (by rfl) sc_law_generated.nd rfl rfl (by decide) rfl rfl (pa_cons (pe_lst (pa_cons (pe_callTy (call_tupleK (K := K) rfl) (by rfl) Z_tuple (by decide +kernel) (pa_cons (pe_lc (own := [("_law_order", 7)]) rfl sc_law_generated.nd (pi_listK (K := K) rfl (pv 0)) (blkOk_by (N := N_law_generated) (sc := defScope s_law_generated) (by decide +kernel)) (fun _ _ _ _ _ => (pg_name (i := 7) sc_law_generated.nd rfl (.inl rfl))) (fun _ _ _ _ _ => pts_nil) (fun _ _ _ _ _ => pe_int)) pa_nil)) pa_nil)) (pa_cons pe_int pa_nil)) (by rfl))
    (pss_cons
    (ps_set (i := 4) sc_law_generated.nd rfl (.inl rfl) (pe_callTy (cr_dict1K (K := K) rfl rfl hr.units) (by rfl) Z_dict (by decide +kernel) (pa_cons (pe_lst (pa_cons (pe_tup (pa_cons (pe_ix (ix_listK (K := K) rfl) (pv 2) pe_int (fun _ _ => rfl)) (pa_cons pe_bl pa_nil))) pa_nil)) pa_nil)))
    (pss_cons
    (ps_while PassesOwn.never (pt_cmpR op_lt (pv 3) (pe_callB (call_lenK (K := K) rfl) (by rfl) Z_len PySem.boot_len (pa_cons (pv 2) pa_nil)) (nomark _)) (pss_cons
      (ps_for PassesOwn.never rfl (pi_tupK (K := K) rfl (pv 1)) (pg_name (i := 5) sc_law_generated.nd rfl (.inl rfl)) (pss_cons
        (ps_set (i := 6) sc_law_generated.nd rfl (.inl rfl) (pe_callTy (call_tupleK (K := K) rfl) (by rfl) Z_tuple (by decide +kernel) (pa_cons (pe_lc (own := [("_law_a", 8), ("_law_b", 9), ("_law_order", 7)]) rfl sc_law_generated.nd (pi_zip3K (K := K) rfl false false true (by rfl) Z_zip (pa_cons (pe_ix (ix_listK (K := K) rfl) (pv 2) (pv 3) (fun _ _ => rfl)) (pa_cons (pv 5) (pa_cons (pv 0) pa_nil)))) (blkOk_by (N := N_law_generated) (sc := defScope s_law_generated) (by decide +kernel)) (fun _ _ _ _ _ => (pg_tupK (K := K) (n := 3) rfl rfl (pgs_cons (pg_name (i := 8) sc_law_generated.nd rfl (.inl rfl)) (pgs_cons (pg_name (i := 9) sc_law_generated.nd rfl (.inl rfl)) (pgs_cons (pg_name (i := 7) sc_law_generated.nd rfl (.inl rfl)) pgs_nil))))) (fun _ _ _ _ _ => pts_nil) (fun _ _ _ _ _ => (pe_op op_mod (pe_callTy call_int1 (by rfl) Z_int (by decide +kernel) (pa_cons (pe_op op_add (pv 8) (pv 9)) pa_nil)) (pv 7)))) pa_nil)))
        (pss_one
        (ps_if (pt_cmp (pc_dnotin hu (pv 6) (pv 4))) (pss_cons
          (ps_dput hu (pv 4) (pv 6) pe_bl rfl)
          (pss_one
          (ps_expr (pe_bm PySem.F.plainAttrs_list PySem.F.slot_list_append PySem.F.type_list_append mt_append (pv 2) (pa_cons (pv 6) pa_nil))))) pss_nil))))
      (pss_one
      (ps_set (i := 3) sc_law_generated.nd rfl (.inl rfl) (pe_op op_add (pv 3) pe_int)))))
    (pss_one
    (ps_ret (pe_callB (call_lenK (K := K) rfl) (by rfl) Z_len PySem.boot_len (pa_cons (pv 2) pa_nil))))))), ?_⟩
  show Wp K _ [_, _, _, _, _, _, _, _, _, _] _
  let zs := zerosF orders
  refine wp_seq (wp_par (s1 := .own [kD zs]) (s2 := .val (nI 0)) (ea_cons (ev_lst (ds := [kD zs]) (ea_cons (ev_is (ev_tupleK (ns := zs.map fun (n : Nat) => (n : Int)) (ev_is (ev_frz (ev_lcP [7] orders 0 nI (fun _ => true) (fun _ => D.int 0) (ei_list (ev_var rfl)) ?_ ?_ ?_ ?_)) ?_)) ?_) ea_nil) (sz (n := 1) (by decide))) (ea_cons ev_int ea_nil)) (ltn (n := 10) (by decide) rfl) (ltn (n := 10) (by decide) rfl) (by decide) ?_)
  · omega
  · intro v hv; rw [List.mem_singleton.mp hv]; rfl
  · exact fun j hj => hj
  · intro x hx
    exact ⟨_, _, _, eg_name (ltn (n := 10) (by decide) rfl), et_yes, fun _ => ⟨ev_int, rfl⟩, fun z => (by cases z)⟩
  · show Lw.Slot.val (.lst _) = Lw.Slot.val (.lst _)
    rw [List.filter_eq_self.mpr (fun _ _ => rfl)]
    show _ = Lw.Slot.val (.lst (((orders.map fun _ => 0).map fun (n : Nat) => (n : Int)).map D.int))
    rw [List.map_map, List.map_map]
    rfl
  · rw [kI_ints]
  refine wp_seq (wp_set (s := .dT [(kI zs, .bl true)]) (ev_dict1 (ev_lst (ds := [.tup [kD zs, .bl true]]) (ea_cons (ev_tup (ds := [kD zs, .bl true]) (ea_cons (ev_ixO rfl ev_int rfl ?_) (ea_cons ev_bl ea_nil)) (sz (n := 2) (by decide))) ea_nil) (sz (n := 1) (by decide)))) (ltn (n := 10) (by decide) rfl) ?_)
  · exact rfl
  refine wp_seq (wp_while (fun ρ => ∃ (g i : Nat) (found : List (List Nat)) (z1 z2 : Slot), ρ = [.val (.lst (orders.map nI)), .val (.tup (some1.map tI)), .own (found.map kD), .val (nI i), .dT (found.map fun l => (kI l, D.bl true)), z1, z2, .no, .no, .no] ∧ bfs g orders some1 found i = some n ∧ g ≤ 64 ∧ found.length ≤ 1 + 3 * (64 - g))
    (fun ρ => match ρ with
    | [_, _, .own l, .val (.int i), _, _, _, _, _, _] => 1000 - i.toNat
    | _ => 0) ?_ ?_)
  · exact ⟨64, 0, [zs], _, _, rfl, hbfs, Nat.le_refl _, by show 1 ≤ _; omega⟩
  · rintro ρ ⟨g, i, found, z1, z2, rfl, hg, g64, hfl⟩
    have hfl2 : found.length ≤ 200 := by omega
    obtain ⟨g, rfl⟩ : ∃ y, g = y + 1 := by
      cases g with
      | zero => cases hg
      | succ g => exact ⟨g, rfl⟩
    have hb : bfs (g + 1) orders some1 found i = if i < found.length then bfs g orders some1 (some1.foldl (genStep orders (found.getD i [])) found) (i + 1) else some found.length := rfl
    refine ⟨_, _, et_test (ev_op0B (f := fun i j => decide (i < j)) (ev_var rfl) (ev_lenO rfl)), fun hc => ?_, fun hc => ?_⟩
    · have hi : i < found.length := by have := of_decide_eq_true hc; rw [List.length_map] at this; omega
      rw [if_pos hi] at hb
      rw [hb] at hg
      let cur := found.getD i []
      have hcur : found[i]? = some cur := by
        show _ = some (found.getD i [])
        rw [List.getD_eq_getElem?_getD, List.getElem?_eq_getElem hi]
        rfl
      refine wp_seq (wp_for (fun j ρ => ∃ (z1 z2 : Slot), ρ = [.val (.lst (orders.map nI)), .val (.tup (some1.map tI)), .own (((some1.take j).foldl (genStep orders cur) found).map kD), .val (nI i), .dT (((some1.take j).foldl (genStep orders cur) found).map fun l => (kI l, D.bl true)), z1, z2, .no, .no, .no]) (ei_tup (ev_var rfl)) ⟨_, _, rfl⟩ ?_ ?_)
      · rintro j d ρ hd ⟨z1, z2, rfl⟩
        rw [List.getElem?_map] at hd
        obtain ⟨one, hj, rfl⟩ := Option.map_eq_some_iff.mp hd
        let fj := (some1.take j).foldl (genStep orders cur) found
        obtain ⟨rest, hrest, hrl⟩ := gen_pre orders cur (some1.take j) found
        have hfj : fj = found ++ rest := hrest
        have hfjl : fj.length ≤ 210 := by rw [hfj, List.length_append]; rw [List.length_take] at hrl; omega
        have hfi : fj[i]? = some cur := by rw [hfj, List.getElem?_append_left hi]; exact hcur
        let m := addO cur one orders
        have hnext : (some1.take (j + 1)).foldl (genStep orders cur) found = genStep orders cur fj one := by
          rw [List.take_add_one, hj, Option.toList_some, List.foldl_append]
          rfl
        refine ⟨_, ⟨_, eg_name (ltn (n := 10) (by decide) rfl)⟩, ?_⟩
        refine wp_seq (wp_set (s := .val (kD m)) (ev_is (ev_tupleK (ns := m.map fun (n : Nat) => (n : Int)) (ev_is (ev_frz (ev_lcP [8, 9, 7] (z3 cur one orders) (0, 0, 0) (fun t => D.tup [nI t.1, nI t.2.1, nI t.2.2]) (fun _ => true) (fun t => D.int (((t.1 : Int) + (t.2.1 : Int)) % (t.2.2 : Int)))
          (z3_zip cur one orders ▸ ei_zip3 (b1 := false) (b2 := false) (b3 := true) (ds := cur.map nI) (es := one.map nI) (fs := orders.map nI) (ea_cons (kI_keyD cur ▸ ev_k2t (ev_ixO rfl (ev_var rfl) rfl ?hat)) (ea_cons (ev_var rfl) (ea_cons (ev_var rfl) ea_nil)))) ?_ ?_ ?_ ?_)) ?_)) ?_) (ltn (n := 10) (by decide) rfl) ?_)
        case hat =>
          show atI (fj.map kD) (i : Int) = some (kD cur)
          exact atI_nat (by rw [List.getElem?_map, hfi]; rfl)
        · have := z3_len cur one orders; omega
        · intro v hv
          have : v = 8 ∨ v = 9 ∨ v = 7 := by simpa using hv
          rcases this with rfl | rfl | rfl <;> rfl
        · exact fun j hj => hj
        · intro t ht
          have := ho _ (z3_mem ht)
          refine ⟨_, _, _, eg_tup (egs_cons (eg_name (ltn (n := 10) (by decide) rfl)) (egs_cons (eg_name (ltn (n := 10) (by decide) rfl)) (egs_cons (eg_name (ltn (n := 10) (by decide) rfl)) egs_nil))) rfl, et_yes, fun _ => ⟨ev_opC (f := fun i j => i % j) (ev_int1 (ev_op0 (f := fun i j => i + j) (ev_var rfl) (ev_var rfl))) (ev_var rfl) ?_, rfl⟩, fun z => (by cases z)⟩
          show (0 : Int) < (t.2.2 : Int)
          omega
        · show Lw.Slot.val (.lst _) = Lw.Slot.val (.lst _)
          rw [List.filter_eq_self.mpr (fun _ _ => rfl)]
          show _ = Lw.Slot.val (.lst (((addO cur one orders).map fun (n : Nat) => (n : Int)).map D.int))
          rw [← z3_add, List.map_map, List.map_map]
          congr 2
        · rw [kI_ints]
        refine wp_if (et_B (ev_dnotin (ev_var rfl) rfl)) (fun hc => ?_) (fun hc => ?_)
        · rw [hasK_found] at hc
          have hnm : m ∉ fj := by simpa using hc
          have hgs : genStep orders cur fj one = fj ++ [m] := if_neg hnm
          refine wp_seq (wp_dput ev_bl rfl rfl ?_ ?_ ?_)
          · rw [hasK_found]; exact decide_eq_false hnm
          · rw [List.length_map]; exact sline (Nat.le_trans hfjl (by decide))
          refine wp_app rfl (ev_var rfl) rfl ?_ ?_
          · rw [List.length_map]; exact sline (Nat.le_trans hfjl (by decide))
          · refine ⟨.val (tI one), .val (kD m), ?_⟩
            rw [hnext, hgs, List.map_append, List.map_append]
            rfl
        · rw [hasK_found] at hc
          have hnm : m ∈ fj := by simpa using hc
          have hgs : genStep orders cur fj one = fj := if_pos hnm
          refine wp_next ⟨.val (tI one), .val (kD m), ?_⟩
          rw [hnext, hgs]
          rfl
      · rintro ρ ⟨z1, z2, rfl⟩
        rw [List.length_map, List.take_length]
        obtain ⟨rest, hrest, hrl⟩ := gen_pre orders cur some1 found
        refine wp_set (ev_op0 (f := fun i j => i + j) (ev_var rfl) ev_int) (ltn (n := 10) (by decide) rfl) ?_
        refine ⟨⟨g, i + 1, _, z1, z2, rfl, hg, by omega, ?_⟩, ?_⟩
        · rw [hrest, List.length_append]; omega
        · show 1000 - ((i : Int) + 1).toNat < 1000 - (i : Int).toNat
          omega
    · have hi : ¬ i < found.length := by have := of_decide_eq_false hc; rw [List.length_map] at this; omega
      rw [if_neg hi] at hb
      rw [hb] at hg
      refine wp_ret (ev_lenO rfl) ?_
      rw [List.length_map]
      show some (nI found.length) = some (nI n)
      rw [Option.some.inj hg]
end
end K55

namespace K55
open PySem PySem.Spec PyProof.Rows L2 Lw
/-! ### all tuples gone through -/
def widenR (every : List (List Nat)) (rows : List (List (List Nat))) : List (List (List Nat)) := rows.flatMap fun row => every.map fun one => row ++ [one]
def rowsF (every : List (List Nat)) (many : Nat) : List (List (List Nat)) := (List.range many).foldl (fun rows _ => widenR every rows) [[]]
def genN (orders : List Nat) (row : List (List Nat)) : Nat := (bfs 64 orders row [zerosF orders] 0).getD 0
def countF (orders : List Nat) (many : Nat) : Nat := ((rowsF (elemsF orders) many).filter fun row => genN orders row == (elemsF orders).length).length
abbrev rI (row : List (List Nat)) : D := .tup (row.map tI)
def R_counted : List D → D → Prop := fun ds r => ∃ (orders : List Nat) (many : Nat), ds = [.lst (orders.map nI), nI many] ∧ orders.length ≤ 3 ∧ (∀ o ∈ orders, 1 ≤ o ∧ o ≤ 40) ∧ many ≤ 3 ∧ (∀ i, i ≤ many → (elemsF orders).length ^ i ≤ 1000) ∧
  (∀ row ∈ rowsF (elemsF orders) many, (bfs 64 orders row [zerosF orders] 0).isSome = true) ∧ r = nI (countF orders many)
theorem rows_succ (every : List (List Nat)) (i : Nat) : rowsF every (i + 1) = widenR every (rowsF every i) := by
  unfold rowsF
  rw [List.range_succ, List.foldl_append]
  rfl
theorem rows_len (every : List (List Nat)) : ∀ i, (rowsF every i).length = every.length ^ i
  | 0 => rfl
  | i + 1 => by
    rw [rows_succ]
    show (List.flatMap _ _).length = _
    rw [flat_len (c := every.length) _ (fun x _ => by rw [List.length_map]), rows_len every i, Nat.pow_succ]
theorem rows_mem (every : List (List Nat)) : ∀ i, ∀ row ∈ rowsF every i, row.length = i
  | 0, row, h => by rw [List.mem_singleton.mp h]; rfl
  | i + 1, row, h => by
    rw [rows_succ] at h
    obtain ⟨z, hz, h⟩ := List.mem_flatMap.mp h
    obtain ⟨o, _, rfl⟩ := List.mem_map.mp h
    rw [List.length_append, rows_mem every i z hz]
    rfl
section
variable {P : Program} {w : World} {K : PySem.W.Frag} {mg : Str → Option Value} {base : Heap} {f : Addr} {fd : FuncData}
abbrev s_law_counted : Stmt := topS 10
abbrev N_law_counted : List Str := ["_law_orders", "_law_many", "_law_rows", "_law_every", "_law_turn", "_law_wider", "_law_row", "_law_one"]
theorem sc_law_counted : FnScope ["_law_orders", "_law_many", "_law_rows", "_law_every", "_law_turn", "_law_wider", "_law_row", "_law_one"] ["_law_orders", "_law_many"] (defScope s_law_counted) := ⟨rfl, rfl, rfl, by decide +kernel, rfl, by decide +kernel, by decide +kernel⟩
theorem ok_counted {k : Nat} (F : Fun K "_law_counted" "_law_counted" s_law_counted f fd) (Z_len : mg "len" = none) (Z_range : mg "range" = none)
    {a1 a2 : Addr} {f1 f2 : FuncData} (G_law_elements : FnOk P w K mg base CX0 k a1 f1 ["_law_orders"] (spP K R_elem)) (M_law_elements : mg "_law_elements" = some (.ref a1)) (k_law_elements : PySem.W.keepIn K (.ref a1) = true) (B_law_elements : Binds K f1 ["_law_orders"] [])
    (G_law_generated : FnOk P w K mg base CX0 k a2 f2 ["_law_orders", "_law_some"] (spP K R_gen)) (M_law_generated : mg "_law_generated" = some (.ref a2)) (k_law_generated : PySem.W.keepIn K (.ref a2) = true) (B_law_generated : Binds K f2 ["_law_orders", "_law_some"] []) :
    FnOk P w K mg base CX0 (k + 1) f fd ["_law_orders", "_law_many"] (spP K R_counted) := by
  refine fn_pure F sc_law_counted (fun ds r h => by obtain ⟨a, b, rfl, _⟩ := h; rfl) fun cdv A outer s H E ds r hr h => ?_
  obtain ⟨orders, many, rfl, hol, ho, hm, hsz, hall, rfl⟩ := h
  refine ⟨_, (pss_cons
    (ps_asg (pe_tup (pa_cons (pe_lst (pa_cons (pe_tup pa_nil) pa_nil)) (pa_cons (pe_call G_law_elements hr (by rfl) M_law_elements k_law_elements B_law_elements .nil pass0 (pa_cons (pv 0) pa_nil)) pa_nil))) (pg_tupK (K := K) (n := 2) rfl rfl (pgs_cons (pg_name (i := 2) sc_law_counted.nd rfl (.inl rfl)) (pgs_cons (pg_name (i := 3) sc_law_counted.nd rfl (.inr rfl)) pgs_nil))))
    (pss_cons
    (ps_for PassesOwn.never rfl (pi_range1 (by rfl) Z_range (pa_cons (pv 1) pa_nil)) (pg_name (i := 4) sc_law_counted.nd rfl (.inl rfl)) (pss_cons
      (ps_set (i := 5) sc_law_counted.nd rfl (.inl rfl) (pe_lst pa_nil))
      (pss_cons
      (ps_for PassesOwn.never rfl (pi_listK (K := K) rfl (pv 2)) (pg_name (i := 6) sc_law_counted.nd rfl (.inr rfl)) (pss_one
        (ps_expr (pe_bm PySem.F.plainAttrs_list PySem.F.slot_list_extend PySem.F.type_list_extend mt_extend (pv 5) (pa_cons (pe_lc (own := [("_law_one", 7)]) rfl sc_law_counted.nd (pi_listK (K := K) rfl (pv 3)) (blkOk_by (N := N_law_counted) (sc := defScope s_law_counted) (by decide +kernel)) (fun _ _ _ _ _ => (pg_name (i := 7) sc_law_counted.nd rfl (.inl rfl))) (fun _ _ _ _ _ => pts_nil) (fun _ _ _ _ _ => (pe_op (op_catAK (K := K) rfl) (pv 6) (pe_tup (pa_cons (pv 7) pa_nil))))) pa_nil)))))
      (pss_one
      (ps_set (i := 2) sc_law_counted.nd rfl (.inl rfl) (pv 5))))))
    (pss_one
    (ps_ret (pe_callB (call_lenK (K := K) rfl) (by rfl) Z_len PySem.boot_len (pa_cons (pe_lc (own := [("_law_row", 6)]) rfl sc_law_counted.nd (pi_listK (K := K) rfl (pv 2)) (blkOk_by (N := N_law_counted) (sc := defScope s_law_counted) (by decide +kernel)) (fun _ _ _ _ _ => (pg_name (i := 6) sc_law_counted.nd rfl (.inl rfl))) (fun _ _ _ _ _ => (pts_one (pt_cmpR op_eq (pe_call G_law_generated hr (by rfl) M_law_generated k_law_generated B_law_generated .nil pass0 (pa_cons (pv 0) (pa_cons (pv 6) pa_nil))) (pe_callB (call_lenK (K := K) rfl) (by rfl) Z_len PySem.boot_len (pa_cons (pv 3) pa_nil)) (nomark _)))) (fun _ _ _ _ _ => pe_int)) pa_nil)))))), ?_⟩
  show Wp K _ [_, _, _, _, _, _, _, _] _
  let every := elemsF orders
  refine wp_seq (wp_asg (ev_tup (ds := [.lst [rI []], .lst (every.map tI)]) (ea_cons (ev_frz (ev_lst (ds := [rI []]) (ea_cons (ev_tup (ds := []) ea_nil (sz (n := 0) (by decide))) ea_nil) (sz (n := 1) (by decide)))) (ea_cons (ev_call (R := R_elem) (ds := [.lst (orders.map nI)]) (ea_cons (ev_var rfl) ea_nil) ?_) ea_nil)) (sz (n := 2) (by decide))) (eg_tup (egs_cons (eg_name (ltn (n := 8) (by decide) rfl)) (egs_cons (eg_name (ltn (n := 8) (by decide) rfl)) egs_nil)) rfl) ?_)
  · exact ⟨orders, rfl, hol, fun o h => (ho o h).2, rfl⟩
  refine wp_seq (wp_for (ds := rangeD 0 ((many : Int)).toNat) (fun i ρ => ∃ z1 z2 z3, ρ = [.val (.lst (orders.map nI)), .val (nI many), .val (.lst ((rowsF every i).map rI)), .val (.lst (every.map tI)), z1, z2, z3, .no]) (ei_range1 (ea_cons (ev_var rfl) ea_nil) ?_) ⟨_, _, _, rfl⟩ ?_ ?_)
  · omega
  · rintro i d ρ hd ⟨z1, z2, z3, rfl⟩
    have hi : i < many := by
      have := (List.getElem?_eq_some_iff.mp hd).1
      unfold rangeD at this
      simpa using this
    refine ⟨_, ⟨_, eg_name (ltn (n := 8) (by decide) rfl)⟩, ?_⟩
    let rows := rowsF every i
    have hrl : rows.length * every.length ≤ 1000 := by
      show (rowsF every i).length * _ ≤ _
      rw [rows_len, ← Nat.pow_succ]
      exact hsz (i + 1) hi
    have hel : every.length ≤ 1000 := by
      have := hsz 1 (by omega)
      rwa [Nat.pow_one] at this
    refine wp_seq (wp_set (ev_lst (ds := []) ea_nil (sz (n := 0) (by decide))) (ltn (n := 8) (by decide) rfl) ?_)
    refine wp_seq (wp_for (fun j ρ => ∃ z1 z3, ρ = [.val (.lst (orders.map nI)), .val (nI many), .val (.lst (rows.map rI)), .val (.lst (every.map tI)), z1, .own (((rows.take j).flatMap fun row => every.map fun one => row ++ [one]).map rI), z3, .no]) (ei_list (ev_var rfl)) ⟨_, _, rfl⟩ ?_ ?_)
    · rintro j d' ρ hd' ⟨z1, z3, rfl⟩
      rw [List.getElem?_map] at hd'
      obtain ⟨row, hj, rfl⟩ := Option.map_eq_some_iff.mp hd'
      have hjl : j < rows.length := (List.getElem?_eq_some_iff.mp hj).1
      have hrow : row.length = i := rows_mem every i row (List.mem_of_getElem? hj)
      refine ⟨_, ⟨_, eg_name (ltn (n := 8) (by decide) rfl)⟩, ?_⟩
      refine wp_ext rfl (ev_lcP [7] every [] tI (fun _ => true) (fun one => rI (row ++ [one])) (ei_list (ev_var rfl)) ?_ ?_ ?_ ?_) rfl ?_ ?_
      · omega
      · intro v hv; rw [List.mem_singleton.mp hv]; rfl
      · exact fun j hj => hj
      · intro one h1
        refine ⟨_, _, _, eg_name (ltn (n := 8) (by decide) rfl), et_yes, fun _ => ⟨ev_is (ev_catA (ev_var rfl) (ev_tup (ds := [tI one]) (ea_cons (ev_var rfl) ea_nil) (sz (n := 1) (by decide))) ?_) ?_, rfl⟩, fun z => (by cases z)⟩
        · rw [List.length_map]
          exact sz (by show row.length + 1 ≤ 1000; omega)
        · show Lw.Slot.val (.tup (row.map tI ++ [tI one])) = _
          rw [← List.map_singleton, ← List.map_append]
      · rw [List.filter_eq_self.mpr (fun _ _ => rfl), List.length_map, List.length_map, flat_len (c := every.length) _ (fun x _ => by rw [List.length_map]), List.length_take]
        have : min j rows.length * every.length + every.length ≤ 1000 := by
          have e : min j rows.length = j := by omega
          rw [e, ← Nat.succ_mul]
          exact Nat.le_trans (Nat.mul_le_mul_right _ hjl) hrl
        exact Nat.le_of_lt (sline (by omega))
      · refine ⟨z1, .val (rI row), ?_⟩
        rw [flat_take hj, List.filter_eq_self.mpr (fun _ _ => rfl), List.map_append, List.map_map (f := fun one => row ++ [one])]
        rfl
    · rintro ρ ⟨z1, z3, rfl⟩
      rw [List.length_map, List.take_length]
      refine wp_set (ev_varF rfl) (ltn (n := 8) (by decide) rfl) ?_
      refine ⟨z1, .val (.lst ((widenR every rows).map rI)), z3, ?_⟩
      rw [rows_succ]
      rfl
  · rintro ρ ⟨z1, z2, z3, rfl⟩
    have e : (rangeD 0 ((many : Int)).toNat).length = many := by unfold rangeD; simp
    rw [e]
    refine wp_forget 6 ?_
    let rows := rowsF every many
    have hrl : rows.length ≤ 1000 := by show (rowsF every many).length ≤ _; rw [rows_len]; exact hsz many (Nat.le_refl _)
    refine wp_ret (s := .val (nI (countF orders many))) (ev_is (ev_lenN (ev_lcP [6] rows [] rI (fun row => genN orders row == every.length) (fun _ => D.int 1) (ei_list (ev_var rfl)) ?_ ?_ ?_ ?_)) ?_) ?_
    · omega
    · intro v hv; rw [List.mem_singleton.mp hv]; rfl
    · exact fun j hj => hj
    · intro row hrow
      have h1 := hall row hrow
      have h2 := rows_mem every many row hrow
      refine ⟨_, _, _, eg_name (ltn (n := 8) (by decide) rfl), et_is (et_test (ev_eqI (ev_call (R := R_gen) (ds := [.lst (orders.map nI), rI row]) (r := nI (genN orders row)) (ea_cons (ev_var rfl) (ea_cons (ev_var rfl) ea_nil)) ?_) (ev_lenL (ev_var rfl)))) ?_, fun _ => ⟨ev_int, rfl⟩, fun _ => rfl⟩
      · refine ⟨orders, row, genN orders row, rfl, ho, hol, by omega, ?_, rfl⟩
        unfold genN
        cases hb : bfs 64 orders row [zerosF orders] 0 with
        | none => rw [hb] at h1; cases h1
        | some n => rfl
      · rw [List.length_map, Bool.eq_iff_iff]
        simp
        omega
    · rw [List.length_map]
      rfl
    · rfl
/-! ### cyclic groups by divisors -/
def Dv (n : Nat) : List Nat := (List.range (n + 1)).filter fun d => d != 0 && n % d == 0
def lessF (D found : List Int) (d : Int) : Int := (((List.range found.length).filter fun i => decide (d % D.getD i 0 = 0)).map fun i => found.getD i 0).sum
def cycStep (k : Nat) (D : List Int) (found : List Int) (d : Nat) : List Int := found ++ [((d ^ k : Nat) : Int) - lessF D found (d : Int)]
def cycAll (n k : Nat) : List Int := (Dv n).foldl (cycStep k ((Dv n).map fun (d : Nat) => (d : Int))) []
def cycN (n k : Nat) : Int := (cycAll n k).getLastD 0
def smallN (n : Nat) : List Nat := ((List.range 100).map (· + 1)).filter fun d => n % d == 0
def R_cyc : List D → D → Prop := fun ds r => ∃ n k : Nat, ds = [nI n, nI k] ∧ 2 ≤ n ∧ n ≤ 10000 ∧ k ≤ 6 ∧ r = .int (cycN n k)
theorem mem_small {n d : Nat} : d ∈ smallN n ↔ 1 ≤ d ∧ d ≤ 100 ∧ n % d = 0 := by
  unfold smallN
  rw [List.mem_filter, List.mem_map]
  constructor
  · rintro ⟨⟨i, hi, rfl⟩, h⟩
    rw [List.mem_range] at hi
    exact ⟨by omega, by omega, by simpa using h⟩
  · rintro ⟨h1, h2, h3⟩
    exact ⟨⟨d - 1, by rw [List.mem_range]; omega, by omega⟩, by simpa using h3⟩
theorem mem_Dv {n d : Nat} (hn : 1 ≤ n) : d ∈ Dv n ↔ 1 ≤ d ∧ n % d = 0 := by
  unfold Dv
  rw [List.mem_filter, List.mem_range]
  constructor
  · rintro ⟨h1, h2⟩
    rw [Bool.and_eq_true] at h2
    exact ⟨by have : d ≠ 0 := by simpa using h2.1
              omega, by simpa using h2.2⟩
  · rintro ⟨h1, h2⟩
    have h3 := Nat.le_of_dvd hn (Nat.dvd_of_mod_eq_zero h2)
    exact ⟨by omega, by rw [Bool.and_eq_true]; exact ⟨by simp; omega, by simpa using h2⟩⟩
theorem Dv_sorted (n : Nat) : (Dv n).Pairwise (· < ·) := List.Pairwise.filter _ List.pairwise_lt_range
theorem small_all {n k : Nat} (h2 : 2 ≤ n) (h : n ≤ 10000) : k ∈ Dv n ↔ k ∈ smallN n ++ (smallN n).map (n / ·) := by
  rw [mem_Dv (by omega), List.mem_append, List.mem_map]
  constructor
  · rintro ⟨a, b⟩
    by_cases hk : k ≤ 100
    · exact .inl (mem_small.mpr ⟨a, hk, b⟩)
    · right
      obtain ⟨c, hc⟩ := Nat.dvd_of_mod_eq_zero b
      have hc0 : 1 ≤ c := by
        rcases Nat.eq_zero_or_pos c with z | z
        · rw [z, Nat.mul_zero] at hc; omega
        · exact z
      have hc1 : c ≤ 100 := by
        rcases Nat.lt_or_ge 100 c with z | z
        · have : 101 * 101 ≤ k * c := Nat.mul_le_mul (by omega) z
          omega
        · exact z
      refine ⟨c, mem_small.mpr ⟨hc0, hc1, by rw [hc]; exact Nat.mul_mod_left _ _⟩, ?_⟩
      rw [hc]
      exact Nat.mul_div_cancel _ hc0
  · rintro (a | ⟨c, hc, rfl⟩)
    · have := mem_small.mp a
      exact ⟨this.1, this.2.2⟩
    · obtain ⟨a, b, e⟩ := mem_small.mp hc
      obtain ⟨m, hm⟩ := Nat.dvd_of_mod_eq_zero e
      have e2 : n / c = m := by rw [hm]; exact Nat.mul_div_cancel_left _ a
      rw [e2]
      refine ⟨?_, by rw [hm]; exact Nat.mul_mod_left _ _⟩
      rcases Nat.eq_zero_or_pos m with z | z
      · rw [z, Nat.mul_zero] at hm; omega
      · exact z
abbrev s_law_cyclic : Stmt := topS 11
abbrev N_law_cyclic : List Str := ["_law_order", "_law_many", "_law_some", "_law_found", "_law_d", "_law_less", "_law_k", "_law_number"]
theorem sc_law_cyclic : FnScope ["_law_order", "_law_many", "_law_some", "_law_found", "_law_d", "_law_less", "_law_k", "_law_number"] ["_law_order", "_law_many"] (defScope s_law_cyclic) := ⟨rfl, rfl, rfl, by decide +kernel, rfl, by decide +kernel, by decide +kernel⟩
theorem ok_cyclic {k : Nat} (F : Fun K "_law_cyclic" "_law_cyclic" s_law_cyclic f fd) (Z_len : mg "len" = none) (Z_range : mg "range" = none) (Z_int : mg "int" = none) (Z_sorted : mg "sorted" = none) (Z_set : mg "set" = none) (Z_sum : mg "sum" = none) (Z_enumerate : mg "enumerate" = none)
    {a1 : Addr} {f1 : FuncData} (G_law_power : FnOk P w K mg base CX0 k a1 f1 ["_law_number", "_law_many"] (spP K R_power)) (M_law_power : mg "_law_power" = some (.ref a1)) (k_law_power : PySem.W.keepIn K (.ref a1) = true) (B_law_power : Binds K f1 ["_law_number", "_law_many"] []) :
    FnOk P w K mg base CX0 (k + 1) f fd ["_law_order", "_law_many"] (spP K R_cyc) := by
  refine fn_pure F sc_law_cyclic (fun ds r h => by obtain ⟨a, b, rfl, _⟩ := h; rfl) fun cdv A outer s H E ds r hr h => ?_
  obtain ⟨n, m, rfl, h2, h3, hm, rfl⟩ := h
  refine ⟨_, (pss_cons
    (ps_set (i := 2) sc_law_cyclic.nd rfl (.inr rfl) (pe_lc (own := [("_law_d", 4)]) rfl sc_law_cyclic.nd (pi_range2 (by rfl) Z_range (pa_cons pe_int (pa_cons pe_int pa_nil))) (blkOk_by (N := N_law_cyclic) (sc := defScope s_law_cyclic) (by decide +kernel)) (fun _ _ _ _ _ => (pg_name (i := 4) sc_law_cyclic.nd rfl (.inl rfl))) (fun _ _ _ _ _ => (pts_one (pt_cmpR op_eq (pe_op op_mod (pe_callTy call_int1 (by rfl) Z_int (by decide +kernel) (pa_cons (pv 0) pa_nil)) (pv 4)) pe_int (nomark _)))) (fun _ _ _ _ _ => (pv 4))))
    (pss_cons
    (ps_set (i := 2) sc_law_cyclic.nd rfl (.inr rfl) (pe_callB (cr_sortSet rfl) (by rfl) Z_sorted (by decide +kernel) (pa_cons (pe_callTy (cr_setOfK (K := K) rfl rfl) (by rfl) Z_set (by decide +kernel) (pa_cons (pe_op op_cat (pv 2) (pe_lc (own := [("_law_d", 4)]) rfl sc_law_cyclic.nd (pi_listK (K := K) rfl (pv 2)) (blkOk_by (N := N_law_cyclic) (sc := defScope s_law_cyclic) (by decide +kernel)) (fun _ _ _ _ _ => (pg_name (i := 4) sc_law_cyclic.nd rfl (.inl rfl))) (fun _ _ _ _ _ => pts_nil) (fun _ _ _ _ _ => (pe_op op_fdiv (pv 0) (pv 4))))) pa_nil)) pa_nil)))
    (pss_cons
    (ps_set (i := 3) sc_law_cyclic.nd rfl (.inl rfl) (pe_lst pa_nil))
    (pss_cons
    (ps_for PassesOwn.never rfl (pi_listK (K := K) rfl (pv 2)) (pg_name (i := 4) sc_law_cyclic.nd rfl (.inr rfl)) (pss_cons
      (ps_set (i := 5) sc_law_cyclic.nd rfl (.inl rfl) (pe_callB (cr_sumK (K := K) rfl rfl) (by rfl) Z_sum (by decide +kernel) (pa_cons (pe_lc (own := [("_law_k", 6), ("_law_number", 7)]) rfl sc_law_cyclic.nd (pi_enum (by rfl) Z_enumerate (pa_cons (pv 3) pa_nil)) (blkOk_by (N := N_law_cyclic) (sc := defScope s_law_cyclic) (by decide +kernel)) (fun _ _ _ _ _ => (pg_tupK (K := K) (n := 2) rfl rfl (pgs_cons (pg_name (i := 6) sc_law_cyclic.nd rfl (.inl rfl)) (pgs_cons (pg_name (i := 7) sc_law_cyclic.nd rfl (.inl rfl)) pgs_nil)))) (fun _ _ _ _ _ => (pts_one (pt_cmpR op_eq (pe_op op_mod (pe_callTy call_int1 (by rfl) Z_int (by decide +kernel) (pa_cons (pv 4) pa_nil)) (pe_ix (ix_listK (K := K) rfl) (pv 2) (pv 6) (fun _ _ => rfl))) pe_int (nomark _)))) (fun _ _ _ _ _ => (pv 7))) pa_nil)))
      (pss_one
      (ps_expr (pe_bm PySem.F.plainAttrs_list PySem.F.slot_list_append PySem.F.type_list_append mt_append (pv 3) (pa_cons (pe_op op_sub (pe_call G_law_power hr (by rfl) M_law_power k_law_power B_law_power .nil pass0 (pa_cons (pv 4) (pa_cons (pv 1) pa_nil))) (pv 5)) pa_nil))))))
    (pss_one
    (ps_ret (pe_ix (ix_listK (K := K) rfl) (pv 3) (pe_op op_sub (pe_callB (call_lenK (K := K) rfl) (by rfl) Z_len PySem.boot_len (pa_cons (pv 3) pa_nil)) pe_int) (fun _ _ => rfl)))))))), ?_⟩
  show Wp K _ [_, _, _, _, _, _, _, _] _
  let sm := smallN n
  have hsml : sm.length ≤ 100 := Nat.le_trans (List.length_filter_le _ _) (by rw [List.length_map, List.length_range]; exact Nat.le_refl _)
  have erng : rangeD 1 ((101 : Int) - 1).toNat = ((List.range 100).map (· + 1)).map nI := by
    unfold rangeD
    rw [List.map_map]
    apply List.map_congr_left
    intro i _
    show D.int (1 + (i : Int)) = D.int ((i + 1 : Nat) : Int)
    rw [Int.natCast_add, Int.add_comm]
    rfl
  refine wp_seq (wp_set (s := .own (sm.map nI)) (ev_lcP [4] ((List.range 100).map (· + 1)) 0 nI (fun d => n % d == 0) nI (erng ▸ ei_range2 (m := 1) (n := 101) (ea_cons ev_int (ea_cons ev_int ea_nil)) (by omega)) ?_ ?_ ?_ ?_) (ltn (n := 8) (by decide) rfl) ?_)
  · rw [List.length_map, List.length_range]; decide
  · intro v hv; rw [List.mem_singleton.mp hv]; rfl
  · exact fun j hj => hj
  · intro d hd
    obtain ⟨i, _, rfl⟩ := List.mem_map.mp hd
    refine ⟨_, _, _, eg_name (ltn (n := 8) (by decide) rfl), et_is (et_test (ev_eqI (ev_opC (f := fun i j => i % j) (ev_int1 (ev_var rfl)) (ev_var rfl) ?_) ev_int)) ?_, fun _ => ⟨ev_var rfl, rfl⟩, fun _ => rfl⟩
    · show (0 : Int) < ((i + 1 : Nat) : Int); omega
    · show decide ((n : Int) % ((i + 1 : Nat) : Int) = 0) = (n % (i + 1) == 0)
      rw [← Int.natCast_emod, Bool.eq_iff_iff]
      simp only [decide_eq_true_eq, beq_iff_eq]
      omega
  let dv := Dv n
  let dvI := dv.map fun (d : Nat) => (d : Int)
  have edv : dvI.map D.int = dv.map nI := by rw [List.map_map]; rfl
  have hdvl : dv.length ≤ 10001 := Nat.le_trans (List.length_filter_le _ _) (by rw [List.length_range]; omega)
  refine wp_seq (wp_set (s := .own (dvI.map D.int)) (ev_sortset (ns := (sm ++ sm.map (n / ·)).map fun (d : Nat) => (d : Int)) (ev_is (ev_frz (ev_cat (ev_varF rfl) (ev_frz (ev_lcP [4] sm 0 nI (fun _ => true) (fun d => nI (n / d)) (ei_list (ev_var rfl)) ?_ ?_ ?_ ?_)) ?_)) ?_) ?_ ?_ ?_) (ltn (n := 8) (by decide) rfl) ?_)
  · omega
  · intro v hv; rw [List.mem_singleton.mp hv]; rfl
  · exact fun j hj => hj
  · intro d hd
    have := (mem_small.mp hd).1
    have h4 := (mem_small.mp hd).2.1
    refine ⟨_, _, _, eg_name (ltn (n := 8) (by decide) rfl), et_yes, fun _ => ⟨ev_is (ev_opC (f := fun i j => i / j) (ev_var rfl) (ev_var rfl) ?_) ?_, rfl⟩, fun z => (by cases z)⟩
    · show (0 : Int) < (d : Int) ∧ (d : Int) < 1073741824; omega
    · show Lw.Slot.val (.int ((n : Int) / (d : Int))) = _
      rw [← Int.natCast_ediv]
  · rw [List.filter_eq_self.mpr (fun _ _ => rfl), List.length_map, List.length_map]
    exact sz (by omega)
  · show Lw.Slot.val (.lst _) = Lw.Slot.val (.lst _)
    rw [List.filter_eq_self.mpr (fun _ _ => rfl), List.map_append, List.map_append, List.map_map, List.map_map, List.map_map]
    rfl
  · rw [List.length_map, List.length_append, List.length_map]; omega
  · exact List.pairwise_map.mpr ((Dv_sorted n).imp fun h => by omega)
  · intro k
    constructor
    · intro hk
      obtain ⟨d, hd, rfl⟩ := List.mem_map.mp hk
      exact List.mem_map.mpr ⟨d, (small_all h2 h3).mp hd, rfl⟩
    · intro hk
      obtain ⟨d, hd, rfl⟩ := List.mem_map.mp hk
      exact List.mem_map.mpr ⟨d, (small_all h2 h3).mpr hd, rfl⟩
  refine wp_seq (wp_set (ev_lst (ds := []) ea_nil (sz (n := 0) (by decide))) (ltn (n := 8) (by decide) rfl) ?_)
  let st := cycStep m dvI
  refine wp_seq (wp_for (ds := dvI.map D.int) (fun i ρ => ∃ z1 z2, ρ = [.val (nI n), .val (nI m), .val (.lst (dvI.map D.int)), .own (((dv.take i).foldl st []).map D.int), z1, z2, .no, .no]) (ei_list (ev_varF rfl)) ⟨_, _, rfl⟩ ?_ ?_)
  · rintro i d ρ hd ⟨z1, z2, rfl⟩
    rw [edv, List.getElem?_map] at hd
    obtain ⟨e, he, rfl⟩ := Option.map_eq_some_iff.mp hd
    obtain ⟨he1, he2⟩ := (mem_Dv (by omega)).mp (List.mem_of_getElem? he)
    have he3 : e ≤ n := Nat.le_of_dvd (by omega) (Nat.dvd_of_mod_eq_zero he2)
    have hi : i < dv.length := (List.getElem?_eq_some_iff.mp he).1
    let fnd := (dv.take i).foldl st []
    have flen : ∀ (l : List Nat) (a : List Int), (l.foldl st a).length = a.length + l.length := by
      intro l
      induction l with
      | nil => intro a; rfl
      | cons x l ih =>
        intro a
        show (l.foldl st (st a x)).length = _
        rw [ih]
        show (a ++ [_]).length + l.length = _
        rw [List.length_append, List.length_singleton, List.length_cons]
        omega
    have hfl : fnd.length = i := by
      show ((dv.take i).foldl st []).length = i
      rw [flen, List.length_take, List.length_nil]
      omega
    refine ⟨_, ⟨_, eg_name (ltn (n := 8) (by decide) rfl)⟩, ?_⟩
    refine wp_seq (wp_set (s := .val (.int (lessF dvI fnd (e : Int)))) (ev_sum (ns := ((List.range fnd.length).filter fun i => decide ((e : Int) % dvI.getD i 0 = 0)).map fun i => fnd.getD i 0) (ev_is (ev_frz (ev_lcPG (G := fun σ σ2 ρ2 => σ2[3]? = σ[3]? ∧ ρ2[3]? = some (Slot.own (fnd.map D.int))) [6, 7] fnd 0 (fun i x => .tup [nI i, .int x]) (fun i _ => decide ((e : Int) % dvI.getD i 0 = 0)) (fun _ x => .int x) ?ei ?_ ?_ ?_ ?_ ?_)) ?_)) (ltn (n := 8) (by decide) rfl) ?_)
    case ei =>
      have h := ei_enumO (K := K) (ρ := [.val (nI n), .val (nI m), .val (.lst (dvI.map D.int)), .own (fnd.map D.int), .val (nI e), z2, .no, .no]) (k := 3) (ds := fnd.map D.int) rfl
      have e5 : enumD (fnd.map D.int) = (List.range fnd.length).map fun i => .tup [nI i, .int (fnd.getD i 0)] := by
        apply List.ext_getElem?
        intro j
        by_cases hj : j < fnd.length
        · unfold enumD
          rw [List.getElem?_zipWith, List.getElem?_map, List.getElem?_map, List.length_map, List.getElem?_eq_getElem (by rw [List.length_range]; exact hj), List.getElem_range, List.getElem?_eq_getElem hj]
          show some (D.tup [_, _]) = some (D.tup [_, _])
          rw [List.getD_eq_getElem?_getD, List.getElem?_eq_getElem hj]
          rfl
        · rw [List.getElem?_eq_none (by rw [enum_len, List.length_map]; omega), List.getElem?_eq_none (by rw [List.length_map, List.length_range]; omega)]
      rw [e5] at h
      exact h
    · intro σ
      refine ⟨?_, rfl⟩
      rw [wipe_get, if_neg]
      rintro ⟨z, _⟩
      exact absurd z (by decide)
    · rw [hfl]; omega
    · intro v hv
      have : v = 6 ∨ v = 7 := by simpa using hv
      rcases this with rfl | rfl <;> rfl
    · exact fun j hj => hj
    · intro j x hj
      have hjl : j < i := by rw [← hfl]; exact (List.getElem?_eq_some_iff.mp hj).1
      have hjd : j < dv.length := by omega
      have hpos : 1 ≤ dv[j] := ((mem_Dv (by omega)).mp (List.getElem_mem hjd)).1
      have hg : dvI.getD j 0 = (dv[j] : Int) := by
        show ((dv.map fun (d : Nat) => (d : Int))).getD j 0 = _
        rw [List.getD_eq_getElem?_getD, List.getElem?_map, List.getElem?_eq_getElem hjd]
        rfl
      refine ⟨_, _, _, eg_tup (egs_cons (eg_name (ltn (n := 8) (by decide) rfl)) (egs_cons (eg_name (ltn (n := 8) (by decide) rfl)) egs_nil)) rfl, et_test (ev_eqI (ev_opC (f := fun i j => i % j) (ev_int1 (ev_var rfl)) (ev_ixL (ev_var rfl) (ev_var rfl) ?_) ?_) ev_int), fun _ => ⟨ev_var rfl, rfl⟩, fun _ => rfl⟩
      · rw [hg]
        refine atI_nat ?_
        rw [edv, List.getElem?_map, List.getElem?_eq_getElem hjd]
        rfl
      · show (0 : Int) < dvI.getD j 0
        rw [hg]; omega
    · show Lw.Slot.val (.lst _) = Lw.Slot.val (.lst _)
      unfold kept
      rw [List.map_map]
      rfl
    refine wp_app rfl (ev_op0 (f := fun i j => i - j) (ev_call (R := R_power) (ds := [nI e, nI m]) (r := nI (e ^ m)) (ea_cons (ev_var rfl) (ea_cons (ev_var rfl) ea_nil)) ?_) (ev_var rfl)) rfl ?_ ?_
    · exact ⟨e, m, rfl, by omega, hm, rfl⟩
    · rw [List.length_map]
      exact sline (by show fnd.length ≤ 100000; omega)
    · refine ⟨.val (nI e), .val (.int (lessF dvI fnd (e : Int))), ?_⟩
      rw [List.take_add_one, he, Option.toList_some, List.foldl_append]
      show _ = [_, _, _, Lw.Slot.own ((fnd ++ [_]).map D.int), _, _, _, _]
      rw [List.map_append]
      rfl
  · rintro ρ ⟨z1, z2, rfl⟩
    rw [edv, List.length_map, List.take_length]
    have flen : ∀ (l : List Nat) (a : List Int), (l.foldl st a).length = a.length + l.length := by
      intro l
      induction l with
      | nil => intro a; rfl
      | cons x l ih =>
        intro a
        show (l.foldl st (st a x)).length = _
        rw [ih]
        show (a ++ [_]).length + l.length = _
        rw [List.length_append, List.length_singleton, List.length_cons]
        omega
    let res := dv.foldl st []
    have hne : res ≠ [] := by
      intro e
      have h1 : res.length = 0 + dv.length := flen dv []
      rw [e] at h1
      have h4 : 1 ∈ dv := (mem_Dv (by omega)).mpr ⟨Nat.le_refl _, Nat.mod_one n⟩
      have := List.length_pos_of_mem h4
      rw [List.length_nil] at h1
      omega
    obtain ⟨l, x, hl⟩ : ∃ l x, res = l ++ [x] := ⟨res.dropLast, res.getLast hne, (List.dropLast_concat_getLast hne).symm⟩
    refine wp_ret (s := .val (.int (cycN n m))) (ev_ixO rfl (ev_op0 (f := fun i j => i - j) (ev_lenO rfl) ev_int) rfl ?_) rfl
    show atI (res.map D.int) (((res.map D.int).length : Int) - 1) = some (D.int (res.getLastD 0))
    rw [hl, List.getLastD_concat, List.length_map, List.length_append, List.length_singleton]
    have e6 : ((l.length + 1 : Nat) : Int) - 1 = (l.length : Int) := by omega
    rw [e6]
    refine atI_nat ?_
    rw [List.map_append, List.getElem?_append_right (by rw [List.length_map]; exact Nat.le_refl _), List.length_map, Nat.sub_self]
    rfl
end
end K55

namespace K55
open PySem PySem.Spec PyProof.Rows L2 Lw
/-! ### the law -/
def stepO (x : List Nat × Nat) (v : Nat) : List Nat × Nat := if 1 < x.2 * v ∧ x.2 * v * (x.2 * v) ^ x.1.length < 40 then (x.1 ++ [x.2 * v], x.2 * v) else (x.1, x.2 * v)
def reach : Nat → List (List Nat × Nat)
  | 0 => [([], 1)]
  | i + 1 => (reach i).flatMap fun x => [1, 2, 3, 4, 5].map (stepO x)
def goods : List (List Nat) := [[], [2], [2, 2], [2, 2, 2], [2, 4], [2, 6], [3], [3, 3], [3, 3, 3], [3, 6], [4], [4, 4], [5], [5, 5]]
def fine (x : List Nat × Nat) : Bool := goods.contains x.1 && decide (x.1.length ≤ 3) && x.1.all (fun o => decide (1 ≤ o) && decide (o ≤ 40)) && decide (prodN x.1 ≤ 250) && decide (x.2 ≤ 125)
theorem reach_all : ((reach 0 ++ reach 1 ++ reach 2 ++ reach 3).all fine) = true := by decide +kernel
theorem reach_fine {i : Nat} (hi : i ≤ 3) {o : List Nat} {l : Nat} (h : (o, l) ∈ reach i) : o ∈ goods ∧ o.length ≤ 3 ∧ (∀ a ∈ o, 1 ≤ a ∧ a ≤ 40) ∧ prodN o ≤ 250 ∧ l ≤ 125 := by
  have hm : (o, l) ∈ reach 0 ++ reach 1 ++ reach 2 ++ reach 3 := by
    simp only [List.mem_append]
    have : i = 0 ∨ i = 1 ∨ i = 2 ∨ i = 3 := by omega
    rcases this with rfl | rfl | rfl | rfl <;> simp [h]
  have := List.all_eq_true.mp reach_all _ hm
  unfold fine at this
  simp only [Bool.and_eq_true, decide_eq_true_eq, List.all_eq_true, List.contains_iff_mem] at this
  obtain ⟨⟨⟨⟨h1, h2⟩, h3⟩, h4⟩, h5⟩ := this
  exact ⟨h1, h2, h3, h4, h5⟩
theorem reach_step {i : Nat} {x : List Nat × Nat} (h : x ∈ reach i) {v : Nat} (h1 : 1 ≤ v) (h2 : v ≤ 5) : stepO x v ∈ reach (i + 1) := by
  refine List.mem_flatMap.mpr ⟨x, h, List.mem_map.mpr ⟨v, ?_, rfl⟩⟩
  have : v = 1 ∨ v = 2 ∨ v = 3 ∨ v = 4 ∨ v = 5 := by omega
  rcases this with rfl | rfl | rfl | rfl | rfl <;> simp
def R_law : List D → D → Prop := fun ds r => ∃ ns : List Int, ds = [.scr ns] ∧ ns.length ≤ 100000 ∧ r = .bl true
def Low1 : Prop := ∀ o ∈ goods, ∀ m, m ≤ 3 → prodN o ^ m ≤ 250 → (∀ i, i ≤ m → (elemsF o).length ^ i ≤ 1000) ∧ (∀ row ∈ rowsF (elemsF o) m, (bfs 64 o row [zerosF o] 0).isSome = true) ∧ cg o m = countF o m
def Low2 : Prop := ∀ o ∈ goods, o ≠ [] → cg o (o.length - 1) = 0
def Low3 : Prop := ∀ n k : Nat, 2 ≤ n → n ≤ 10000 → k ≤ 6 → ((cg [n] k : Nat) : Int) = cycN n k
def six (ρ : Lw.Env) : Nat := match ρ[6]? with
  | some (Lw.Slot.val (.int i)) => i.toNat
  | _ => 0
section
variable {P : Program} {w : World} {K : PySem.W.Frag} {mg : Str → Option Value} {base : Heap} {f : Addr} {fd : FuncData}
theorem range_len (n : Nat) (d : Int) : (rangeD d n).length = n := by unfold rangeD; simp
abbrev s_law : Stmt := topS 12
abbrev N_law : List Str := ["_law_script", "_law_base", "_law_deal_here", "_law_orders", "_law_last", "_law_turn", "_law_many", "_law_size", "_law_order"]
theorem sc_law : FnScope ["_law_script", "_law_base", "_law_deal_here", "_law_orders", "_law_last", "_law_turn", "_law_many", "_law_size", "_law_order"] ["_law_script"] (defScope s_law) := ⟨rfl, rfl, rfl, by decide +kernel, rfl, by decide +kernel, by decide +kernel⟩
theorem ok_law {k : Nat} (F : Fun K "law" "law" s_law f fd) (Z_len : mg "len" = none) (Z_range : mg "range" = none) (Z_tuple : mg "tuple" = none) (W1 : Low1) (W2 : Low2) (W3 : Low3)
    {a1 a2 a3 a4 a5 a6 : Addr} {f1 f2 f3 f4 f5 f6 : FuncData}
    (G_law_deal : FnOk P w K mg base CX0 k a1 f1 ["_law_script", "_law_base"] (spM K R_deal)) (M_law_deal : mg "_law_deal" = some (.ref a1)) (k_law_deal : PySem.W.keepIn K (.ref a1) = true) (B_law_deal : Binds K f1 ["_law_script", "_law_base"] [])
    (G_law_draw : FnOk P w K mg base CX0 k a2 f2 ["_law_deal_here", "_law_many"] (spD K R_draw)) (M_law_draw : mg "_law_draw" = some (.ref a2)) (k_law_draw : PySem.W.keepIn K (.ref a2) = true) (B_law_draw : Binds K f2 ["_law_deal_here", "_law_many"] [])
    (G_law_power : FnOk P w K mg base CX0 k a3 f3 ["_law_number", "_law_many"] (spP K R_power)) (M_law_power : mg "_law_power" = some (.ref a3)) (k_law_power : PySem.W.keepIn K (.ref a3) = true) (B_law_power : Binds K f3 ["_law_number", "_law_many"] [])
    (G_count_generating : FnOk P w K mg base CX0 k a4 f4 ["divisors", "many"] (spP K R_cg)) (M_count_generating : mg "count_generating" = some (.ref a4)) (k_count_generating : PySem.W.keepIn K (.ref a4) = true) (B_count_generating : Binds K f4 ["divisors", "many"] [])
    (G_law_counted : FnOk P w K mg base CX0 k a5 f5 ["_law_orders", "_law_many"] (spP K R_counted)) (M_law_counted : mg "_law_counted" = some (.ref a5)) (k_law_counted : PySem.W.keepIn K (.ref a5) = true) (B_law_counted : Binds K f5 ["_law_orders", "_law_many"] [])
    (G_law_cyclic : FnOk P w K mg base CX0 k a6 f6 ["_law_order", "_law_many"] (spP K R_cyc)) (M_law_cyclic : mg "_law_cyclic" = some (.ref a6)) (k_law_cyclic : PySem.W.keepIn K (.ref a6) = true) (B_law_cyclic : Binds K f6 ["_law_order", "_law_many"] []) :
    FnOk P w K mg base CX0 (k + 1) f fd ["_law_script"] (spP K R_law) := by
  refine fn_pure F sc_law (fun ds r h => by obtain ⟨a, rfl, _⟩ := h; rfl) fun cdv A outer s H E ds r hr h => ?_
  obtain ⟨ns, rfl, hns, rfl⟩ := h
  refine ⟨_, (pss_cons
    (ps_for PassesOwn.never rfl (pi_range1 (by rfl) Z_range (pa_cons pe_int pa_nil)) (pg_name (i := 1) sc_law.nd rfl (.inl rfl)) (pss_cons
      (ps_set (i := 2) sc_law.nd rfl (.inl rfl) (pe_call G_law_deal hr (by rfl) M_law_deal k_law_deal B_law_deal .nil pass0 (pa_cons (pv 0) (pa_cons (pv 1) pa_nil))))
      (pss_cons
      (ps_par (i := 3) (j := 4) (by rfl) sc_law.nd rfl rfl (by decide) rfl rfl (pa_cons (pe_lst pa_nil) (pa_cons pe_int pa_nil)) (by rfl))
      (pss_cons
      (ps_for PassesOwn.never rfl (pi_range1 (by rfl) Z_range (pa_cons (pe_call G_law_draw hr (by rfl) M_law_draw k_law_draw B_law_draw .nil pass0 (pa_cons (pv 2) (pa_cons pe_int pa_nil))) pa_nil)) (pg_name (i := 5) sc_law.nd rfl (.inl rfl)) (pss_cons
        (ps_set (i := 4) sc_law.nd rfl (.inl rfl) (pe_op op_mulW (pv 4) (pe_ix (ix_listK (K := K) rfl) (pe_lst (pa_cons pe_int (pa_cons pe_int (pa_cons pe_int (pa_cons pe_int (pa_cons (pe_op op_add pe_int (pe_call G_law_draw hr (by rfl) M_law_draw k_law_draw B_law_draw .nil pass0 (pa_cons (pv 2) (pa_cons pe_int pa_nil)))) pa_nil)))))) (pe_call G_law_draw hr (by rfl) M_law_draw k_law_draw B_law_draw .nil pass0 (pa_cons (pv 2) (pa_cons pe_int pa_nil))) (fun _ _ => rfl))))
        (pss_one
        (ps_if (PW.pt (pw_and (pt_cmpR op_gt (pv 4) pe_int (nomark _)) (pw_and1 (pt_cmpR op_lt (pe_op op_mulW (pv 4) (pe_call G_law_power hr (by rfl) M_law_power k_law_power B_law_power .nil pass0 (pa_cons (pv 4) (pa_cons (pe_callB (call_lenK (K := K) rfl) (by rfl) Z_len PySem.boot_len (pa_cons (pv 3) pa_nil)) pa_nil)))) pe_int (nomark _))))) (pss_one
          (ps_expr (pe_bm PySem.F.plainAttrs_list PySem.F.slot_list_append PySem.F.type_list_append mt_append (pv 3) (pa_cons (pv 4) pa_nil)))) pss_nil))))
      (pss_cons
      (ps_set (i := 6) sc_law.nd rfl (.inl rfl) (pe_call G_law_draw hr (by rfl) M_law_draw k_law_draw B_law_draw .nil pass0 (pa_cons (pv 2) (pa_cons pe_int pa_nil))))
      (pss_cons
      (ps_set (i := 7) sc_law.nd rfl (.inl rfl) pe_int)
      (pss_cons
      (ps_for PassesOwn.never rfl (pi_listK (K := K) rfl (pv 3)) (pg_name (i := 8) sc_law.nd rfl (.inl rfl)) (pss_one
        (ps_set (i := 7) sc_law.nd rfl (.inl rfl) (pe_op op_mulW (pv 7) (pv 8)))))
      (pss_cons
      (ps_while PassesOwn.never (pt_cmpR op_gt (pe_call G_law_power hr (by rfl) M_law_power k_law_power B_law_power .nil pass0 (pa_cons (pv 7) (pa_cons (pv 6) pa_nil))) pe_int (nomark _)) (pss_one
        (ps_set (i := 6) sc_law.nd rfl (.inl rfl) (pe_op op_sub (pv 6) pe_int))))
      (pss_cons
      (ps_if (pt_cmpR op_ne (pe_call G_count_generating hr (by rfl) M_count_generating k_count_generating B_count_generating .nil pass0 (pa_cons (pe_callTy (call_tupleK (K := K) rfl) (by rfl) Z_tuple (by decide +kernel) (pa_cons (pv 3) pa_nil)) (pa_cons (pv 6) pa_nil))) (pe_call G_law_counted hr (by rfl) M_law_counted k_law_counted B_law_counted .nil pass0 (pa_cons (pv 3) (pa_cons (pv 6) pa_nil))) (nomark _)) (pss_one
        (ps_ret pe_bl)) pss_nil)
      (pss_cons
      (ps_if (PW.pt (pw_and (pt_cmpR op_gt (pe_callB (call_lenK (K := K) rfl) (by rfl) Z_len PySem.boot_len (pa_cons (pv 3) pa_nil)) pe_int (nomark _)) (pw_and1 (pt_cmpR op_ne (pe_call G_count_generating hr (by rfl) M_count_generating k_count_generating B_count_generating .nil pass0 (pa_cons (pe_callTy (call_tupleK (K := K) rfl) (by rfl) Z_tuple (by decide +kernel) (pa_cons (pv 3) pa_nil)) (pa_cons (pe_op op_sub (pe_callB (call_lenK (K := K) rfl) (by rfl) Z_len PySem.boot_len (pa_cons (pv 3) pa_nil)) pe_int) pa_nil))) pe_int (nomark _))))) (pss_one
        (ps_ret pe_bl)) pss_nil)
      (pss_cons
      (ps_par (i := 8) (j := 6) (by rfl) sc_law.nd rfl rfl (by decide) rfl rfl (pa_cons (pe_op op_add pe_int (pe_call G_law_draw hr (by rfl) M_law_draw k_law_draw B_law_draw .nil pass0 (pa_cons (pv 2) (pa_cons pe_int pa_nil)))) (pa_cons (pe_call G_law_draw hr (by rfl) M_law_draw k_law_draw B_law_draw .nil pass0 (pa_cons (pv 2) (pa_cons pe_int pa_nil))) pa_nil)) (by rfl))
      (pss_one
      (ps_if (pt_cmpR op_ne (pe_call G_count_generating hr (by rfl) M_count_generating k_count_generating B_count_generating .nil pass0 (pa_cons (pe_tup (pa_cons (pv 8) pa_nil)) (pa_cons (pv 6) pa_nil))) (pe_call G_law_cyclic hr (by rfl) M_law_cyclic k_law_cyclic B_law_cyclic .nil pass0 (pa_cons (pv 8) (pa_cons (pv 6) pa_nil))) (nomark _)) (pss_one
        (ps_ret pe_bl)) pss_nil)))))))))))))
    (pss_one
    (ps_ret pe_bl))), ?_⟩
  show Wp K _ [_, _, _, _, _, _, _, _, _] _
  refine wp_seq (wp_for (ds := rangeD 0 ((3 : Int)).toNat) (fun i ρ => ∃ z1 z2 z3 z4 z5 z6 z7 z8, ρ = [.val (.scr ns), z1, z2, z3, z4, z5, z6, z7, z8]) (ei_range1 (ea_cons ev_int ea_nil) (by omega)) ⟨_, _, _, _, _, _, _, _, rfl⟩ ?_ ?_)
  · rintro b d ρ hd ⟨z1, z2, z3, z4, z5, z6, z7, z8, rfl⟩
    obtain ⟨hb, rfl⟩ : b < 3 ∧ d = nI b := by
      rw [rangeD0] at hd
      obtain ⟨i, hi, rfl⟩ := List.mem_map.mp (List.mem_of_getElem? hd)
      rw [List.getElem?_map] at hd
      obtain ⟨j, hj, e⟩ := Option.map_eq_some_iff.mp hd
      have h1 := (List.getElem?_eq_some_iff.mp hj).1
      rw [List.length_range] at h1
      rw [List.getElem?_range h1] at hj
      cases hj
      exact ⟨h1, e.symm⟩
    refine ⟨_, ⟨_, eg_name (ltn (n := 9) (by decide) rfl)⟩, ?_⟩
    refine wp_seq (wp_set (ev_callM (R := R_deal) (ds := [.scr ns, nI b]) (y := dealF ns b) (ea_cons (ev_var rfl) (ea_cons (ev_var rfl) ea_nil)) ?_) (ltn (n := 9) (by decide) rfl) ?_)
    · exact ⟨ns, b, rfl, hns, by omega, rfl⟩
    have hwf : WF (dealF ns b) := dealF_wf ns b (by omega)
    generalize dealF ns b = x at hwf
    refine wp_seq (wp_par (ea_cons (ev_lst (ds := []) ea_nil (sz (n := 0) (by decide))) (ea_cons ev_int ea_nil)) (ltn (n := 9) (by decide) rfl) (ltn (n := 9) (by decide) rfl) (by decide) ?_)
    have hr4 := draw_range x 4 (by decide)
    have hw4 := draw_wf x 4 (by decide) hwf
    refine wp_seq (wp_for (ds := rangeD 0 ((drawF x 4).1).toNat) (fun i ρ => ∃ (x : DealS) (o : List Nat) (l : Nat) (z5 : Slot), WF x ∧ (o, l) ∈ reach i ∧ ρ = [.val (.scr ns), .val (nI b), .deal false x.1 x.2.1 x.2.2, .own (o.map nI), .val (nI l), z5, z6, z7, z8]) (ei_range1 (ea_cons (ev_callD (R := R_draw) (x := x) (y := (drawF x 4).2) (r := .int (drawF x 4).1) (ds := [.int 4]) rfl (ea_cons ev_int ea_nil) rfl ?_) ea_nil) ?_) ?_ ?_ ?_)
    · exact ⟨4, rfl, by decide, by decide, hwf, rfl, rfl⟩
    · omega
    · exact ⟨(drawF x 4).2, [], 1, z5, hw4, List.mem_singleton.mpr rfl, rfl⟩
    · rintro i d ρ hd ⟨x, o, l, z5, hw, hm, rfl⟩
      have hi : i < 3 := by
        have := (List.getElem?_eq_some_iff.mp hd).1
        unfold rangeD at this
        rw [List.length_map, List.length_range] at this
        omega
      obtain ⟨_, hol, hoo, _, hl⟩ := reach_fine (by omega) hm
      refine ⟨_, ⟨_, eg_name (ltn (n := 9) (by decide) rfl)⟩, ?_⟩
      have hr1 := draw_range x 5 (by decide)
      have hw1 := draw_wf x 5 (by decide) hw
      have hr2 := draw_range (drawF x 5).2 5 (by decide)
      have hw2 := draw_wf (drawF x 5).2 5 (by decide) hw1
      let u : Int := (drawF x 5).1
      let t : Int := (drawF (drawF x 5).2 5).1
      have hu : 0 ≤ u ∧ u < 5 := hr1
      have ht : 0 ≤ t ∧ t < 5 := hr2
      obtain ⟨v, hv1, hv5, hv⟩ : ∃ v : Nat, 1 ≤ v ∧ v ≤ 5 ∧ atI [D.int 2, .int 3, .int 1, .int 1, .int (1 + u)] t = some (nI v) := by
        have : t = 0 ∨ t = 1 ∨ t = 2 ∨ t = 3 ∨ t = 4 := by omega
        rcases this with e | e | e | e | e <;> rw [e]
        · exact ⟨2, by decide, by decide, rfl⟩
        · exact ⟨3, by decide, by decide, rfl⟩
        · exact ⟨1, by decide, by decide, rfl⟩
        · exact ⟨1, by decide, by decide, rfl⟩
        · refine ⟨(1 + u).toNat, by omega, by omega, ?_⟩
          show some (D.int (1 + u)) = some (D.int _)
          rw [Int.toNat_of_nonneg (by omega)]
      refine wp_seq (wp_set (s := .val (nI (l * v))) (ev_is (ev_opC (f := fun i j => i * j) (ev_var rfl) (ev_ixL (ds := [D.int 2, .int 3, .int 1, .int 1, .int (1 + u)]) (i := t) (ev_frz (ev_lst (ds := [D.int 2, .int 3, .int 1, .int 1, .int (1 + u)]) (ea_cons ev_int (ea_cons ev_int (ea_cons ev_int (ea_cons ev_int (ea_cons (ev_op0 (f := fun i j => i + j) ev_int (ev_callD (R := R_draw) (x := x) (y := (drawF x 5).2) (r := .int u) (ds := [.int 5]) rfl (ea_cons ev_int ea_nil) rfl ?_)) ea_nil))))) (sz (n := 5) (by decide)))) (ev_callD (R := R_draw) (x := (drawF x 5).2) (y := (drawF (drawF x 5).2 5).2) (r := .int t) (ds := [.int 5]) rfl (ea_cons ev_int ea_nil) rfl ?_) hv) ?_) ?_) (ltn (n := 9) (by decide) rfl) ?_)
      · exact ⟨5, rfl, by decide, by decide, hw, rfl, rfl⟩
      · exact ⟨5, rfl, by decide, by decide, hw1, rfl, rfl⟩
      · exact cmul_of (a := 7) (b := 3) (by show l ≤ 2 ^ 7; omega) (by show v ≤ 2 ^ 3; omega) (by decide)
      · show Lw.Slot.val (.int ((l : Int) * (v : Int))) = _
        rw [← Int.natCast_mul]
      have hlv : l * v ≤ 125 * 5 := Nat.mul_le_mul hl hv5
      have hmap : ∀ m : List Nat, (m.map nI).length = m.length := fun m => List.length_map ..
      refine wp_if (b := decide (1 < l * v ∧ l * v * (l * v) ^ o.length < 40)) (et_is (et_and (et_test (ev_op0B (f := fun i j => decide (j < i)) (ev_var rfl) ev_int)) (fun hc => (et_test (ev_op0B (f := fun i j => decide (i < j)) (ev_opC (f := fun i j => i * j) (ev_var rfl) (ev_call (R := R_power) (ds := [nI (l * v), nI o.length]) (r := nI ((l * v) ^ o.length)) (ea_cons (ev_var rfl) (ea_cons (ev_is (ev_lenO rfl) ?_) ea_nil)) ?_) ?_) ev_int))) (fun hc => rfl)) ?_) (fun hc => ?_) (fun hc => ?_)
      · show Lw.Slot.val (.int ((o.map nI).length : Int)) = _
        rw [hmap]
      · exact ⟨l * v, o.length, rfl, by omega, by omega, rfl⟩
      · have h1 : (l * v) ^ o.length ≤ (2 ^ 10) ^ 3 := Nat.le_trans (Nat.pow_le_pow_left (by omega) _) (Nat.pow_le_pow_right (by decide) hol)
        exact cmul_of (a := 10) (b := 30) (by show l * v ≤ 2 ^ 10; omega) (by show (l * v) ^ o.length ≤ 2 ^ 30; rw [← Nat.pow_mul] at h1; exact h1) (by decide)
      · show (decide ((1 : Int) < ((l * v : Nat) : Int)) && decide (((l * v : Nat) : Int) * (((l * v) ^ o.length : Nat) : Int) < 40)) = _
        rw [← Int.natCast_mul, Bool.eq_iff_iff]
        simp only [Bool.and_eq_true, decide_eq_true_eq]
        omega
      · have hc' := of_decide_eq_true hc
        refine wp_app rfl (ev_var rfl) rfl ?_ ?_
        · rw [hmap]
          exact sline (by omega)
        · refine ⟨(drawF (drawF x 5).2 5).2, o ++ [l * v], l * v, .val d, hw2, ?_, ?_⟩
          · have := reach_step hm hv1 hv5
            unfold stepO at this
            rwa [if_pos hc'] at this
          · rw [List.map_append]
            rfl
      · have hc' := of_decide_eq_false hc
        refine wp_next ⟨(drawF (drawF x 5).2 5).2, o, l * v, .val d, hw2, ?_, rfl⟩
        have := reach_step hm hv1 hv5
        unfold stepO at this
        rwa [if_neg hc'] at this
    rintro ρ ⟨x, o, l, z5, hw, hm, rfl⟩
    rw [range_len] at hm
    obtain ⟨hog, hol, hoo, hop, hl⟩ := reach_fine (by omega) hm
    refine wp_frz (i := 3) rfl ?_
    have hr5 := draw_range x 4 (by decide)
    have hw5 := draw_wf x 4 (by decide) hw
    refine wp_seq (wp_set (ev_callD (R := R_draw) (x := x) (y := (drawF x 4).2) (r := .int (drawF x 4).1) (ds := [.int 4]) rfl (ea_cons ev_int ea_nil) rfl ?_) (ltn (n := 9) (by decide) rfl) ?_)
    · exact ⟨4, rfl, by decide, by decide, hw, rfl, rfl⟩
    obtain ⟨m, hm4⟩ : ∃ m : Nat, (drawF x 4).1 = (m : Int) := ⟨_, (Int.toNat_of_nonneg hr5.1).symm⟩
    generalize (drawF x 4).2 = y at hw5
    rw [hm4] at hr5 ⊢
    refine wp_seq (wp_set ev_int (ltn (n := 9) (by decide) rfl) ?_)
    refine wp_seq (wp_for (ds := o.map nI) (fun i ρ => ∃ z8, ρ = [.val (.scr ns), .val (nI b), .deal false y.1 y.2.1 y.2.2, .val (.lst (o.map nI)), .val (nI l), z5, .val (nI m), .val (nI (prodN (o.take i))), z8]) (ei_list (ev_var rfl)) ⟨_, rfl⟩ ?_ ?_)
    · rintro i d ρ hd ⟨z8, rfl⟩
      rw [List.getElem?_map] at hd
      obtain ⟨a, ha, rfl⟩ := Option.map_eq_some_iff.mp hd
      refine ⟨_, ⟨_, eg_name (ltn (n := 9) (by decide) rfl)⟩, ?_⟩
      refine wp_set (ev_opC (f := fun i j => i * j) (ev_var rfl) (ev_var rfl) ?_) (ltn (n := 9) (by decide) rfl) ?_
      · have h1 := hoo a (List.mem_of_getElem? ha)
        have h2 : prodN (o.take i) ≤ 2 ^ (6 * (o.take i).length) := prodN_bound fun c hc => by have := hoo c (List.mem_of_mem_take hc); omega
        have h3 : (o.take i).length ≤ 3 := by rw [List.length_take]; omega
        have h4 : 2 ^ (6 * (o.take i).length) ≤ 2 ^ 18 := Nat.pow_le_pow_right (by decide) (by omega)
        exact cmul_of (a := 18) (b := 6) (by show prodN _ ≤ 2 ^ 18; omega) (by show a ≤ 2 ^ 6; omega) (by decide)
      · refine ⟨.val (nI a), ?_⟩
        have e : prodN (o.take (i + 1)) = prodN (o.take i) * a := by
          rw [List.take_add_one, ha, Option.toList_some]
          exact List.foldl_append ..
        rw [e]
        show _ = [_, _, _, _, _, _, _, Lw.Slot.val (.int ((prodN (o.take i) * a : Nat) : Int)), _]
        rw [Int.natCast_mul]
        rfl
    rintro ρ ⟨z8, rfl⟩
    rw [List.length_map, List.take_length]
    refine wp_seq (wp_while (fun ρ => ∃ m : Nat, m ≤ 3 ∧ ρ = [.val (.scr ns), .val (nI b), .deal false y.1 y.2.1 y.2.2, .val (.lst (o.map nI)), .val (nI l), z5, .val (nI m), .val (nI (prodN o)), z8]) six ⟨m, by omega, rfl⟩ ?_)
    rintro ρ ⟨m, hm, rfl⟩
    refine ⟨_, _, (et_test (ev_op0B (f := fun i j => decide (j < i)) (ev_call (R := R_power) (ds := [nI (prodN o), nI m]) (r := nI (prodN o ^ m)) (ea_cons (ev_var rfl) (ea_cons (ev_var rfl) ea_nil)) ?_) ev_int)), fun hc => ?_, fun hc => ?_⟩
    · exact ⟨_, _, rfl, by omega, by omega, rfl⟩
    · have hc := of_decide_eq_true hc
      have h0 : m ≠ 0 := by
        rintro rfl
        rw [Nat.pow_zero] at hc
        exact absurd hc (by decide)
      refine wp_set (ev_op0 (f := fun i j => i - j) (ev_var rfl) ev_int) (ltn (n := 9) (by decide) rfl) ?_
      refine ⟨⟨m - 1, by omega, ?_⟩, ?_⟩
      · show [_, _, _, _, _, _, Lw.Slot.val (.int ((m : Int) - 1)), _, _] = [_, _, _, _, _, _, Lw.Slot.val (.int ((m - 1 : Nat) : Int)), _, _]
        have : (m : Int) - 1 = ((m - 1 : Nat) : Int) := by omega
        rw [this]
      · show ((m : Int) - 1).toNat < (m : Int).toNat
        omega
    have hc := of_decide_eq_false hc
    have hp : prodN o ^ m ≤ 250 := by
      have : ¬ ((250 : Int) < ((prodN o ^ m : Nat) : Int)) := hc
      omega
    obtain ⟨k1, k2, k3⟩ := W1 o hog m hm hp
    refine wp_seq (wp_if (b := false) (et_is (et_test (ev_neI (ev_call (R := R_cg) (ds := [.tup (o.map nI), nI m]) (r := nI (cg o m)) (ea_cons (ev_tupleL (ev_var rfl)) (ea_cons (ev_var rfl) ea_nil)) ?_) (ev_call (R := R_counted) (ds := [.lst (o.map nI), nI m]) (r := nI (countF o m)) (ea_cons (ev_var rfl) (ea_cons (ev_var rfl) ea_nil)) ?_))) ?_) (fun hc => (by cases hc)) (fun hc => wp_next ?_))
    · exact ⟨o, m, rfl, hol, fun d hd => by have := hoo d hd; omega, by omega, rfl⟩
    · exact ⟨o, m, rfl, hol, hoo, hm, k1, k2, rfl⟩
    · rw [k3]
      simp
    have hmap : (o.map nI).length = o.length := List.length_map ..
    refine wp_seq (wp_if (b := false) (et_is (et_and (et_test (ev_op0B (f := fun i j => decide (j < i)) (ev_lenL (ev_var rfl)) ev_int)) (fun hc => (et_test (ev_neI (ev_call (R := R_cg) (ds := [.tup (o.map nI), nI (o.length - 1)]) (r := nI (cg o (o.length - 1))) (ea_cons (ev_tupleL (ev_var rfl)) (ea_cons (ev_is (ev_op0 (f := fun i j => i - j) (ev_lenL (ev_var rfl)) ev_int) ?_) ea_nil)) ?_) ev_int))) (fun hc => rfl)) ?_) (fun hc => (by cases hc)) (fun hc => wp_next ?_))
    · have hc := of_decide_eq_true hc
      show Lw.Slot.val (.int (((o.map nI).length : Int) - 1)) = Lw.Slot.val (.int ((o.length - 1 : Nat) : Int))
      have : ((o.map nI).length : Int) - 1 = ((o.length - 1 : Nat) : Int) := by
        rw [hmap] at hc ⊢
        omega
      rw [this]
    · exact ⟨o, _, rfl, hol, fun d hd => by have := hoo d hd; omega, by omega, rfl⟩
    · by_cases h0 : o = []
      · subst h0
        rfl
      · rw [W2 o hog h0]
        simp
    have hr6 := draw_range y 9999 (by decide)
    have hw6 := draw_wf y 9999 (by decide) hw5
    have hr7 := draw_range (drawF y 9999).2 7 (by decide)
    have hw7 := draw_wf (drawF y 9999).2 7 (by decide) hw6
    obtain ⟨n, hn⟩ : ∃ n : Nat, 2 + (drawF y 9999).1 = (n : Int) := ⟨(2 + (drawF y 9999).1).toNat, (Int.toNat_of_nonneg (by omega)).symm⟩
    obtain ⟨q, hq⟩ : ∃ q : Nat, (drawF (drawF y 9999).2 7).1 = (q : Int) := ⟨_, (Int.toNat_of_nonneg hr7.1).symm⟩
    refine wp_seq (wp_par (s1 := .val (nI n)) (s2 := .val (nI q)) (ea_cons (ev_is (ev_op0 (f := fun i j => i + j) ev_int (ev_callD (R := R_draw) (x := y) (y := (drawF y 9999).2) (r := .int (drawF y 9999).1) (ds := [.int 9999]) rfl (ea_cons ev_int ea_nil) rfl ?_)) ?_) (ea_cons (ev_is (ev_callD (R := R_draw) (x := (drawF y 9999).2) (y := (drawF (drawF y 9999).2 7).2) (r := .int (drawF (drawF y 9999).2 7).1) (ds := [.int 7]) rfl (ea_cons ev_int ea_nil) rfl ?_) ?_) ea_nil)) (ltn (n := 9) (by decide) rfl) (ltn (n := 9) (by decide) rfl) (by decide) ?_)
    · exact ⟨9999, rfl, by decide, by decide, hw5, rfl, rfl⟩
    · show Lw.Slot.val (.int (2 + (drawF y 9999).1)) = _
      rw [hn]
    · exact ⟨7, rfl, by decide, by decide, hw6, rfl, rfl⟩
    · rw [hq]
    have hn2 : 2 ≤ n ∧ n ≤ 10000 := by omega
    have hq6 : q ≤ 6 := by omega
    refine wp_if (b := false) (et_is (et_test (ev_neI (ev_call (R := R_cg) (ds := [.tup ([n].map nI), nI q]) (r := nI (cg [n] q)) (ea_cons (ev_tup (ds := [nI n]) (ea_cons (ev_var rfl) ea_nil) (sz (n := 1) (by decide))) (ea_cons (ev_var rfl) ea_nil)) ?_) (ev_call (R := R_cyc) (ds := [nI n, nI q]) (r := .int (cycN n q)) (ea_cons (ev_var rfl) (ea_cons (ev_var rfl) ea_nil)) ?_))) ?_) (fun hc => (by cases hc)) (fun hc => wp_next ?_)
    · exact ⟨[n], q, rfl, (by show 1 ≤ 3; decide), fun d hd => by rw [List.mem_singleton.mp hd]; omega, hq6, rfl⟩
    · exact ⟨n, q, rfl, hn2.1, hn2.2, hq6, rfl⟩
    · rw [W3 n q hn2.1 hn2.2 hq6]
      simp
    · exact ⟨_, _, _, _, _, _, _, _, rfl⟩
  · rintro ρ ⟨z1, z2, z3, z4, z5, z6, z7, z8, rfl⟩
    exact wp_ret ev_bl rfl
end
end K55

namespace K55
/-! ### the small cases -/
def okOM (o : List Nat) (m : Nat) : Bool := (List.range (m + 1)).all (fun i => Nat.ble ((elemsF o).length ^ i) 1000) && (rowsF (elemsF o) m).all (fun row => (bfs 64 o row [zerosF o] 0).isSome) && Nat.beq (cg o m) (countF o m)
def okO (o : List Nat) : Bool := (List.range 4).all fun m => !(Nat.ble (prodN o ^ m) 250) || okOM o m
theorem ok_all : (goods.all okO) = true := by decide +kernel
theorem ok_2 : (goods.all fun o => o.isEmpty || Nat.beq (cg o (o.length - 1)) 0) = true := by decide +kernel
theorem low1 : Low1 := fun o ho m hm hp => by
  have h1 := List.all_eq_true.mp ok_all o ho
  have h2 := List.all_eq_true.mp h1 m (List.mem_range.mpr (by omega))
  rw [Nat.ble_eq_true_of_le hp] at h2
  replace h2 : okOM o m = true := by simpa using h2
  unfold okOM at h2
  rw [Bool.and_eq_true, Bool.and_eq_true] at h2
  obtain ⟨⟨h3, h4⟩, h5⟩ := h2
  exact ⟨fun i hi => Nat.le_of_ble_eq_true (List.all_eq_true.mp h3 i (List.mem_range.mpr (by omega))), fun row hr => List.all_eq_true.mp h4 row hr, Nat.eq_of_beq_eq_true h5⟩
theorem low2 : Low2 := fun o ho h0 => by
  have h1 := List.all_eq_true.mp ok_2 o ho
  rw [Bool.or_eq_true] at h1
  rcases h1 with h1 | h1
  · exact absurd (List.isEmpty_iff.mp h1) h0
  · exact Nat.eq_of_beq_eq_true h1
end K55

namespace K55
/-! ### primes -/
def Pr (p : Nat) : Prop := 2 ≤ p ∧ ∀ d, d ∣ p → d = 1 ∨ d = p
theorem Pr.cop {p e : Nat} (hp : Pr p) (h : ¬ p ∣ e) : Nat.Coprime p e := by
  rcases hp.2 _ (Nat.gcd_dvd_left p e) with z | z
  · exact z
  · exact absurd (z ▸ Nat.gcd_dvd_right p e) h
theorem Pr.cop2 {p q : Nat} (hp : Pr p) (hq : Pr q) (h : p ≠ q) : Nat.Coprime p q := hp.cop fun z => by
  rcases hq.2 p z with e | e
  · have := hp.1; omega
  · exact h e
theorem strip_spec : ∀ f l p, 2 ≤ p → 1 ≤ l → l ≤ f → ∃ i, l = p ^ i * strip f l p ∧ ¬ p ∣ strip f l p
  | 0, l, p, _, h1, h2 => by omega
  | f + 1, l, p, hp, hl, hf => by
    unfold strip
    by_cases h : l % p = 0
    · rw [if_pos h]
      have hd := Nat.dvd_of_mod_eq_zero h
      have h1 : l / p < l := Nat.div_lt_self (by omega) (by omega)
      have h2 : 1 ≤ l / p := Nat.div_pos (Nat.le_of_dvd hl hd) (by omega)
      obtain ⟨i, e, n⟩ := strip_spec f (l / p) p hp h2 (by omega)
      refine ⟨i + 1, ?_, n⟩
      rw [Nat.pow_succ, Nat.mul_comm (p ^ i) p, Nat.mul_assoc, ← e, Nat.mul_div_cancel' hd]
    · rw [if_neg h]
      exact ⟨0, by rw [Nat.pow_zero, Nat.one_mul], fun z => h (Nat.mod_eq_zero_of_dvd z)⟩
theorem pr_split {q l i l' : Nat} (hq : Pr q) (hd : q ∣ l) (e : l = q ^ i * l') (r : Nat) : (Pr r ∧ r ∣ l) ↔ (r = q ∨ (Pr r ∧ r ∣ l')) := by
  constructor
  · rintro ⟨h1, h2⟩
    by_cases h : r = q
    · exact .inl h
    · refine .inr ⟨h1, ?_⟩
      rw [e] at h2
      exact Nat.Coprime.dvd_of_dvd_mul_left (Nat.Coprime.pow_right i (h1.cop2 hq h)) h2
  · rintro (rfl | ⟨h1, h2⟩)
    · exact ⟨hq, hd⟩
    · exact ⟨h1, e ▸ Nat.dvd_trans h2 (Nat.dvd_mul_left _ _)⟩
theorem no_pr_one (q : Nat) : ¬ (Pr q ∧ q ∣ 1) := fun ⟨h1, h2⟩ => by
  have := Nat.dvd_one.mp h2
  have := h1.1
  omega
theorem primesF_spec : ∀ f l p acc, 2 ≤ p → 1 ≤ l → (l ≤ 1 ∨ 1 + (l - p) ≤ f) → (∀ d, 2 ≤ d → d ∣ l → p ≤ d) → ∃ L, primesF f l p acc = acc ++ L ∧ L.Pairwise (· < ·) ∧ (∀ q ∈ L, p ≤ q) ∧ ∀ q, q ∈ L ↔ Pr q ∧ q ∣ l
  | 0, l, p, acc, hp, hl, hf, hd => by
    have : l = 1 := by omega
    subst this
    exact ⟨[], by rw [List.append_nil]; rfl, .nil, fun q h => (by cases h), fun q => ⟨fun h => (by cases h), fun h => absurd h (no_pr_one q)⟩⟩
  | f + 1, l, p, acc, hp, hl, hf, hd => by
    unfold primesF
    by_cases h1 : l ≤ 1
    · rw [if_pos h1]
      have : l = 1 := by omega
      subst this
      exact ⟨[], by rw [List.append_nil], .nil, fun q h => (by cases h), fun q => ⟨fun h => (by cases h), fun h => absurd h (no_pr_one q)⟩⟩
    rw [if_neg h1]
    have hpl : p ≤ l := hd l (by omega) (Nat.dvd_refl _)
    have key : ∀ q, p ≤ q → Pr q → q ∣ l → (q = p ∨ q = l) → ∃ L, primesF f (strip l l q) (q + 1) (acc ++ [q]) = acc ++ L ∧ L.Pairwise (· < ·) ∧ (∀ q ∈ L, p ≤ q) ∧ ∀ q, q ∈ L ↔ Pr q ∧ q ∣ l := by
      intro q hpq hq hql hor
      obtain ⟨i, e, hn⟩ := strip_spec l l q hq.1 hl (Nat.le_refl _)
      have hpos := strip_pos l l q hq.1 hl
      have hll : strip l l q ∣ l := ⟨q ^ i, by rw [Nat.mul_comm]; exact e⟩
      have hmul : q * strip l l q ≤ l := Nat.le_of_dvd hl (Nat.Coprime.mul_dvd_of_dvd_of_dvd (hq.cop hn) hql hll)
      generalize strip l l q = m at e hn hpos hll hmul
      have h2m : 2 * m ≤ l := Nat.le_trans (Nat.mul_le_mul_right _ hq.1) hmul
      have hfu : m ≤ 1 ∨ 1 + (m - (q + 1)) ≤ f := by
        by_cases h2 : m ≤ 1
        · exact .inl h2
        · have := hd m (by omega) hll
          right
          omega
      obtain ⟨L, e1, e2, e3, e4⟩ := primesF_spec f m (q + 1) (acc ++ [q]) (by omega) hpos hfu fun d h2 hdm => by
        have h3 := hd d h2 (Nat.dvd_trans hdm hll)
        rcases hor with rfl | rfl
        · have : d ≠ q := by rintro rfl; exact hn hdm
          omega
        · have h4 := Nat.le_of_dvd hpos hdm
          have : q * 2 ≤ q * m := Nat.mul_le_mul_left _ (by omega)
          omega
      refine ⟨q :: L, by rw [e1, List.append_assoc]; rfl, List.pairwise_cons.mpr ⟨fun a ha => by have := e3 a ha; omega, e2⟩, fun a ha => ?_, fun a => ?_⟩
      · rcases List.mem_cons.mp ha with rfl | ha
        · exact hpq
        · have := e3 a ha; omega
      · rw [List.mem_cons, e4, pr_split hq hql e a]
    by_cases hpp : p * p > l
    · simp only [if_pos hpp, Nat.mod_self, if_true]
      refine key l hpl ⟨by omega, fun d hdl => ?_⟩ (Nat.dvd_refl _) (.inr rfl)
      by_cases hd1 : d = 1
      · exact .inl hd1
      · obtain ⟨e, he⟩ := hdl
        have hd0 : d ≠ 0 := by rintro rfl; rw [Nat.zero_mul] at he; omega
        have he0 : e ≠ 0 := by rintro rfl; rw [Nat.mul_zero] at he; omega
        by_cases he1 : e = 1
        · right; rw [he1, Nat.mul_one] at he; exact he.symm
        · have a1 := hd d (by omega) ⟨e, he⟩
          have a2 := hd e (by omega) ⟨d, by rw [Nat.mul_comm]; exact he⟩
          have := Nat.mul_le_mul a1 a2
          omega
    · simp only [if_neg hpp]
      by_cases hm : l % p = 0
      · rw [if_pos hm]
        have hpd := Nat.dvd_of_mod_eq_zero hm
        refine key p (Nat.le_refl _) ⟨hp, fun d hdp => ?_⟩ hpd (.inl rfl)
        have a1 := Nat.le_of_dvd (by omega) hdp
        have a2 := Nat.pos_of_dvd_of_pos hdp (by omega)
        by_cases hd1 : d = 1
        · exact .inl hd1
        · have := hd d (by omega) (Nat.dvd_trans hdp hpd)
          right; omega
      · rw [if_neg hm]
        have hne : p ≠ l := by rintro rfl; exact hm (Nat.mod_self _)
        obtain ⟨L, e1, e2, e3, e4⟩ := primesF_spec f l (p + 1) acc (by omega) hl (by omega) fun d h2 hdl => by
          have := hd d h2 hdl
          have : d ≠ p := by rintro rfl; exact hm (Nat.mod_eq_zero_of_dvd hdl)
          omega
        exact ⟨L, e1, e2, fun q h => by have := e3 q h; omega, e4⟩
theorem primes_spec {n : Nat} (hn : 1 ≤ n) : (primesN n).Nodup ∧ ∀ q, q ∈ primesN n ↔ Pr q ∧ q ∣ n := by
  obtain ⟨L, e1, e2, e3, e4⟩ := primesF_spec (2 * n) n 2 [] (Nat.le_refl _) hn (by omega) fun d h _ => h
  rw [List.nil_append] at e1
  unfold primesN
  rw [e1]
  exact ⟨e2.imp fun h => Nat.ne_of_lt h, e4⟩
theorem exists_pr : ∀ n : Nat, 2 ≤ n → ∃ p, Pr p ∧ p ∣ n := by
  intro n
  induction n using Nat.strongRecOn with
  | ind n ih =>
    intro hn
    by_cases h : Pr n
    · exact ⟨n, h, Nat.dvd_refl _⟩
    · have : ∃ d, d ∣ n ∧ d ≠ 1 ∧ d ≠ n := by
        apply Classical.byContradiction
        intro hc
        refine h ⟨hn, fun d hd => ?_⟩
        by_cases h1 : d = 1
        · exact .inl h1
        · by_cases h2 : d = n
          · exact .inr h2
          · exact absurd ⟨d, hd, h1, h2⟩ hc
      obtain ⟨d, hd, h1, h2⟩ := this
      have a1 := Nat.le_of_dvd (by omega) hd
      have a2 := Nat.pos_of_dvd_of_pos hd (by omega)
      obtain ⟨p, hp, hpd⟩ := ih d (by omega) (by omega)
      exact ⟨p, hp, Nat.dvd_trans hpd hd⟩
/-! ### the count of one group -/
def J (k n : Nat) : Nat := (primesN n).foldl (fun f p => f / p ^ k * (p ^ k - 1)) (n ^ k)
def Qp (k : Nat) (l : List Nat) : Nat := (l.map fun p => p ^ k).prod
def Rp (k : Nat) (l : List Nat) : Nat := (l.map fun p => p ^ k - 1).prod
theorem fold_spec (k : Nat) : ∀ (l : List Nat) (f : Nat), Qp k l ∣ f → l.foldl (fun f p => f / p ^ k * (p ^ k - 1)) f * Qp k l = f * Rp k l
  | [], f, _ => rfl
  | p :: l, f, h => by
    have e1 : Qp k (p :: l) = p ^ k * Qp k l := List.prod_cons
    have e2 : Rp k (p :: l) = (p ^ k - 1) * Rp k l := List.prod_cons
    rw [e1] at h
    have h1 : Qp k l ∣ f / p ^ k := Nat.dvd_div_of_mul_dvd h
    have h2 : f / p ^ k * p ^ k = f := Nat.div_mul_cancel (Nat.dvd_trans (Nat.dvd_mul_right _ _) h)
    have ih := fold_spec k l (f / p ^ k * (p ^ k - 1)) (Nat.dvd_trans h1 (Nat.dvd_mul_right _ _))
    rw [e1, e2, List.foldl_cons]
    generalize List.foldl _ (f / p ^ k * (p ^ k - 1)) l = X at ih
    calc X * (p ^ k * Qp k l) = X * Qp k l * p ^ k := by ac_rfl
      _ = f / p ^ k * (p ^ k - 1) * Rp k l * p ^ k := by rw [ih]
      _ = (f / p ^ k * p ^ k) * ((p ^ k - 1) * Rp k l) := by ac_rfl
      _ = _ := by rw [h2]
theorem Qp_cop {p : Nat} (hp : Pr p) (k : Nat) : ∀ l : List Nat, (∀ q ∈ l, Pr q) → p ∉ l → Nat.Coprime (p ^ k) (Qp k l)
  | [], _, _ => Nat.coprime_one_right _
  | q :: l, h, hn => by
    have e1 : Qp k (q :: l) = q ^ k * Qp k l := List.prod_cons
    rw [e1]
    rw [List.mem_cons, not_or] at hn
    exact Nat.Coprime.mul_right (Nat.Coprime.pow_left k (Nat.Coprime.pow_right k (hp.cop2 (h q (by simp)) hn.1))) (Qp_cop hp k l (fun r hr => h r (List.mem_cons_of_mem _ hr)) hn.2)
theorem Qp_dvd (k n : Nat) : ∀ l : List Nat, l.Nodup → (∀ q ∈ l, Pr q ∧ q ∣ n) → Qp k l ∣ n ^ k
  | [], _, _ => Nat.one_dvd _
  | q :: l, hn, h => by
    have e1 : Qp k (q :: l) = q ^ k * Qp k l := List.prod_cons
    rw [e1]
    rw [List.nodup_cons] at hn
    have hq := h q (by simp)
    refine Nat.Coprime.mul_dvd_of_dvd_of_dvd (Qp_cop hq.1 k l (fun r hr => (h r (List.mem_cons_of_mem _ hr)).1) hn.1) ?_ (Qp_dvd k n l hn.2 fun r hr => h r (List.mem_cons_of_mem _ hr))
    obtain ⟨c, rfl⟩ := hq.2
    rw [Nat.mul_pow]
    exact Nat.dvd_mul_right _ _
theorem Qp_pos (k : Nat) : ∀ l : List Nat, (∀ q ∈ l, Pr q) → 0 < Qp k l
  | [], _ => Nat.one_pos
  | q :: l, h => by
    have e1 : Qp k (q :: l) = q ^ k * Qp k l := List.prod_cons
    rw [e1]
    have := (h q (by simp)).1
    exact Nat.mul_pos (Nat.pow_pos (by omega)) (Qp_pos k l fun r hr => h r (List.mem_cons_of_mem _ hr))
theorem J_spec (k : Nat) {n : Nat} (hn : 1 ≤ n) : J k n * Qp k (primesN n) = n ^ k * Rp k (primesN n) := by
  obtain ⟨h1, h2⟩ := primes_spec hn
  exact fold_spec k _ _ (Qp_dvd k n _ h1 fun q hq => (h2 q).mp hq)
theorem J_mul (k : Nat) {p e i : Nat} (hp : Pr p) (he : 1 ≤ e) (hn : ¬ p ∣ e) : J k (p ^ (i + 1) * e) = p ^ (i * k) * (p ^ k - 1) * J k e := by
  have hp0 : 0 < p := by have := hp.1; omega
  have hpos : 1 ≤ p ^ (i + 1) * e := Nat.mul_pos (Nat.pow_pos hp0) he
  obtain ⟨a1, a2⟩ := primes_spec hpos
  obtain ⟨b1, b2⟩ := primes_spec he
  have hpn : p ∣ p ^ (i + 1) * e := Nat.dvd_trans (by rw [Nat.pow_succ]; exact Nat.dvd_mul_left _ _) (Nat.dvd_mul_right _ _)
  have pm : (primesN (p ^ (i + 1) * e)).Perm (p :: primesN e) := by
    rw [List.perm_ext_iff_of_nodup a1 (List.nodup_cons.mpr ⟨fun h => hn ((b2 p).mp h).2, b1⟩)]
    intro a
    rw [a2, List.mem_cons, b2, pr_split hp hpn rfl a]
  have eQ : Qp k (primesN (p ^ (i + 1) * e)) = p ^ k * Qp k (primesN e) := by
    rw [show Qp k (primesN (p ^ (i + 1) * e)) = Qp k (p :: primesN e) from (pm.map _).prod_nat]
    exact List.prod_cons
  have eR : Rp k (primesN (p ^ (i + 1) * e)) = (p ^ k - 1) * Rp k (primesN e) := by
    rw [show Rp k (primesN (p ^ (i + 1) * e)) = Rp k (p :: primesN e) from (pm.map _).prod_nat]
    exact List.prod_cons
  have s1 := J_spec k hpos
  have s2 := J_spec k he
  rw [eQ, eR] at s1
  have hq : 0 < p ^ k * Qp k (primesN e) := Nat.mul_pos (Nat.pow_pos hp0) (Qp_pos k _ fun q hq => ((b2 q).mp hq).1)
  refine Nat.eq_of_mul_eq_mul_right hq ?_
  rw [s1]
  have e5 : (p ^ (i + 1) * e) ^ k = p ^ (i * k) * p ^ k * e ^ k := by rw [Nat.mul_pow, ← Nat.pow_mul, Nat.succ_mul, Nat.pow_add]
  rw [e5]
  generalize Rp k (primesN e) = R at s2
  generalize Qp k (primesN e) = Q at s2
  generalize J k e = X at s2
  generalize p ^ k - 1 = y
  calc p ^ (i * k) * p ^ k * e ^ k * (y * R) = p ^ (i * k) * p ^ k * y * (e ^ k * R) := by ac_rfl
    _ = p ^ (i * k) * p ^ k * y * (X * Q) := by rw [s2]
    _ = _ := by ac_rfl
theorem sum_scale (c : Nat) (g h : Nat → Nat) : ∀ l : List Nat, (∀ e ∈ l, g e = c * h e) → (l.map g).sum = c * (l.map h).sum
  | [], _ => rfl
  | e :: l, hh => by
    rw [List.map_cons, List.sum_cons, List.map_cons, List.sum_cons, sum_scale c g h l fun x hx => hh x (List.mem_cons_of_mem _ hx), hh e (by simp), Nat.mul_add]
def Sg (k n : Nat) : Nat := ((Dv n).map (J k)).sum
theorem mem_Dv' {n d : Nat} (hn : 1 ≤ n) : d ∈ Dv n ↔ d ∣ n := by
  rw [mem_Dv hn]
  exact ⟨fun h => Nat.dvd_of_mod_eq_zero h.2, fun h => ⟨Nat.pos_of_dvd_of_pos h hn, Nat.mod_eq_zero_of_dvd h⟩⟩
theorem Dv_nodup (n : Nat) : (Dv n).Nodup := (Dv_sorted n).imp fun h => Nat.ne_of_lt h
theorem Dv_split {p m a : Nat} (hp : Pr p) (hm : 1 ≤ m) (hn : ¬ p ∣ m) : (Dv (p ^ (a + 1) * m)).Perm (Dv (p ^ a * m) ++ (Dv m).map (p ^ (a + 1) * ·)) := by
  have hp0 : 0 < p := by have := hp.1; omega
  have q1 : 0 < p ^ a := Nat.pow_pos hp0
  have q2 : 0 < p ^ (a + 1) := Nat.pow_pos hp0
  have h1 : 1 ≤ p ^ a * m := Nat.mul_pos q1 hm
  have h2 : 1 ≤ p ^ (a + 1) * m := Nat.mul_pos q2 hm
  rw [List.perm_ext_iff_of_nodup (Dv_nodup _)]
  · intro d
    rw [List.mem_append, mem_Dv' h2, mem_Dv' h1, List.mem_map]
    constructor
    · intro hd
      have hd0 := Nat.pos_of_dvd_of_pos hd h2
      by_cases hpd : p ^ (a + 1) ∣ d
      · obtain ⟨e, rfl⟩ := hpd
        exact .inr ⟨e, (mem_Dv' hm).mpr (Nat.dvd_of_mul_dvd_mul_left q2 hd), rfl⟩
      · left
        obtain ⟨i, e, hs⟩ := strip_spec d d p hp.1 hd0 (Nat.le_refl _)
        generalize strip d d p = c at e hs
        have hi : i ≤ a := by
          apply Classical.byContradiction
          intro hc
          exact hpd (e ▸ Nat.dvd_trans (Nat.pow_dvd_pow p (by omega : a + 1 ≤ i)) (Nat.dvd_mul_right _ _))
        have hc : c ∣ m := by
          refine Nat.Coprime.dvd_of_dvd_mul_left (Nat.Coprime.pow_right (a + 1) (hp.cop hs).symm) (Nat.dvd_trans ?_ hd)
          rw [e]
          exact Nat.dvd_mul_left _ _
        rw [e]
        exact Nat.mul_dvd_mul (Nat.pow_dvd_pow p hi) hc
    · rintro (h | ⟨e, he, rfl⟩)
      · refine Nat.dvd_trans h (Nat.mul_dvd_mul (Nat.pow_dvd_pow p (by omega)) (Nat.dvd_refl _))
      · exact Nat.mul_dvd_mul (Nat.dvd_refl _) ((mem_Dv' hm).mp he)
  · rw [List.nodup_append]
    refine ⟨Dv_nodup _, ?_, ?_⟩
    · refine List.pairwise_map.mpr ((Dv_nodup m).imp fun {x y} h z => h ?_)
      exact Nat.eq_of_mul_eq_mul_left q2 z
    · intro x hx y hy hxy
      subst hxy
      obtain ⟨e, he, rfl⟩ := List.mem_map.mp hy
      have h3 := (mem_Dv' h1).mp hx
      rw [Nat.pow_succ, Nat.mul_assoc] at h3
      have h4 := Nat.dvd_of_mul_dvd_mul_left q1 h3
      exact hn (Nat.dvd_trans (Nat.dvd_mul_right _ _) h4)
theorem Sg_pow (k : Nat) {p m : Nat} (hp : Pr p) (hm : 1 ≤ m) (hn : ¬ p ∣ m) : ∀ a, Sg k (p ^ a * m) = p ^ (a * k) * Sg k m
  | 0 => by rw [Nat.pow_zero, Nat.zero_mul, Nat.pow_zero, Nat.one_mul, Nat.one_mul]
  | a + 1 => by
    have hp0 : 0 < p := by have := hp.1; omega
    have h1 : Sg k (p ^ (a + 1) * m) = Sg k (p ^ a * m) + (((Dv m).map (p ^ (a + 1) * ·)).map (J k)).sum := by
      unfold Sg
      rw [((Dv_split hp hm hn).map (J k)).sum_nat, List.map_append, List.sum_append_nat]
    rw [h1, Sg_pow k hp hm hn a, List.map_map, sum_scale (p ^ (a * k) * (p ^ k - 1)) (J k ∘ (p ^ (a + 1) * ·)) (J k) (Dv m) fun e he => ?_]
    · show p ^ (a * k) * Sg k m + p ^ (a * k) * (p ^ k - 1) * Sg k m = _
      obtain ⟨x, hx⟩ : ∃ x, p ^ k = x + 1 := ⟨p ^ k - 1, by have : 0 < p ^ k := Nat.pow_pos hp0; omega⟩
      rw [Nat.succ_mul, Nat.pow_add, hx, Nat.add_sub_cancel, Nat.mul_add, Nat.mul_one, Nat.add_mul, Nat.add_comm]
    · have hed := (mem_Dv' hm).mp he
      exact J_mul k hp (Nat.pos_of_dvd_of_pos hed hm) fun z => hn (Nat.dvd_trans z hed)
theorem Sg_eq (k : Nat) : ∀ n : Nat, 1 ≤ n → Sg k n = n ^ k := by
  intro n
  induction n using Nat.strongRecOn with
  | ind n ih =>
    intro hn
    by_cases h1 : n = 1
    · subst h1
      have : Dv 1 = [1] := by decide
      unfold Sg
      rw [this]
      rfl
    · obtain ⟨p, hp, hpn⟩ := exists_pr n (by omega)
      obtain ⟨i, e, hs⟩ := strip_spec n n p hp.1 hn (Nat.le_refl _)
      have hpos := strip_pos n n p hp.1 hn
      generalize strip n n p = m at e hs hpos
      have hmn : m < n := by
        have h2 : m ∣ n := ⟨p ^ i, by rw [Nat.mul_comm]; exact e⟩
        have h3 := Nat.le_of_dvd hn h2
        have : m ≠ n := by rintro rfl; exact hs hpn
        omega
      rw [e, Sg_pow k hp hpos hs i, ih m hmn hpos, Nat.mul_pow, Nat.pow_mul]
/-! ### the program's sum over the divisors -/
theorem pick {l : List Nat} {D found : List Int} {g : Nat → Int} (d : Nat) (h1 : ∀ j, j < l.length → D.getD j 0 = ((l.getD j 0 : Nat) : Int)) (h2 : found = l.map g) :
    ((List.range found.length).filter fun i => decide ((d : Int) % D.getD i 0 = 0)).map (fun i => found.getD i 0) = (l.filter fun e => decide (d % e = 0)).map g := by
  subst h2
  have e : l = (List.range l.length).map fun j => l.getD j 0 := by
    apply List.ext_getElem?
    intro j
    by_cases hj : j < l.length
    · rw [List.getElem?_map, List.getElem?_range hj, List.getElem?_eq_getElem hj]
      show _ = some (l.getD j 0)
      rw [List.getD_eq_getElem?_getD, List.getElem?_eq_getElem hj]
      rfl
    · rw [List.getElem?_eq_none (by omega), List.getElem?_eq_none (by rw [List.length_map, List.length_range]; omega)]
  have e2 : (l.filter fun e => decide (d % e = 0)).map g = ((((List.range l.length).map fun j => l.getD j 0)).filter fun e => decide (d % e = 0)).map g := by rw [← e]
  rw [e2, List.filter_map, List.map_map, List.length_map]
  have e3 : (List.range l.length).filter (fun i => decide ((d : Int) % D.getD i 0 = 0)) = (List.range l.length).filter ((fun e => decide (d % e = 0)) ∘ fun j => l.getD j 0) := by
    apply List.filter_congr
    intro j hj
    rw [List.mem_range] at hj
    rw [h1 j hj]
    show decide ((d : Int) % ((l.getD j 0 : Nat) : Int) = 0) = decide (d % l.getD j 0 = 0)
    rw [← Int.natCast_emod, Bool.eq_iff_iff, decide_eq_true_eq, decide_eq_true_eq]
    omega
  rw [e3]
  apply List.map_congr_left
  intro j hj
  have hj := List.mem_range.mp (List.mem_filter.mp hj).1
  show (l.map g).getD j 0 = g (l.getD j 0)
  rw [List.getD_eq_getElem?_getD, List.getElem?_map, List.getElem?_eq_getElem hj, List.getD_eq_getElem?_getD, List.getElem?_eq_getElem hj]
  rfl
theorem sum_cast (g : Nat → Nat) : ∀ l : List Nat, (l.map fun e => (g e : Int)).sum = ((l.map g).sum : Int)
  | [] => rfl
  | e :: l => by rw [List.map_cons, List.sum_cons, sum_cast g l, List.map_cons, List.sum_cons, Int.natCast_add]
theorem cyc_take (n k : Nat) (hn : 1 ≤ n) : ∀ i, i ≤ (Dv n).length → ((Dv n).take i).foldl (cycStep k ((Dv n).map fun (d : Nat) => (d : Int))) [] = ((Dv n).take i).map fun e => (J k e : Int)
  | 0, _ => rfl
  | i + 1, hi => by
    have hlt : i < (Dv n).length := hi
    have hg : (Dv n)[i]? = some (Dv n)[i] := List.getElem?_eq_getElem hlt
    have hmem := List.getElem_mem hlt
    have hsplit : Dv n = (Dv n).take i ++ (Dv n)[i] :: (Dv n).drop (i + 1) := by
      rw [List.getElem_cons_drop, List.take_append_drop]
    have hsort := Dv_sorted n
    have hgj : ∀ j, j < ((Dv n).take i).length → ((Dv n).map fun (d : Nat) => (d : Int)).getD j 0 = ((((Dv n).take i).getD j 0 : Nat) : Int) := by
      intro j hj
      rw [List.length_take] at hj
      rw [List.getD_eq_getElem?_getD, List.getElem?_map, List.getD_eq_getElem?_getD, List.getElem?_take_of_lt (by omega), List.getElem?_eq_getElem (by omega)]
      rfl
    generalize (Dv n)[i] = d at hg hmem hsplit
    have hd := (mem_Dv' hn).mp hmem
    have hd1 := Nat.pos_of_dvd_of_pos hd hn
    rw [List.take_add_one, hg, Option.toList_some, List.foldl_append, cyc_take n k hn i (by omega), List.map_append]
    show cycStep k _ _ d = _
    unfold cycStep
    congr 1
    show [_] = [_]
    congr 1
    unfold lessF
    rw [pick (l := (Dv n).take i) (g := fun e => (J k e : Int)) d hgj rfl, sum_cast]
    have pm : (Dv d).Perm ((((Dv n).take i).filter fun e => decide (d % e = 0)) ++ [d]) := by
      rw [hsplit] at hsort
      obtain ⟨s1, s2, s3⟩ := List.pairwise_append.mp hsort
      rw [List.perm_ext_iff_of_nodup (Dv_nodup d)]
      · intro e
        rw [mem_Dv' hd1, List.mem_append, List.mem_filter, List.mem_singleton, decide_eq_true_eq]
        constructor
        · intro he
          by_cases hed : e = d
          · exact .inr hed
          · have hle := Nat.le_of_dvd hd1 he
            have hen : e ∈ Dv n := (mem_Dv' hn).mpr (Nat.dvd_trans he hd)
            rw [hsplit, List.mem_append, List.mem_cons] at hen
            rcases hen with h | h | h
            · exact .inl ⟨h, Nat.mod_eq_zero_of_dvd he⟩
            · exact absurd h hed
            · have := (List.pairwise_cons.mp s2).1 e h
              omega
        · rintro (⟨_, h⟩ | rfl)
          · exact Nat.dvd_of_mod_eq_zero h
          · exact Nat.dvd_refl _
      · rw [List.nodup_append]
        refine ⟨(List.Pairwise.filter _ s1).imp fun h => Nat.ne_of_lt h, List.pairwise_singleton _ _, ?_⟩
        intro x hx y hy hxy
        have h1 := s3 x (List.mem_filter.mp hx).1 d (by simp)
        rw [List.mem_singleton] at hy
        omega
    have hs := Sg_eq k d hd1
    unfold Sg at hs
    rw [(pm.map (J k)).sum_nat, List.map_append, List.sum_append_nat] at hs
    have e1 : ([d].map (J k)).sum = J k d := by show J k d + 0 = _; omega
    rw [e1] at hs
    show ((d ^ k : Nat) : Int) - _ = ((J k d : Nat) : Int)
    rw [← hs]
    omega
theorem cyc_eq (n k : Nat) (hn : 1 ≤ n) : cycN n k = (J k n : Int) := by
  have h1 := cyc_take n k hn _ (Nat.le_refl _)
  rw [List.take_length] at h1
  have h2 : Dv n = ((List.range n).filter fun d => d != 0 && n % d == 0) ++ [n] := by
    unfold Dv
    rw [List.range_succ, List.filter_append]
    congr 1
    have : (n != 0 && n % n == 0) = true := by
      rw [Nat.mod_self]
      simp
      omega
    exact List.filter_cons_of_pos this
  unfold cycN cycAll
  rw [h1, h2, List.map_append]
  exact List.getLastD_concat ..
/-! ### the program's count -/
theorem cg_fold (n k : Nat) (hk : 1 ≤ k) : ∀ (l : List Nat) (f : Nat), (∀ p ∈ l, n % p = 0) → l.foldlM (cgP [n] k) f = some (l.foldl (fun f p => f / p ^ k * (p ^ k - 1)) f)
  | [], f, _ => rfl
  | p :: l, f, h => by
    have hp : n % p = 0 := h p (by simp)
    have e : cgP [n] k f p = some (f / p ^ k * (p ^ k - 1)) := by
      unfold cgP
      have : ([n].filter fun d => d % p == 0).length = 1 := by
        rw [List.filter_cons_of_pos (by rw [hp]; rfl)]
        rfl
      simp only [this]
      rw [if_neg (by omega)]
      show some (cgStep p k 1 f 0) = _
      unfold cgStep
      rw [Nat.add_zero, Nat.sub_add_cancel hk]
    rw [List.foldlM_cons, e]
    exact cg_fold n k hk l _ fun q hq => h q (List.mem_cons_of_mem _ hq)
theorem cg_one (n k : Nat) (hn : 2 ≤ n) : cg [n] k = J k n := by
  have hs := primes_spec (n := n) (by omega)
  have e1 : lastN [n] = n := rfl
  have e2 : prodN [n] = n := Nat.one_mul n
  unfold cg
  rw [e1, e2]
  by_cases hk : 1 ≤ k
  · rw [cg_fold n k hk _ _ fun p hp => Nat.mod_eq_zero_of_dvd ((hs.2 p).mp hp).2]
    rfl
  · have : k = 0 := by omega
    subst this
    have hj := J_spec 0 (n := n) (by omega)
    have hq := Qp_pos 0 (primesN n) fun q hq => ((hs.2 q).mp hq).1
    obtain ⟨p, hp, hpn⟩ := exists_pr n hn
    have hm := (hs.2 p).mpr ⟨hp, hpn⟩
    cases hl : primesN n with
    | nil => rw [hl] at hm; cases hm
    | cons q l =>
      have hqm : n % q = 0 := Nat.mod_eq_zero_of_dvd ((hs.2 q).mp (by rw [hl]; simp)).2
      have er : Rp 0 (primesN n) = 0 := by
        rw [hl]
        have e9 : Rp 0 (q :: l) = (q ^ 0 - 1) * Rp 0 l := List.prod_cons
        rw [e9, Nat.pow_zero, Nat.sub_self, Nat.zero_mul]
      rw [er, Nat.mul_zero] at hj
      have ej : J 0 n = 0 := by
        rcases Nat.mul_eq_zero.mp hj with h | h
        · exact h
        · omega
      rw [ej, List.foldlM_cons]
      have e : cgP [n] 0 (n ^ 0) q = none := by
        unfold cgP
        have : ([n].filter fun d => d % q == 0).length = 1 := by
          rw [List.filter_cons_of_pos (by rw [hqm]; rfl)]
          rfl
        simp only [this]
        rfl
      rw [e]
      rfl
theorem low3 : Low3 := fun n k h2 _ _ => by rw [cg_one n k h2, cyc_eq n k (by omega)]
end K55

namespace K55
open PySem PySem.Spec PyProof.Rows L2 Lw
theorem script_in {K : PySem.W.Frag} {H : Hp} {a : Addr} (ns : List Int) (hl : ns.length ≤ 63) (hS : SqL K H a (ns.map V.int)) {E : XK} : spP K R_law [.ref a] H (fun v _ => v = .bl true) E :=
  ⟨fun _ => False, [.scr ns], .bl true, fun _ h => h.elim, .cons (.scr (hS.elim (fun h => .inl ⟨id, h⟩) fun h => .inr fun _ => .inr h)) .nil, ⟨ns, rfl, by omega, rfl⟩, fun _ _ _ rv => rv.bl_inv⟩
/-! ### what the top has written; the law's own head -/
theorem all_mk {l : PySem.W.OpenLaw} {w : World} {K : PySem.W.Frag} {h : Heap} {mg : Str → Option Value} {fa f0 f1 f2 f3 f4 f5 f6 f7 f8 f9 f10 : Addr} (X : K.In h) (G : h.Ns mainGlobals mg) (hfa : mg "law" = some (.ref fa))
    {od0 od1 od2 od3 od4 od5 od6 od7 od8 od9 od10 an0 an1 an2 an3 an4 an5 an6 an7 an8 an9 an10 : Option Addr} {sl0 sl1 sl2 sl3 sl4 sl5 sl6 sl7 sl8 sl9 sl10 : Array (Option Value)} {oc0 oc1 oc2 oc3 oc4 oc5 oc6 oc7 oc8 oc9 oc10 kV0 kV1 kV2 kV3 kV4 kV5 kV6 kV7 kV8 kV9 kV10 dc0 dc1 dc2 dc3 dc4 dc5 dc6 dc7 dc8 dc9 dc10 pm0 pm1 pm2 pm3 pm4 pm5 pm6 pm7 pm8 pm9 pm10 cd0 cd1 cd2 cd3 cd4 cd5 cd6 cd7 cd8 cd9 cd10 ct0 ct1 ct2 ct3 ct4 ct5 ct6 ct7 ct8 ct9 ct10 : Value}
    (a0 : PySem.W.nsIn K mainGlobals "product" = some (some (.ref f0))) (l0 : K.lookup f0 = some ⟨oc0, od0, .func (PySem.W.fnOf "product" "product" (defArgs s_product) (defBody s_product) (defScope s_product) .none kV0 dc0 pm0 an0 cd0 ct0), sl0⟩) (c0 : PySem.W.codeIn K cd0 "product" = true) (k0 : PySem.W.keepIn K (.ref f0) = true)
    (a1 : PySem.W.nsIn K mainGlobals "primes_of" = some (some (.ref f1))) (l1 : K.lookup f1 = some ⟨oc1, od1, .func (PySem.W.fnOf "primes_of" "primes_of" (defArgs s_primes_of) (defBody s_primes_of) (defScope s_primes_of) .none kV1 dc1 pm1 an1 cd1 ct1), sl1⟩) (c1 : PySem.W.codeIn K cd1 "primes_of" = true) (k1 : PySem.W.keepIn K (.ref f1) = true)
    (a2 : PySem.W.nsIn K mainGlobals "count_generating" = some (some (.ref f2))) (l2 : K.lookup f2 = some ⟨oc2, od2, .func (PySem.W.fnOf "count_generating" "count_generating" (defArgs s_count_generating) (defBody s_count_generating) (defScope s_count_generating) .none kV2 dc2 pm2 an2 cd2 ct2), sl2⟩) (c2 : PySem.W.codeIn K cd2 "count_generating" = true) (k2 : PySem.W.keepIn K (.ref f2) = true)
    (a3 : PySem.W.nsIn K mainGlobals "_law_deal" = some (some (.ref f3))) (l3 : K.lookup f3 = some ⟨oc3, od3, .func (PySem.W.fnOf "_law_deal" "_law_deal" (defArgs s_law_deal) (defBody s_law_deal) (defScope s_law_deal) .none kV3 dc3 pm3 an3 cd3 ct3), sl3⟩) (c3 : PySem.W.codeIn K cd3 "_law_deal" = true) (k3 : PySem.W.keepIn K (.ref f3) = true)
    (a4 : PySem.W.nsIn K mainGlobals "_law_draw" = some (some (.ref f4))) (l4 : K.lookup f4 = some ⟨oc4, od4, .func (PySem.W.fnOf "_law_draw" "_law_draw" (defArgs s_law_draw) (defBody s_law_draw) (defScope s_law_draw) .none kV4 dc4 pm4 an4 cd4 ct4), sl4⟩) (c4 : PySem.W.codeIn K cd4 "_law_draw" = true) (k4 : PySem.W.keepIn K (.ref f4) = true)
    (a5 : PySem.W.nsIn K mainGlobals "_law_power" = some (some (.ref f5))) (l5 : K.lookup f5 = some ⟨oc5, od5, .func (PySem.W.fnOf "_law_power" "_law_power" (defArgs s_law_power) (defBody s_law_power) (defScope s_law_power) .none kV5 dc5 pm5 an5 cd5 ct5), sl5⟩) (c5 : PySem.W.codeIn K cd5 "_law_power" = true) (k5 : PySem.W.keepIn K (.ref f5) = true)
    (a6 : PySem.W.nsIn K mainGlobals "_law_elements" = some (some (.ref f6))) (l6 : K.lookup f6 = some ⟨oc6, od6, .func (PySem.W.fnOf "_law_elements" "_law_elements" (defArgs s_law_elements) (defBody s_law_elements) (defScope s_law_elements) .none kV6 dc6 pm6 an6 cd6 ct6), sl6⟩) (c6 : PySem.W.codeIn K cd6 "_law_elements" = true) (k6 : PySem.W.keepIn K (.ref f6) = true)
    (a7 : PySem.W.nsIn K mainGlobals "_law_generated" = some (some (.ref f7))) (l7 : K.lookup f7 = some ⟨oc7, od7, .func (PySem.W.fnOf "_law_generated" "_law_generated" (defArgs s_law_generated) (defBody s_law_generated) (defScope s_law_generated) .none kV7 dc7 pm7 an7 cd7 ct7), sl7⟩) (c7 : PySem.W.codeIn K cd7 "_law_generated" = true) (k7 : PySem.W.keepIn K (.ref f7) = true)
    (a8 : PySem.W.nsIn K mainGlobals "_law_counted" = some (some (.ref f8))) (l8 : K.lookup f8 = some ⟨oc8, od8, .func (PySem.W.fnOf "_law_counted" "_law_counted" (defArgs s_law_counted) (defBody s_law_counted) (defScope s_law_counted) .none kV8 dc8 pm8 an8 cd8 ct8), sl8⟩) (c8 : PySem.W.codeIn K cd8 "_law_counted" = true) (k8 : PySem.W.keepIn K (.ref f8) = true)
    (a9 : PySem.W.nsIn K mainGlobals "_law_cyclic" = some (some (.ref f9))) (l9 : K.lookup f9 = some ⟨oc9, od9, .func (PySem.W.fnOf "_law_cyclic" "_law_cyclic" (defArgs s_law_cyclic) (defBody s_law_cyclic) (defScope s_law_cyclic) .none kV9 dc9 pm9 an9 cd9 ct9), sl9⟩) (c9 : PySem.W.codeIn K cd9 "_law_cyclic" = true) (k9 : PySem.W.keepIn K (.ref f9) = true)
    (a10 : PySem.W.nsIn K mainGlobals "law" = some (some (.ref f10))) (l10 : K.lookup f10 = some ⟨oc10, od10, .func (PySem.W.fnOf "law" "law" (defArgs s_law) (defBody s_law) (defScope s_law) .none kV10 dc10 pm10 an10 cd10 ct10), sl10⟩) (c10 : PySem.W.codeIn K cd10 "law" = true) (k10 : PySem.W.keepIn K (.ref f10) = true)
    (z_range : PySem.W.nsIn K mainGlobals "range" = some none) (z_len : PySem.W.nsIn K mainGlobals "len" = some none) (z_abs : PySem.W.nsIn K mainGlobals "abs" = some none) (z_int : PySem.W.nsIn K mainGlobals "int" = some none) (z_tuple : PySem.W.nsIn K mainGlobals "tuple" = some none) (z_dict : PySem.W.nsIn K mainGlobals "dict" = some none) (z_zip : PySem.W.nsIn K mainGlobals "zip" = some none) (z_sorted : PySem.W.nsIn K mainGlobals "sorted" = some none) (z_set : PySem.W.nsIn K mainGlobals "set" = some none) (z_sum : PySem.W.nsIn K mainGlobals "sum" = some none) (z_enumerate : PySem.W.nsIn K mainGlobals "enumerate" = some none) :
    ∃ fd : FuncData, (∀ (s : Shared) (v : Value), BindsTo s fd ⟨[v], []⟩ [("_law_script", v)]) ∧ ∀ base : Heap, K.In base → base.Ns mainGlobals mg → FnOk l.prog w K mg base CX0 3 fa fd ["_law_script"] (spP K R_law) := by
  have e := hfa.symm.trans (PySem.W.mg_of X G a10)
  cases e
  have F0 := fun_mk (st := s_product) l0 c0 k0
  have b0 := F0.binds (ps := ["numbers"]) fun _ _ _ _ _ _ us hl => match us, hl with | [_], _ => rfl
  have F1 := fun_mk (st := s_primes_of) l1 c1 k1
  have b1 := F1.binds (ps := ["number"]) fun _ _ _ _ _ _ us hl => match us, hl with | [_], _ => rfl
  have F2 := fun_mk (st := s_count_generating) l2 c2 k2
  have b2 := F2.binds (ps := ["divisors", "many"]) fun _ _ _ _ _ _ us hl => match us, hl with | [_, _], _ => rfl
  have F3 := fun_mk (st := s_law_deal) l3 c3 k3
  have b3 := F3.binds (ps := ["_law_script", "_law_base"]) fun _ _ _ _ _ _ us hl => match us, hl with | [_, _], _ => rfl
  have F4 := fun_mk (st := s_law_draw) l4 c4 k4
  have b4 := F4.binds (ps := ["_law_deal_here", "_law_many"]) fun _ _ _ _ _ _ us hl => match us, hl with | [_, _], _ => rfl
  have F5 := fun_mk (st := s_law_power) l5 c5 k5
  have b5 := F5.binds (ps := ["_law_number", "_law_many"]) fun _ _ _ _ _ _ us hl => match us, hl with | [_, _], _ => rfl
  have F6 := fun_mk (st := s_law_elements) l6 c6 k6
  have b6 := F6.binds (ps := ["_law_orders"]) fun _ _ _ _ _ _ us hl => match us, hl with | [_], _ => rfl
  have F7 := fun_mk (st := s_law_generated) l7 c7 k7
  have b7 := F7.binds (ps := ["_law_orders", "_law_some"]) fun _ _ _ _ _ _ us hl => match us, hl with | [_, _], _ => rfl
  have F8 := fun_mk (st := s_law_counted) l8 c8 k8
  have b8 := F8.binds (ps := ["_law_orders", "_law_many"]) fun _ _ _ _ _ _ us hl => match us, hl with | [_, _], _ => rfl
  have F9 := fun_mk (st := s_law_cyclic) l9 c9 k9
  have b9 := F9.binds (ps := ["_law_order", "_law_many"]) fun _ _ _ _ _ _ us hl => match us, hl with | [_, _], _ => rfl
  have F10 := fun_mk (st := s_law) l10 c10 k10
  have y_range := PySem.W.mg_none_of X G z_range
  have y_len := PySem.W.mg_none_of X G z_len
  have y_abs := PySem.W.mg_none_of X G z_abs
  have y_int := PySem.W.mg_none_of X G z_int
  have y_tuple := PySem.W.mg_none_of X G z_tuple
  have y_dict := PySem.W.mg_none_of X G z_dict
  have y_zip := PySem.W.mg_none_of X G z_zip
  have y_sorted := PySem.W.mg_none_of X G z_sorted
  have y_set := PySem.W.mg_none_of X G z_set
  have y_sum := PySem.W.mg_none_of X G z_sum
  have y_enumerate := PySem.W.mg_none_of X G z_enumerate
  have m0 := PySem.W.mg_of X G a0
  have m1 := PySem.W.mg_of X G a1
  have m2 := PySem.W.mg_of X G a2
  have m3 := PySem.W.mg_of X G a3
  have m4 := PySem.W.mg_of X G a4
  have m5 := PySem.W.mg_of X G a5
  have m6 := PySem.W.mg_of X G a6
  have m7 := PySem.W.mg_of X G a7
  have m8 := PySem.W.mg_of X G a8
  have m9 := PySem.W.mg_of X G a9
  have m10 := PySem.W.mg_of X G a10
  refine ⟨PySem.W.fnOf "law" "law" (defArgs s_law) (defBody s_law) (defScope s_law) .none kV10 dc10 pm10 an10 cd10 ct10, fun s v => .of_eq rfl, fun base _ _ => ?_⟩
  have G0 := ok_product (P := l.prog) (w := w) (base := base) (mg := mg) (k := 0) F0
  have G1 := ok_primes (P := l.prog) (w := w) (base := base) (mg := mg) (k := 0) F1
  have G2 := ok_cg (P := l.prog) (w := w) (base := base) (mg := mg) (k := 1) F2 y_range y_len (G0.mono (by decide)) m0 F0.kp b0 (G1.mono (by decide)) m1 F1.kp b1
  have G3 := ok_deal (P := l.prog) (w := w) (base := base) (mg := mg) (k := 0) F3 y_abs y_int
  have G4 := ok_draw (P := l.prog) (w := w) (base := base) (mg := mg) (k := 0) F4 y_len y_int
  have G5 := ok_power (P := l.prog) (w := w) (base := base) (mg := mg) (k := 0) F5 y_range
  have G6 := ok_elem (P := l.prog) (w := w) (base := base) (mg := mg) (k := 0) F6 y_range
  have G7 := ok_gen (P := l.prog) (w := w) (base := base) (mg := mg) (k := 0) F7 y_len y_int y_tuple y_dict y_zip
  have G8 := ok_counted (P := l.prog) (w := w) (base := base) (mg := mg) (k := 1) F8 y_len y_range (G6.mono (by decide)) m6 F6.kp b6 (G7.mono (by decide)) m7 F7.kp b7
  have G9 := ok_cyclic (P := l.prog) (w := w) (base := base) (mg := mg) (k := 1) F9 y_len y_range y_int y_sorted y_set y_sum y_enumerate (G5.mono (by decide)) m5 F5.kp b5
  exact ok_law (P := l.prog) (w := w) (base := base) (mg := mg) (k := 2) F10 y_len y_range y_tuple low1 low2 low3 (G3.mono (by decide)) m3 F3.kp b3 (G4.mono (by decide)) m4 F4.kp b4 (G5.mono (by decide)) m5 F5.kp b5 (G2.mono (by decide)) m2 F2.kp b2 (G8.mono (by decide)) m8 F8.kp b8 (G9.mono (by decide)) m9 F9.kp b9
end K55
open PySem PySem.W PyProof.Rows
set_option maxHeartbeats 0 in
theorem PySem.Challenge.cw_addalong_k55_generating_tuples_counted_holds : PySem.Challenge.rw_addalong_k55_generating_tuples_counted.Holds := by
  w_on; o_law; k_head; (case hw => w_witness2)
  k_fill
  refine L2.walk_of (l := PySem.Challenge.rw_addalong_k55_generating_tuples_counted) (n := 63) (k := 3) (x := "_law_script") (CX := fun _ => L2.CX0) (sp := fun w => Lw.spP _ K55.R_law) rfl (by decide) rfl ⟨rfl, by decide, by decide⟩ (fun w h Y => PySem.W.kIn_of Y) ?F (fun _ _ a ns hl _ hS => K55.script_in ns hl hS) (fun _ _ _ _ _ h => h)
  case F =>
    intro w mg fa h KX G hmg
    refine' K55.all_mk KX G hmg ?a0 ?l0 ?c0 ?k0 ?a1 ?l1 ?c1 ?k1 ?a2 ?l2 ?c2 ?k2 ?a3 ?l3 ?c3 ?k3 ?a4 ?l4 ?c4 ?k4 ?a5 ?l5 ?c5 ?k5 ?a6 ?l6 ?c6 ?k6 ?a7 ?l7 ?c7 ?k7 ?a8 ?l8 ?c8 ?k8 ?a9 ?l9 ?c9 ?k9 ?a10 ?l10 ?c10 ?k10 ?z_range ?z_len ?z_abs ?z_int ?z_tuple ?z_dict ?z_zip ?z_sorted ?z_set ?z_sum ?z_enumerate
    (case a0 => k_is)
    (case l0 => k_is)
    (case c0 => k_is)
    (case k0 => k_is)
    (case a1 => k_is)
    (case l1 => k_is)
    (case c1 => k_is)
    (case k1 => k_is)
    (case a2 => k_is)
    (case l2 => k_is)
    (case c2 => k_is)
    (case k2 => k_is)
    (case a3 => k_is)
    (case l3 => k_is)
    (case c3 => k_is)
    (case k3 => k_is)
    (case a4 => k_is)
    (case l4 => k_is)
    (case c4 => k_is)
    (case k4 => k_is)
    (case a5 => k_is)
    (case l5 => k_is)
    (case c5 => k_is)
    (case k5 => k_is)
    (case a6 => k_is)
    (case l6 => k_is)
    (case c6 => k_is)
    (case k6 => k_is)
    (case a7 => k_is)
    (case l7 => k_is)
    (case c7 => k_is)
    (case k7 => k_is)
    (case a8 => k_is)
    (case l8 => k_is)
    (case c8 => k_is)
    (case k8 => k_is)
    (case a9 => k_is)
    (case l9 => k_is)
    (case c9 => k_is)
    (case k9 => k_is)
    (case a10 => k_is)
    (case l10 => k_is)
    (case c10 => k_is)
    (case k10 => k_is)
    (case z_range => k_is)
    (case z_len => k_is)
    (case z_abs => k_is)
    (case z_int => k_is)
    (case z_tuple => k_is)
    (case z_dict => k_is)
    (case z_zip => k_is)
    (case z_sorted => k_is)
    (case z_set => k_is)
    (case z_sum => k_is)
    (case z_enumerate => k_is)

