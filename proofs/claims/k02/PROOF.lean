import PyProof.Rows.All
import Wide.All
import OpenK.AllK
import Wide.FinOn
import HandS.ForMost
import HandS.IsInst
import HandS.TupLe
import HandS.Defaults
import HandS.Wide
import HandS.Star
import HandS.DictComp
import HandS.Flow
import HandS.Style
import HandS.Walk
import HandS.NoneIn
import HandS.Zip
import HandS.Codes
import HandS.Text
import HandS.TupAny
import HandS.WordsExc
import HandS.HeadHook4
import HandS.MakeKwOnly
import HandS.Head0
import HandS.Head1
import HandS.Head2
import HandS.HeadEnd
import PySem.Challenge.RW_nearboughs_k02_labels_known
section PART_NB1
set_option Elab.async false
set_option linter.all false
set_option maxRecDepth 100000
set_option maxHeartbeats 4000000
set_option autoImplicit false
/-! NB1: data that stand in the heap and never change; evaluation over data alone. -/
namespace NB
open PySem PySem.Spec PyProof.Rows L2
abbrev St : Type := L2.St

/-- data -/
inductive D where
  | non | bl (b : Bool) | int (i : Int) | str (x : Str) | ty (n : String) | loc (a : Addr)
  | tup (xs : List D) | lst (xs : List D)
  | dK (kvs : List (Key × D)) | dT (kvs : List (List Key × D))
  | obj (C : Addr) (fs : List (Str × D))

mutual
inductive Is (K : PySem.W.Frag) (H : Hp) : V → D → Prop
  | non : Is K H .non .non
  | bl (b : Bool) : Is K H (.bl b) (.bl b)
  | int (i : Int) : Is K H (.int i) (.int i)
  | str (x : Str) : Is K H (.str x) (.str x)
  | ty (n : String) : Is K H (.ty n) (.ty n)
  | loc (a : Addr) : Is K H (.ref a) (.loc a)
  | tup {a : Addr} {vs : List V} {ds : List D} : SqT K H a vs → Iss K H vs ds → Is K H (.ref a) (.tup ds)
  | lst {a : Addr} {vs : List V} {ds : List D} : H a = some (.lst vs) → Iss K H vs ds → Is K H (.ref a) (.lst ds)
  | dK {a : Addr} {kvs : List (Key × V)} {ds : List (Key × D)} : Rd H a (.dK kvs) → kvs.map (·.1) = ds.map (·.1) → Iss K H (kvs.map (·.2)) (ds.map (·.2)) → Is K H (.ref a) (.dK ds)
  | dT {a : Addr} {kvs : List (List Key × V)} {ds : List (List Key × D)} : Rd H a (.dT kvs) → kvs.map (·.1) = ds.map (·.1) → Iss K H (kvs.map (·.2)) (ds.map (·.2)) → Is K H (.ref a) (.dT ds)
  | obj {a C dx : Addr} {fs : List (Str × V)} {ds : List (Str × D)} : H a = some (.ins C dx fs) → fs.map (·.1) = ds.map (·.1) → Iss K H (fs.map (·.2)) (ds.map (·.2)) → Is K H (.ref a) (.obj C ds)
inductive Iss (K : PySem.W.Frag) (H : Hp) : List V → List D → Prop
  | nil : Iss K H [] []
  | cons {v : V} {d : D} {vs : List V} {ds : List D} : Is K H v d → Iss K H vs ds → Iss K H (v :: vs) (d :: ds)
end

section
variable {K : PySem.W.Frag} {H H' : Hp}
theorem Rd.ex {a : Addr} {u : HO} (e : ∀ a o, H a = some o → H' a = some o) (h : Rd H a u) : Rd H' a u := by
  rcases h with h | ⟨o, h⟩
  · exact .inl (e _ _ h)
  · exact .inr ⟨o, e _ _ h⟩
theorem sqL_ex {a : Addr} {xs : List V} (e : ∀ a o, H a = some o → H' a = some o) (h : SqL K H a xs) : SqL K H' a xs := by
  rcases h with h | h
  · exact .inl (Rd.ex e h)
  · exact .inr h
theorem sqT_ex {a : Addr} {xs : List V} (e : ∀ a o, H a = some o → H' a = some o) (h : SqT K H a xs) : SqT K H' a xs := by
  rcases h with h | h
  · exact .inl (Rd.ex e h)
  · exact .inr h
mutual
theorem Is.ex (e : ∀ a o, H a = some o → H' a = some o) : ∀ {v : V} {d : D}, Is K H v d → Is K H' v d
  | _, _, .non => .non
  | _, _, .bl b => .bl b
  | _, _, .int i => .int i
  | _, _, .str x => .str x
  | _, _, .ty n => .ty n
  | _, _, .loc a => .loc a
  | _, _, .tup h t => .tup (sqT_ex e h) (Iss.ex e t)
  | _, _, .lst h t => .lst (e _ _ h) (Iss.ex e t)
  | _, _, .dK h k t => .dK (Rd.ex e h) k (Iss.ex e t)
  | _, _, .dT h k t => .dT (Rd.ex e h) k (Iss.ex e t)
  | _, _, .obj h k t => .obj (e _ _ h) k (Iss.ex e t)
theorem Iss.ex (e : ∀ a o, H a = some o → H' a = some o) : ∀ {vs : List V} {ds : List D}, Iss K H vs ds → Iss K H' vs ds
  | _, _, .nil => .nil
  | _, _, .cons h t => .cons (Is.ex e h) (Iss.ex e t)
end
theorem Iss.length : ∀ {vs : List V} {ds : List D}, Iss K H vs ds → vs.length = ds.length
  | _, _, .nil => rfl
  | _, _, .cons _ t => congrArg (· + 1) (Iss.length t)
theorem Iss.get : ∀ {vs : List V} {ds : List D} {i : Nat} {d : D}, Iss K H vs ds → ds[i]? = some d → ∃ v, vs[i]? = some v ∧ Is K H v d
  | _, _, _, _, .nil, e => by simp at e
  | _, _, 0, _, .cons h _, e => by
    simp at e
    subst e
    exact ⟨_, rfl, h⟩
  | _, _, i + 1, _, .cons _ t, e => by
    obtain ⟨v, h1, h2⟩ := Iss.get (i := i) t (by simpa using e)
    exact ⟨v, by simpa using h1, h2⟩
theorem Iss.getV : ∀ {vs : List V} {ds : List D} {i : Nat} {v : V}, Iss K H vs ds → vs[i]? = some v → ∃ d, ds[i]? = some d ∧ Is K H v d
  | _, _, _, _, .nil, e => by simp at e
  | _, _, 0, _, .cons h _, e => by
    simp at e
    subst e
    exact ⟨_, rfl, h⟩
  | _, _, i + 1, _, .cons _ t, e => by
    obtain ⟨v, h1, h2⟩ := Iss.getV (i := i) t (by simpa using e)
    exact ⟨v, by simpa using h1, h2⟩
theorem Iss.append : ∀ {vs ws : List V} {ds es : List D}, Iss K H vs ds → Iss K H ws es → Iss K H (vs ++ ws) (ds ++ es)
  | _, _, _, _, .nil, t => t
  | _, _, _, _, .cons h s, t => .cons h (Iss.append s t)
theorem Iss.take : ∀ {vs : List V} {ds : List D} (n : Nat), Iss K H vs ds → Iss K H (vs.take n) (ds.take n)
  | _, _, 0, _ => .nil
  | _, _, _ + 1, .nil => .nil
  | _, _, n + 1, .cons h t => .cons h (Iss.take n t)
theorem Iss.drop : ∀ {vs : List V} {ds : List D} (n : Nat), Iss K H vs ds → Iss K H (vs.drop n) (ds.drop n)
  | _, _, 0, h => h
  | _, _, _ + 1, .nil => .nil
  | _, _, n + 1, .cons _ t => Iss.drop n t
theorem Iss.set : ∀ {vs : List V} {ds : List D} (i : Nat) {v : V} {d : D}, Is K H v d → Iss K H vs ds → Iss K H (vs.set i v) (ds.set i d)
  | _, _, _, _, _, _, .nil => .nil
  | _, _, 0, _, _, h, .cons _ t => .cons h t
  | _, _, i + 1, _, _, h, .cons q t => .cons q (Iss.set i h t)
theorem Iss.reverse : ∀ {vs : List V} {ds : List D}, Iss K H vs ds → Iss K H vs.reverse ds.reverse
  | _, _, .nil => .nil
  | _, _, .cons h t => by
    rw [List.reverse_cons, List.reverse_cons]
    exact Iss.append (Iss.reverse t) (.cons h .nil)
theorem Iss.replicate {v : V} {d : D} (h : Is K H v d) : ∀ n : Nat, Iss K H (List.replicate n v) (List.replicate n d)
  | 0 => .nil
  | n + 1 => .cons h (Iss.replicate h n)
theorem Iss.rep {vs : List V} {ds : List D} (h : Iss K H vs ds) : ∀ n : Nat, Iss K H (List.replicate n vs).flatten (List.replicate n ds).flatten
  | 0 => .nil
  | n + 1 => by
    rw [List.replicate_succ, List.replicate_succ, List.flatten_cons, List.flatten_cons]
    exact Iss.append h (Iss.rep h n)
/-! inversions -/
theorem is_non {v : V} (h : Is K H v .non) : v = .non := by cases h; rfl
theorem is_bl {v : V} {b : Bool} (h : Is K H v (.bl b)) : v = .bl b := by cases h; rfl
theorem is_int {v : V} {i : Int} (h : Is K H v (.int i)) : v = .int i := by cases h; rfl
theorem is_str {v : V} {x : Str} (h : Is K H v (.str x)) : v = .str x := by cases h; rfl
theorem is_ty {v : V} {n : String} (h : Is K H v (.ty n)) : v = .ty n := by cases h; rfl
theorem is_loc {v : V} {a : Addr} (h : Is K H v (.loc a)) : v = .ref a := by cases h; rfl
theorem is_tup {v : V} {ds : List D} (h : Is K H v (.tup ds)) : ∃ a vs, v = .ref a ∧ SqT K H a vs ∧ Iss K H vs ds := by cases h with | tup h t => exact ⟨_, _, rfl, h, t⟩
theorem is_lst {v : V} {ds : List D} (h : Is K H v (.lst ds)) : ∃ a vs, v = .ref a ∧ H a = some (.lst vs) ∧ Iss K H vs ds := by cases h with | lst h t => exact ⟨_, _, rfl, h, t⟩
theorem is_dK {v : V} {ds : List (Key × D)} (h : Is K H v (.dK ds)) : ∃ a kvs, v = .ref a ∧ Rd H a (.dK kvs) ∧ kvs.map (·.1) = ds.map (·.1) ∧ Iss K H (kvs.map (·.2)) (ds.map (·.2)) := by cases h with | dK h k t => exact ⟨_, _, rfl, h, k, t⟩
theorem is_dT {v : V} {ds : List (List Key × D)} (h : Is K H v (.dT ds)) : ∃ a kvs, v = .ref a ∧ Rd H a (.dT kvs) ∧ kvs.map (·.1) = ds.map (·.1) ∧ Iss K H (kvs.map (·.2)) (ds.map (·.2)) := by cases h with | dT h k t => exact ⟨_, _, rfl, h, k, t⟩
theorem is_obj {v : V} {C : Addr} {ds : List (Str × D)} (h : Is K H v (.obj C ds)) : ∃ a dx fs, v = .ref a ∧ H a = some (.ins C dx fs) ∧ fs.map (·.1) = ds.map (·.1) ∧ Iss K H (fs.map (·.2)) (ds.map (·.2)) := by cases h with | obj h k t => exact ⟨_, _, _, rfl, h, k, t⟩
theorem iss_nil {vs : List V} (h : Iss K H vs []) : vs = [] := by cases h; rfl
theorem iss_cons {vs : List V} {d : D} {ds : List D} (h : Iss K H vs (d :: ds)) : ∃ v ws, vs = v :: ws ∧ Is K H v d ∧ Iss K H ws ds := by cases h with | cons h t => exact ⟨_, _, rfl, h, t⟩
end

/-! ### what is hidden, what may change -/
def hid (O : List Addr) (H : Hp) : Hp := fun a => if a ∈ O then none else H a
theorem hid_out {O : List Addr} {H : Hp} {a : Addr} (h : a ∉ O) : hid O H a = H a := if_neg h
theorem hid_some {O : List Addr} {H : Hp} {a : Addr} {o : HO} (h : hid O H a = some o) : a ∉ O ∧ H a = some o := by
  unfold hid at h
  split at h
  · cases h
  · rename_i q
    exact ⟨q, h⟩
theorem hid_nil {H : Hp} : hid [] H = H := by
  funext a
  exact if_neg (by simp)
def Le (M : List Addr) (H H' : Hp) : Prop := ∀ a o, a ∉ M → H a = some o → H' a = some o
theorem Le.refl (M : List Addr) (H : Hp) : Le M H H := fun _ _ _ h => h
theorem Le.trans {M : List Addr} {H H1 H2 : Hp} (a : Le M H H1) (b : Le M H1 H2) : Le M H H2 := fun x o n h => b x o n (a x o n h)
theorem Le.same {M : List Addr} {H H' : Hp} (s : Same H H') : Le M H H' := fun a o _ h => s a o h
theorem hid_le {M O : List Addr} {H H' : Hp} (l : Le M H H') (s : ∀ a ∈ M, a ∈ O) : ∀ a o, hid O H a = some o → hid O H' a = some o := fun a o h => by
  obtain ⟨q, e⟩ := hid_some h
  rw [hid_out q]
  exact l a o (fun m => q (s a m)) e
theorem hid_sub {O O' : List Addr} {H : Hp} (s : ∀ a ∈ O', a ∈ O) : ∀ a o, hid O H a = some o → hid O' H a = some o := fun a o h => by
  obtain ⟨q, e⟩ := hid_some h
  rw [hid_out fun m => q (s a m)]
  exact e
theorem Same.upd {H : Hp} {p : Addr} {o : HO} (h : H p = none) : Same H (upd H p o) := fun a u e => by
  rw [upd_ne (ne_of_none e h)]
  exact e
theorem sqL_hid {K : PySem.W.Frag} {O : List Addr} {H : Hp} {a : Addr} {xs : List V} (h : hid O H a = some (.lst xs)) : SqL K H a xs := .inl (.inl (hid_some h).2)
theorem sqT_hid {K : PySem.W.Frag} {O : List Addr} {H : Hp} {a : Addr} {xs : List V} (h : SqT K (hid O H) a xs) : SqT K H a xs := sqT_ex (fun a o e => (hid_some e).2) h
theorem rd_hid {O : List Addr} {H : Hp} {a : Addr} {u : HO} (h : Rd (hid O H) a u) : Rd H a u := Rd.ex (fun a o e => (hid_some e).2) h

/-- what a walk's text K is, which tracked objects may be changed by what is called, what is kept of them -/
structure Sys where
  K : PySem.W.Frag
  M : List Addr
  T : Hp → Prop
  dep : ∀ H H', (∀ a ∈ M, H' a = H a) → T H → T H'
  live : ∀ H, T H → ∀ a ∈ M, H a ≠ none
theorem Sys.same (S : Sys) (H H' : Hp) (s : Same H H') (t : S.T H) : S.T H' := S.dep H H' (fun a ha => by
  cases e : H a with
  | none => exact absurd e (S.live H t a ha)
  | some o => exact s a o e) t
theorem Sys.upd_own (S : Sys) {H : Hp} {p : Addr} {o : HO} (t : S.T H) (np : p ∉ S.M) : S.T (upd H p o) := S.dep H _ (fun a ha => upd_ne fun z => np (by rw [← z]; exact ha)) t
/-- nothing is changed -/
def S0 (K : PySem.W.Frag) : Sys := ⟨K, [], fun _ => True, fun _ _ _ h => h, fun _ _ a h => absurd h (by simp)⟩

/-- what a slot holds -/
inductive Sl where
  | dat (d : D)
  | own (xs : List D)
  | ownK (kvs : List (Key × D))
  | ownT (kvs : List (List Key × D))
  | ownI (C : Addr) (fs : List (Str × D))
def Sl.isOwn : Sl → Bool
  | .dat _ => false
  | _ => true
/-- what it stands for -/
def Sl.d : Sl → D
  | .dat d => d
  | .own xs => .lst xs
  | .ownK kvs => .dK kvs
  | .ownT kvs => .dT kvs
  | .ownI C fs => .obj C fs
abbrev DEnv := List (Option Sl)
def OwnOk (K : PySem.W.Frag) (O : List Addr) (H : Hp) (l : Addr) : Sl → Prop
  | .dat _ => False
  | .own xs => ∃ vs, H l = some (.lst vs) ∧ Iss K (hid O H) vs xs
  | .ownK kvs => ∃ us, H l = some (.dK us) ∧ us.map (·.1) = kvs.map (·.1) ∧ Iss K (hid O H) (us.map (·.2)) (kvs.map (·.2))
  | .ownT kvs => ∃ us, H l = some (.dT us) ∧ us.map (·.1) = kvs.map (·.1) ∧ Iss K (hid O H) (us.map (·.2)) (kvs.map (·.2))
  | .ownI C fs => ∃ dx us, H l = some (.ins C dx us) ∧ us.map (·.1) = fs.map (·.1) ∧ Iss K (hid O H) (us.map (·.2)) (fs.map (·.2))
/-- a slot's value -/
def SlOk (K : PySem.W.Frag) (O : List Addr) (H : Hp) (v : V) (s : Sl) : Prop := match s with
  | .dat d => Is K (hid O H) v d
  | s => ∃ l, v = .ref l ∧ l ∈ O ∧ OwnOk K O H l s
def OwnAt (ρ : DEnv) (σ : St) (l : Addr) (i : Nat) : Prop := ∃ s, ρ[i]? = some (some s) ∧ s.isOwn = true ∧ σ[i]? = some (some (.ref l))
structure EnvOk (S : Sys) (O : List Addr) (ρ : DEnv) (σ : St) (H : Hp) : Prop where
  len : σ.length = ρ.length
  t : S.T H
  sub : ∀ a ∈ S.M, a ∈ O
  live : ∀ a ∈ O, H a ≠ none
  at_ : ∀ (i : Nat) (s : Sl), ρ[i]? = some (some s) → ∃ v, σ[i]? = some (some v) ∧ SlOk S.K O H v s
  dis : ∀ i j l, OwnAt ρ σ l i → OwnAt ρ σ l j → i = j
  outM : ∀ i l, OwnAt ρ σ l i → l ∉ S.M

theorem OwnOk.le {K : PySem.W.Frag} {M O : List Addr} {H H' : Hp} {l : Addr} {s : Sl} (h : OwnOk K O H l s) (le : Le M H H') (sub : ∀ a ∈ M, a ∈ O) (hl : l ∉ M) : OwnOk K O H' l s := by
  cases s with
  | dat d => exact h
  | own xs =>
    obtain ⟨vs, e, q⟩ := h
    exact ⟨vs, le _ _ hl e, q.ex (hid_le le sub)⟩
  | ownK kvs =>
    obtain ⟨us, e, k, q⟩ := h
    exact ⟨us, le _ _ hl e, k, q.ex (hid_le le sub)⟩
  | ownT kvs =>
    obtain ⟨us, e, k, q⟩ := h
    exact ⟨us, le _ _ hl e, k, q.ex (hid_le le sub)⟩
  | ownI C fs =>
    obtain ⟨dx, us, e, k, q⟩ := h
    exact ⟨dx, us, le _ _ hl e, k, q.ex (hid_le le sub)⟩
theorem EnvOk.le {S : Sys} {O : List Addr} {ρ : DEnv} {σ : St} {H H' : Hp} (I : EnvOk S O ρ σ H) (le : Le S.M H H') (t : S.T H') : EnvOk S O ρ σ H' where
  len := I.len
  t := t
  sub := I.sub
  live := fun a ha e => by
    by_cases m : a ∈ S.M
    · exact S.live _ t a m e
    · cases q : H a with
      | none => exact I.live a ha q
      | some o => rw [le a o m q] at e; cases e
  at_ := fun i s hs => by
    obtain ⟨v, hv, ok⟩ := I.at_ i s hs
    refine ⟨v, hv, ?_⟩
    cases s with
    | dat d => exact Is.ex (hid_le le I.sub) ok
    | own xs =>
      obtain ⟨l, rfl, hl, q⟩ := ok
      exact ⟨l, rfl, hl, q.le le I.sub (I.outM i l ⟨_, hs, rfl, hv⟩)⟩
    | ownK xs =>
      obtain ⟨l, rfl, hl, q⟩ := ok
      exact ⟨l, rfl, hl, q.le le I.sub (I.outM i l ⟨_, hs, rfl, hv⟩)⟩
    | ownT xs =>
      obtain ⟨l, rfl, hl, q⟩ := ok
      exact ⟨l, rfl, hl, q.le le I.sub (I.outM i l ⟨_, hs, rfl, hv⟩)⟩
    | ownI C fs =>
      obtain ⟨l, rfl, hl, q⟩ := ok
      exact ⟨l, rfl, hl, q.le le I.sub (I.outM i l ⟨_, hs, rfl, hv⟩)⟩
  dis := I.dis
  outM := I.outM

/-! ### evaluation over data -/
def Ev (S : Sys) (te : TE) (ρ : DEnv) (Q : D → Prop) : Prop :=
  ∀ O σ H, EnvOk S O ρ σ H → ∀ Qv : VK, (∀ d v H', Le S.M H H' → S.T H' → Is S.K (hid O H') v d → Q d → Qv v H') → te σ H Qv
def EvT (S : Sys) (tt : TT) (ρ : DEnv) (Q : Bool → Prop) : Prop :=
  ∀ O σ H, EnvOk S O ρ σ H → ∀ Qv : Bool → Hp → Prop, (∀ b H', Le S.M H H' → S.T H' → Q b → Qv b H') → tt σ H Qv
def EvA (S : Sys) (ta : TA) (ρ : DEnv) (Q : List D → Prop) : Prop :=
  ∀ O σ H, EnvOk S O ρ σ H → ∀ Qv : List V → Hp → Prop, (∀ ds vs H', Le S.M H H' → S.T H' → Iss S.K (hid O H') vs ds → Q ds → Qv vs H') → ta σ H Qv
def EvO (S : Sys) (to : TO) (ρ : DEnv) (Q : Option Int → Prop) : Prop :=
  ∀ O σ H, EnvOk S O ρ σ H → ∀ Qv : Option Int → Hp → Prop, (∀ o H', Le S.M H H' → S.T H' → Q o → Qv o H') → to σ H Qv
/-- operations by values: nothing that stood is changed -/
def RvR (K : PySem.W.Frag) (r : R2) (x y : D) (Q : D → Prop) : Prop :=
  ∀ O H (v u : V), (∀ a ∈ O, H a ≠ none) → Is K (hid O H) v x → Is K (hid O H) u y → ∀ Qv : VK, (∀ d w H', Same H H' → Is K (hid O H') w d → Q d → Qv w H') → r v u H Qv
def RvU (K : PySem.W.Frag) (r : V → Hp → VK → Prop) (x : D) (Q : D → Prop) : Prop :=
  ∀ O H (v : V), (∀ a ∈ O, H a ≠ none) → Is K (hid O H) v x → ∀ Qv : VK, (∀ d w H', Same H H' → Is K (hid O H') w d → Q d → Qv w H') → r v H Qv
def RvC (K : PySem.W.Frag) (r : List V → Hp → VK → Prop) (xs : List D) (Q : D → Prop) : Prop :=
  ∀ O H (vs : List V), (∀ a ∈ O, H a ≠ none) → Iss K (hid O H) vs xs → ∀ Qv : VK, (∀ d w H', Same H H' → Is K (hid O H') w d → Q d → Qv w H') → r vs H Qv

section
variable {S : Sys} {ρ : DEnv} {ta tb te : TE} {tt tu : TT} {Q : D → Prop} {Qb : Bool → Prop}
theorem Ev.imp {Q' : D → Prop} (h : Ev S te ρ Q) (q : ∀ d, Q d → Q' d) : Ev S te ρ Q' := fun O σ H I Qv k => h O σ H I Qv fun d v H' l t i c => k d v H' l t i (q d c)
theorem EvT.imp {Q' : Bool → Prop} (h : EvT S tt ρ Qb) (q : ∀ b, Qb b → Q' b) : EvT S tt ρ Q' := fun O σ H I Qv k => h O σ H I Qv fun b H' l t c => k b H' l t (q b c)
theorem EvA.imp {ta : TA} {Q Q' : List D → Prop} (h : EvA S ta ρ Q) (q : ∀ d, Q d → Q' d) : EvA S ta ρ Q' := fun O σ H I Qv k => h O σ H I Qv fun d v H' l t i c => k d v H' l t i (q d c)
/-- a slot that holds data -/
theorem ev_var {i : Nat} {d : D} (h : ρ[i]? = some (some (.dat d))) (q : Q d) : Ev S (tVar i) ρ Q := fun O σ H I Qv k => by
  obtain ⟨v, hv, ok⟩ := I.at_ i _ h
  exact ⟨v, hv, k d v H (Le.refl _ _) I.t ok q⟩
theorem ev_cint {i : Int} (q : Q (.int i)) : Ev S (tC (.int i)) ρ Q := fun O σ H I Qv k => k _ _ H (Le.refl _ _) I.t (.int i) q
theorem ev_cbl {b : Bool} (q : Q (.bl b)) : Ev S (tC (.bl b)) ρ Q := fun O σ H I Qv k => k _ _ H (Le.refl _ _) I.t (.bl b) q
theorem ev_cnon (q : Q .non) : Ev S (tC .non) ρ Q := fun O σ H I Qv k => k _ _ H (Le.refl _ _) I.t .non q
theorem ev_cstr {x : Str} (q : Q (.str x)) : Ev S (tC (.str x)) ρ Q := fun O σ H I Qv k => k _ _ H (Le.refl _ _) I.t (.str x) q
theorem ev_cty {n : String} (q : Q (.ty n)) : Ev S (tC (.ty n)) ρ Q := fun O σ H I Qv k => k _ _ H (Le.refl _ _) I.t (.ty n) q
/-- a constant that stands in the text -/
theorem ev_cK {v : V} {d : D} (hd : ∀ H, Is S.K H v d) (q : Q d) : Ev S (tC v) ρ Q := fun O σ H I Qv k => k _ _ H (Le.refl _ _) I.t (hd _) q
theorem ev_op {r : R2} (h : Ev S ta ρ fun x => Ev S tb ρ fun y => RvR S.K r x y Q) : Ev S (tOp r ta tb) ρ Q := fun O σ H I Qv k => by
  refine h O σ H I _ fun x v H1 l1 t1 i1 h1 => ?_
  refine h1 O σ H1 (I.le l1 t1) _ fun y u H2 l2 t2 i2 h2 => ?_
  have I2 := I.le (l1.trans l2) t2
  refine h2 O H2 v u I2.live (i1.ex (hid_le l2 I.sub)) i2 _ fun d w H3 s3 i3 c => ?_
  exact k d w H3 ((l1.trans l2).trans (Le.same s3)) (S.same _ _ s3 t2) i3 c
theorem ev_un {r : V → Hp → VK → Prop} (h : Ev S ta ρ fun x => RvU S.K r x Q) : Ev S (tUn r ta) ρ Q := fun O σ H I Qv k => by
  refine h O σ H I _ fun x v H1 l1 t1 i1 h1 => ?_
  refine h1 O H1 v (I.le l1 t1).live i1 _ fun d w H3 s3 i3 c => ?_
  exact k d w H3 (l1.trans (Le.same s3)) (S.same _ _ s3 t1) i3 c
theorem ev_cb {r : List V → Hp → VK → Prop} {t : TA} (h : EvA S t ρ fun xs => RvC S.K r xs Q) : Ev S (tCB r t) ρ Q := fun O σ H I Qv k => by
  refine h O σ H I _ fun x v H1 l1 t1 i1 h1 => ?_
  refine h1 O H1 v (I.le l1 t1).live i1 _ fun d w H3 s3 i3 c => ?_
  exact k d w H3 (l1.trans (Le.same s3)) (S.same _ _ s3 t1) i3 c
theorem eva_nil {Q : List D → Prop} (q : Q []) : EvA S tNil ρ Q := fun O σ H I Qv k => k [] [] H (Le.refl _ _) I.t .nil q
theorem eva_cons {t : TA} {Q : List D → Prop} (h : Ev S ta ρ fun x => EvA S t ρ fun xs => Q (x :: xs)) : EvA S (tCons ta t) ρ Q := fun O σ H I Qv k => by
  refine h O σ H I _ fun x v H1 l1 t1 i1 h1 => ?_
  refine h1 O σ H1 (I.le l1 t1) _ fun xs vs H2 l2 t2 i2 c => ?_
  exact k (x :: xs) (v :: vs) H2 (l1.trans l2) t2 (.cons (i1.ex (hid_le l2 I.sub)) i2) c
theorem eva_star {t : TA} {Q : List D → Prop} (h : Ev S ta ρ fun x => ∃ xs, (x = .tup xs ∨ x = .lst xs) ∧ EvA S t ρ fun ys => Q (xs ++ ys)) : EvA S (StX.tStar S.K ta t) ρ Q := fun O σ H I Qv k => by
  refine h O σ H I _ fun x v H1 l1 t1 i1 ⟨xs, hx, h1⟩ => ?_
  have : ∃ a vs, v = .ref a ∧ (SqT S.K H1 a vs ∨ SqL S.K H1 a vs) ∧ Iss S.K (hid O H1) vs xs := by
    rcases hx with rfl | rfl
    · obtain ⟨a, vs, e, q, s⟩ := is_tup i1
      exact ⟨a, vs, e, .inl (sqT_hid q), s⟩
    · obtain ⟨a, vs, e, q, s⟩ := is_lst i1
      exact ⟨a, vs, e, .inr (sqL_hid q), s⟩
  obtain ⟨a, vs, rfl, q, s⟩ := this
  refine ⟨a, vs, rfl, q, ?_⟩
  refine h1 O σ H1 (I.le l1 t1) _ fun ys ws H2 l2 t2 i2 c => ?_
  exact k (xs ++ ys) (vs ++ ws) H2 (l1.trans l2) t2 (Iss.append (s.ex (hid_le l2 I.sub)) i2) c
/-- a new object that is data -/
theorem is_new_tup {K : PySem.W.Frag} {O : List Addr} {H : Hp} {p : Addr} {vs : List V} {ds : List D} (live : ∀ a ∈ O, H a ≠ none) (hp : H p = none) (i : Iss K (hid O H) vs ds) : Is K (hid O (upd H p (.tup vs))) (.ref p) (.tup ds) := by
  have np : p ∉ O := fun m => live p m hp
  refine .tup (.inl (.inl ?_)) (i.ex fun a o e => ?_)
  · rw [hid_out np, upd_same]
  · obtain ⟨n, e⟩ := hid_some e
    rw [hid_out n, upd_ne (ne_of_none e hp)]
    exact e
theorem is_new_lst {K : PySem.W.Frag} {O : List Addr} {H : Hp} {p : Addr} {vs : List V} {ds : List D} (live : ∀ a ∈ O, H a ≠ none) (hp : H p = none) (i : Iss K (hid O H) vs ds) : Is K (hid O (upd H p (.lst vs))) (.ref p) (.lst ds) := by
  have np : p ∉ O := fun m => live p m hp
  refine .lst ?_ (i.ex fun a o e => ?_)
  · rw [hid_out np, upd_same]
  · obtain ⟨n, e⟩ := hid_some e
    rw [hid_out n, upd_ne (ne_of_none e hp)]
    exact e
theorem ev_tup {t : TA} (h : EvA S t ρ fun xs => xs.length ≤ sizeLine ∧ Q (.tup xs)) : Ev S (tTup t) ρ Q := fun O σ H I Qv k => by
  refine h O σ H I _ fun xs vs H1 l1 t1 i1 ⟨z, q⟩ => ?_
  refine ⟨by rw [i1.length]; exact z, fun p hp => ?_⟩
  exact k _ _ _ (l1.trans (Le.same (Same.upd hp))) (S.same _ _ (Same.upd hp) t1) (is_new_tup (I.le l1 t1).live hp i1) q
theorem ev_lst {t : TA} (h : EvA S t ρ fun xs => xs.length ≤ sizeLine ∧ Q (.lst xs)) : Ev S (tLst t) ρ Q := fun O σ H I Qv k => by
  refine h O σ H I _ fun xs vs H1 l1 t1 i1 ⟨z, q⟩ => ?_
  refine ⟨by rw [i1.length]; exact z, fun p hp => ?_⟩
  exact k _ _ _ (l1.trans (Le.same (Same.upd hp))) (S.same _ _ (Same.upd hp) t1) (is_new_lst (I.le l1 t1).live hp i1) q
theorem ev_if (h : EvT S tt ρ fun b => if b = true then Ev S ta ρ Q else Ev S tb ρ Q) : Ev S (tIf tt ta tb) ρ Q := fun O σ H I Qv k => by
  refine h O σ H I _ fun b H1 l1 t1 c => ?_
  cases b with
  | true => exact c O σ H1 (I.le l1 t1) _ fun d v H2 l2 => k d v H2 (l1.trans l2)
  | false => exact c O σ H1 (I.le l1 t1) _ fun d v H2 l2 => k d v H2 (l1.trans l2)
/-! ### tests -/
theorem evt_b (h : Ev S te ρ fun d => ∃ b, d = .bl b ∧ Qb b) : EvT S (tB te) ρ Qb := fun O σ H I Qv k => by
  refine h O σ H I _ fun d v H1 l1 t1 i1 ⟨b, e, q⟩ => ?_
  subst e
  exact ⟨b, is_bl i1, k b H1 l1 t1 q⟩
theorem evt_test (h : Ev S te ρ fun d => ∃ b, d = .bl b ∧ Qb b) : EvT S (tTest te) ρ Qb := fun O σ H I Qv k => by
  refine h O σ H I _ fun d v H1 l1 t1 i1 ⟨b, e, q⟩ => ?_
  subst e
  exact ⟨b, is_bl i1, k b H1 l1 t1 q⟩
theorem evt_not (h : EvT S tt ρ fun b => Qb (!b)) : EvT S (tNot tt) ρ Qb := fun O σ H I Qv k => h O σ H I _ fun b H1 l1 t1 c => k _ H1 l1 t1 c
theorem evt_and (h : EvT S tt ρ fun b => if b = true then EvT S tu ρ Qb else Qb false) : EvT S (tAnd tt tu) ρ Qb := fun O σ H I Qv k => by
  refine h O σ H I _ fun b H1 l1 t1 c => ?_
  cases b with
  | true =>
    show (if true = true then tu σ H1 Qv else Qv false H1)
    rw [if_pos rfl]
    exact c O σ H1 (I.le l1 t1) _ fun d H2 l2 => k d H2 (l1.trans l2)
  | false =>
    show (if false = true then tu σ H1 Qv else Qv false H1)
    rw [if_neg Bool.false_ne_true]
    exact k false H1 l1 t1 c
theorem evt_or (h : EvT S tt ρ fun b => if b = true then Qb true else EvT S tu ρ Qb) : EvT S (tOr tt tu) ρ Qb := fun O σ H I Qv k => by
  refine h O σ H I _ fun b H1 l1 t1 c => ?_
  cases b with
  | true =>
    show (if true = true then Qv true H1 else tu σ H1 Qv)
    rw [if_pos rfl]
    exact k true H1 l1 t1 c
  | false =>
    show (if false = true then Qv true H1 else tu σ H1 Qv)
    rw [if_neg Bool.false_ne_true]
    exact c O σ H1 (I.le l1 t1) _ fun d H2 l2 => k d H2 (l1.trans l2)
theorem evt_yes (q : Qb true) : EvT S tYes ρ Qb := fun O σ H I Qv k => k true H (Le.refl _ _) I.t q
/-- and, or, not as values (of bools) -/
theorem ev_andV (h : Ev S ta ρ fun d => ∃ b, d = .bl b ∧ if b = true then Ev S tb ρ Q else Q (.bl false)) : Ev S (tAndV ta tb) ρ Q := fun O σ H I Qv k => by
  refine h O σ H I _ fun d v H1 l1 t1 i1 ⟨b, e, c⟩ => ?_
  subst e
  refine ⟨b, is_bl i1, ?_⟩
  cases b with
  | true =>
    rw [if_pos rfl]
    exact c O σ H1 (I.le l1 t1) _ fun d v H2 l2 => k d v H2 (l1.trans l2)
  | false =>
    rw [if_neg Bool.false_ne_true]
    exact k _ _ H1 l1 t1 (.bl false) c
theorem ev_orV (h : Ev S ta ρ fun d => ∃ b, d = .bl b ∧ if b = true then Q (.bl true) else Ev S tb ρ Q) : Ev S (tOrV ta tb) ρ Q := fun O σ H I Qv k => by
  refine h O σ H I _ fun d v H1 l1 t1 i1 ⟨b, e, c⟩ => ?_
  subst e
  refine ⟨b, is_bl i1, ?_⟩
  cases b with
  | true =>
    rw [if_pos rfl]
    exact k _ _ H1 l1 t1 (.bl true) c
  | false =>
    rw [if_neg Bool.false_ne_true]
    exact c O σ H1 (I.le l1 t1) _ fun d v H2 l2 => k d v H2 (l1.trans l2)
theorem ev_notV (h : Ev S ta ρ fun d => ∃ b, d = .bl b ∧ Q (.bl (!b))) : Ev S (tNotV ta) ρ Q := fun O σ H I Qv k => by
  refine h O σ H I _ fun d v H1 l1 t1 i1 ⟨b, e, c⟩ => ?_
  subst e
  exact ⟨b, is_bl i1, k _ _ H1 l1 t1 (.bl _) c⟩
end
end NB

end PART_NB1
section PART_NB2
set_option Elab.async false
set_option linter.all false
set_option maxRecDepth 100000
set_option maxHeartbeats 4000000
set_option autoImplicit false
/-! NB2: sources of loops, targets, comprehensions, statements, promises over data. -/
namespace NB
open PySem PySem.Spec PyProof.Rows L2

/-! ### what is walked -/
/-- the i-th of xs is given; for whatever is owned by then -/
def DY (K : PySem.W.Frag) (O : List Addr) (H1 : Hp) (xs : List D) : Nat → Hp → V → Hp → Prop := fun i H x H' =>
  Same H H' ∧ ∃ d, xs[i]? = some d ∧ ∀ O', (∀ a ∈ O', a ∈ O ∨ H1 a = none) → (∀ a ∈ O', H a ≠ none) → Is K (hid O' H') x d
def EvI (S : Sys) (wi : TI) (ρ : DEnv) (Q : List D → Prop) : Prop :=
  ∀ O σ H, EnvOk S O ρ σ H → ∀ R : It → Hp → Prop, (∀ J xs H1, Le S.M H H1 → S.T H1 → Walk J xs.length (Le O H1) (DY S.K O H1 xs) → Q xs → R J H1) → wi σ H R
theorem hid_later {O O' : List Addr} {H1 H : Hp} (le : Le O H1 H) (new : ∀ a ∈ O', a ∈ O ∨ H1 a = none) : ∀ a o, hid O H1 a = some o → hid O' H a = some o := fun a o e => by
  obtain ⟨n, e⟩ := hid_some e
  have n' : a ∉ O' := fun m => by
    rcases new a m with h | h
    · exact n h
    · rw [h] at e; cases e
  rw [hid_out n']
  exact le a o n e
section
variable {S : Sys} {ρ : DEnv} {te : TE}
theorem evi_list {Q : List D → Prop} (h : Ev S te ρ fun d => ∃ xs, d = .lst xs ∧ Q xs) : EvI S (iList S.K te) ρ Q := fun O σ H I R k => by
  refine h O σ H I _ fun d v H1 l1 t1 i1 ⟨xs, e, q⟩ => ?_
  subst e
  obtain ⟨a, vs, rfl, hs, is⟩ := is_lst i1
  refine ⟨a, rfl, ⟨vs, sqL_hid hs⟩, k _ xs H1 l1 t1 ?_ q⟩
  rw [← is.length]
  refine walk_list.mono (fun H2 l2 => sqL_hid (hid_later l2 (fun a h => .inl h) _ _ hs)) fun i H2 x H3 hi l2 ⟨e3, y⟩ => ?_
  subst e3
  obtain ⟨d, hd, i2⟩ := is.getV y
  exact ⟨Same.refl _, d, hd, fun O' new _ => i2.ex (hid_later l2 new)⟩
theorem evi_tup {Q : List D → Prop} (h : Ev S te ρ fun d => ∃ xs, d = .tup xs ∧ Q xs) : EvI S (iTup S.K te) ρ Q := fun O σ H I R k => by
  refine h O σ H I _ fun d v H1 l1 t1 i1 ⟨xs, e, q⟩ => ?_
  subst e
  obtain ⟨a, vs, rfl, hs, is⟩ := is_tup i1
  refine ⟨a, rfl, ⟨vs, sqT_hid hs⟩, k _ xs H1 l1 t1 ?_ q⟩
  rw [← is.length]
  refine walk_tup.mono (fun H2 l2 => sqT_hid (sqT_ex (hid_later l2 (fun a h => .inl h)) hs)) fun i H2 x H3 hi l2 ⟨e3, y⟩ => ?_
  subst e3
  obtain ⟨d, hd, i2⟩ := is.getV y
  exact ⟨Same.refl _, d, hd, fun O' new _ => i2.ex (hid_later l2 new)⟩
/-- lo, lo + 1, .. -/
def rngD (lo : Int) (n : Nat) : List D := (List.range n).map fun i => .int (lo + (i : Nat))
theorem rngD_length (lo : Int) (n : Nat) : (rngD lo n).length = n := by simp [rngD]
theorem rngD_get {lo : Int} {n i : Nat} (h : i < n) : (rngD lo n)[i]? = some (.int (lo + (i : Nat))) := by simp [rngD, h]
theorem evi_range1 {ta : TA} {Q : List D → Prop} (h : EvA S ta ρ fun ds => ∃ j : Int, ds = [.int j] ∧ -(2 ^ 62) ≤ j ∧ j < 2 ^ 62 ∧ Q (rngD 0 j.toNat)) : EvI S (iRng1 ta) ρ Q := fun O σ H I R k => by
  refine h O σ H I _ fun ds vs H1 l1 t1 i1 ⟨j, e, h1, h2, q⟩ => ?_
  subst e
  obtain ⟨v, ws, rfl, i2, i3⟩ := iss_cons i1
  obtain rfl := iss_nil i3
  refine ⟨j, by rw [is_int i2], h1, h2, k _ _ H1 l1 t1 ?_ q⟩
  rw [rngD_length]
  refine walk_range.mono (fun _ _ => trivial) fun i H2 x H3 hi _ ⟨e3, y⟩ => ?_
  subst e3 y
  exact ⟨Same.refl _, _, rngD_get hi, fun O' _ _ => .int _⟩
theorem evi_range2 {ta : TA} {Q : List D → Prop} (h : EvA S ta ρ fun ds => ∃ i j : Int, ds = [.int i, .int j] ∧ (-(2 ^ 62) ≤ i ∧ i < 2 ^ 62 ∧ -(2 ^ 62) ≤ j ∧ j < 2 ^ 62) ∧ Q (rngD i (j - i).toNat)) : EvI S (iRng2 ta) ρ Q := fun O σ H I R k => by
  refine h O σ H I _ fun ds vs H1 l1 t1 i1 ⟨i, j, e, h1, q⟩ => ?_
  subst e
  obtain ⟨v, ws, rfl, i2, i3⟩ := iss_cons i1
  obtain ⟨v', ws', rfl, i4, i5⟩ := iss_cons i3
  obtain rfl := iss_nil i5
  refine ⟨i, j, by rw [is_int i2, is_int i4], h1, k _ _ H1 l1 t1 ?_ q⟩
  rw [rngD_length]
  refine walk_range.mono (fun _ _ => trivial) fun i H2 x H3 hi _ ⟨e3, y⟩ => ?_
  subst e3 y
  exact ⟨Same.refl _, _, rngD_get hi, fun O' _ _ => .int _⟩
/-- a text's signs -/
def signsD (x : Str) : List D := x.cps.toList.map fun c => .str ⟨#[c]⟩
theorem evi_str {Q : List D → Prop} (h : Ev S te ρ fun d => ∃ x, d = .str x ∧ Q (signsD x)) : EvI S (iStr te) ρ Q := fun O σ H I R k => by
  refine h O σ H I _ fun d v H1 l1 t1 i1 ⟨x, e, q⟩ => ?_
  subst e
  refine ⟨x, is_str i1, k _ _ H1 l1 t1 ?_ q⟩
  have hl : (signsD x).length = x.cps.size := by simp [signsD]
  rw [hl]
  refine walk_str.mono (fun _ _ => trivial) fun i H2 v H3 hi _ ⟨e3, c, hc, y⟩ => ?_
  subst e3 y
  refine ⟨Same.refl _, .str ⟨#[c]⟩, ?_, fun O' _ _ => .str _⟩
  simp only [signsD, List.getElem?_map, Array.getElem?_toList, hc, Option.map_some]
theorem is_pair {K : PySem.W.Frag} {O' : List Addr} {H : Hp} {T : Addr} {x y : V} {d e : D} (hT : H T = none) (live : ∀ a ∈ O', H a ≠ none) (i1 : Is K (hid O' H) x d) (i2 : Is K (hid O' H) y e) : Is K (hid O' (upd H T (.tup [x, y]))) (.ref T) (.tup [d, e]) :=
  is_new_tup live hT (.cons i1 (.cons i2 .nil))
/-- enumerate(list) -/
def enumD : Nat → List D → List D
  | _, [] => []
  | n, x :: r => .tup [.int n, x] :: enumD (n + 1) r
theorem enumD_length : ∀ (n : Nat) (xs : List D), (enumD n xs).length = xs.length
  | _, [] => rfl
  | n, _ :: r => congrArg (· + 1) (enumD_length (n + 1) r)
theorem enumD_get : ∀ {n : Nat} {xs : List D} {i : Nat} {d : D}, xs[i]? = some d → (enumD n xs)[i]? = some (.tup [.int ((n + i : Nat)), d])
  | n, [], i, d, h => by simp at h
  | n, x :: r, 0, d, h => by
    simp at h
    subst h
    rfl
  | n, x :: r, i + 1, d, h => by
    have := enumD_get (n := n + 1) (xs := r) (i := i) (d := d) (by simpa using h)
    show (enumD (n + 1) r)[i]? = _
    rw [this, show n + 1 + i = n + (i + 1) by omega]
theorem evi_enum {ta : TA} {Q : List D → Prop} (h : EvA S ta ρ fun ds => ∃ xs, ds = [.lst xs] ∧ Q (enumD 0 xs)) : EvI S (iEnum S.K ta) ρ Q := fun O σ H I R k => by
  refine h O σ H I _ fun ds vs H1 l1 t1 i1 ⟨xs, e, q⟩ => ?_
  subst e
  obtain ⟨v, ws, rfl, i2, i3⟩ := iss_cons i1
  obtain rfl := iss_nil i3
  obtain ⟨a, vs, rfl, hs, is⟩ := is_lst i2
  refine ⟨a, vs, rfl, sqL_hid hs, k _ (enumD 0 xs) H1 l1 t1 ?_ q⟩
  rw [enumD_length, ← is.length]
  refine walk_enum.mono (fun H2 l2 => sqL_hid (hid_later l2 (fun a h => .inl h) _ _ hs)) fun i H2 v H3 hi l2 y => ?_
  obtain ⟨T, x, y, rfl, hT, rfl, hx, hy⟩ := y
  obtain ⟨d, hd, id⟩ := is.getV hy
  obtain rfl : V.int (i : Nat) = x := Option.some.inj hx
  refine ⟨Same.upd hT, _, enumD_get hd, fun O' new live => ?_⟩
  have := is_pair (K := S.K) hT live (.int (i : Nat)) (id.ex (hid_later l2 new))
  rw [show (0 + i : Nat) = i by omega]
  exact this
/-- zip of two lists -/
def zipD (xs ys : List D) : List D := (xs.zip ys).map fun p => .tup [p.1, p.2]
theorem evi_zip {ta : TA} {Q : List D → Prop} (h : EvA S ta ρ fun ds => ∃ xs ys, ds = [.lst xs, .lst ys] ∧ Q (zipD xs ys)) : EvI S (iZip S.K ta) ρ Q := fun O σ H I R k => by
  refine h O σ H I _ fun ds vs H1 l1 t1 i1 ⟨xs, ys, e, q⟩ => ?_
  subst e
  obtain ⟨v, ws, rfl, i2, i3⟩ := iss_cons i1
  obtain ⟨v', ws', rfl, i4, i5⟩ := iss_cons i3
  obtain rfl := iss_nil i5
  obtain ⟨a, vs, rfl, hs, is⟩ := is_lst i2
  obtain ⟨b, us, rfl, hs2, is2⟩ := is_lst i4
  refine ⟨a, b, vs, us, rfl, sqL_hid hs, sqL_hid hs2, k _ (zipD xs ys) H1 l1 t1 ?_ q⟩
  have hl : (zipD xs ys).length = min vs.length us.length := by simp [zipD, is.length, is2.length]
  rw [hl]
  refine (walk_zip (xs := vs) (ys := us) rfl).mono (fun H2 l2 => ⟨sqL_hid (hid_later l2 (fun a h => .inl h) _ _ hs), sqL_hid (hid_later l2 (fun a h => .inl h) _ _ hs2)⟩) fun i H2 v H3 hi l2 y => ?_
  obtain ⟨T, x, y, rfl, hT, rfl, hx, hy⟩ := y
  obtain ⟨d, hd, id⟩ := is.getV hx
  obtain ⟨d', hd', id'⟩ := is2.getV hy
  refine ⟨Same.upd hT, .tup [d, d'], ?_, fun O' new live => is_pair hT live (id.ex (hid_later l2 new)) (id'.ex (hid_later l2 new))⟩
  have hz : (xs.zip ys)[i]? = some (d, d') := List.getElem?_zip_eq_some.mpr (by exact ⟨hd, hd'⟩)
  simp [zipD, hz]
end

/-! ### targets: data is bound; only the slots vs may be changed -/
def EvG (S : Sys) (vs : List Nat) (g : TG) (ρ : DEnv) (d : D) (Q : DEnv → Prop) : Prop :=
  ∀ O σ H v, EnvOk S O ρ σ H → Is S.K (hid O H) v d → ∀ Qs : St → Hp → Prop, (∀ ρ' σ', EnvOk S O ρ' σ' H → wipe σ' vs = wipe σ vs → (∀ i l, OwnAt ρ' σ' l i → OwnAt ρ σ l i) → Q ρ' → Qs σ' H) → g v σ H Qs
def EvGs (S : Sys) (vs : List Nat) (g : TGs) (ρ : DEnv) (ds : List D) (Q : DEnv → Prop) : Prop :=
  ∀ O σ H us, EnvOk S O ρ σ H → Iss S.K (hid O H) us ds → ∀ Qs : St → Hp → Prop, (∀ ρ' σ', EnvOk S O ρ' σ' H → wipe σ' vs = wipe σ vs → (∀ i l, OwnAt ρ' σ' l i → OwnAt ρ σ l i) → Q ρ' → Qs σ' H) → g us σ H Qs
theorem wipe_set {σ : St} {k : Nat} {x : Option V} : ∀ {vs : List Nat}, k ∈ vs → wipe (σ.set k x) vs = wipe σ vs
  | [], h => by simp at h
  | v :: vs, h => by
    show (wipe (σ.set k x) vs).set v none = (wipe σ vs).set v none
    by_cases e : k ∈ vs
    · rw [wipe_set e]
    · have ev : k = v := by
        rcases List.mem_cons.mp h with h | h
        · exact h
        · exact absurd h e
      subst ev
      have : wipe (σ.set k x) vs = (wipe σ vs).set k x := by
        clear h
        induction vs with
        | nil => rfl
        | cons u us ih =>
          have hu : k ≠ u := fun z => e (by rw [z]; exact List.mem_cons_self)
          have hus : k ∉ us := fun z => e (List.mem_cons_of_mem _ z)
          show (wipe (σ.set k x) us).set u none = ((wipe σ us).set u none).set k x
          rw [ih hus, List.set_comm _ _ hu]
      rw [this, List.set_set]
theorem wipe_noop : ∀ (us : List Nat) (τ : St), (∀ u ∈ us, ∀ y, τ[u]? ≠ some (some y)) → wipe τ us = τ
  | [], _, _ => rfl
  | u :: us, τ, hτ => by
    show (wipe τ us).set u none = τ
    rw [wipe_noop us τ fun w hw => hτ w (List.mem_cons_of_mem _ hw)]
    apply List.ext_getElem?
    intro j
    by_cases ej : u = j
    · subst ej
      by_cases hl : u < τ.length
      · rw [List.getElem?_set_self hl]
        cases q : τ[u]? with
        | none => rw [List.getElem?_eq_none_iff] at q; omega
        | some o =>
          cases o with
          | none => rfl
          | some y => exact absurd q (hτ u List.mem_cons_self y)
      · rw [List.getElem?_eq_none (by simpa using hl), List.getElem?_eq_none (by simpa using hl)]
    · rw [List.getElem?_set_ne ej]
theorem wipe_idem (σ : St) (vs : List Nat) : wipe (wipe σ vs) vs = wipe σ vs := wipe_noop vs _ fun u hu y e => (wipe_some e).2 hu
theorem OwnAt.of_set {ρ : DEnv} {σ : St} {k : Nat} {d : D} {v : V} {l : Addr} {i : Nat} (h : OwnAt (ρ.set k (some (.dat d))) (σ.set k (some v)) l i) (hl : σ.length = ρ.length) : OwnAt ρ σ l i ∧ i ≠ k := by
  obtain ⟨s, h1, h2, h3⟩ := h
  by_cases e : k = i
  · subst e
    rw [List.getElem?_set] at h1
    simp only [if_true] at h1
    split at h1
    · cases h1
      cases h2
    · cases h1
  · rw [List.getElem?_set_ne e] at h1 h3
    exact ⟨⟨s, h1, h2, h3⟩, fun z => e z.symm⟩
theorem EnvOk.set {S : Sys} {O : List Addr} {ρ : DEnv} {σ : St} {H : Hp} {k : Nat} {d : D} {v : V} (I : EnvOk S O ρ σ H) (i : Is S.K (hid O H) v d) : EnvOk S O (ρ.set k (some (.dat d))) (σ.set k (some v)) H where
  len := by rw [List.length_set, List.length_set]; exact I.len
  t := I.t
  sub := I.sub
  live := I.live
  at_ := fun j s hs => by
    by_cases e : k = j
    · subst e
      have hk : k < ρ.length := by
        by_cases hk : k < ρ.length
        · exact hk
        · rw [List.getElem?_eq_none (by simpa using hk)] at hs; cases hs
      rw [List.getElem?_set_self hk] at hs
      cases hs
      exact ⟨v, List.getElem?_set_self (by rw [I.len]; exact hk), i⟩
    · rw [List.getElem?_set_ne e] at hs ⊢
      exact I.at_ j s hs
  dis := fun i j l hi hj => I.dis i j l (hi.of_set I.len).1 (hj.of_set I.len).1
  outM := fun i l hi => I.outM i l (hi.of_set I.len).1
section
variable {S : Sys} {ρ : DEnv} {vs : List Nat} {d : D} {ds : List D} {Q : DEnv → Prop}
theorem evg_name {k : Nat} (hk : k ∈ vs) (q : Q (ρ.set k (some (.dat d)))) : EvG S vs (gName k) ρ d Q := fun O σ H v I i Qs h =>
  h _ _ (I.set i) (wipe_set hk) (fun i l o => (o.of_set I.len).1) q
theorem evgs_nil (q : Q ρ) : EvGs S vs gNil ρ [] Q := fun O σ H us I i Qs h => ⟨iss_nil i, h ρ σ I rfl (fun _ _ o => o) q⟩
theorem evgs_cons {t : TG} {u : TGs} (h : EvG S vs t ρ d fun ρ1 => EvGs S vs u ρ1 ds Q) : EvGs S vs (gCons t u) ρ (d :: ds) Q := fun O σ H us I i Qs k => by
  obtain ⟨v, ws, rfl, i1, i2⟩ := iss_cons i
  refine ⟨v, ws, rfl, h O σ H v I i1 _ fun ρ1 σ1 I1 e1 o1 h1 => ?_⟩
  exact h1 O σ1 H ws I1 i2 _ fun ρ2 σ2 I2 e2 o2 q => k ρ2 σ2 I2 (e2.trans e1) (fun i l o => o1 i l (o2 i l o)) q
theorem evg_tup {n : Nat} {t : TGs} (hn : ds.length = n) (h : EvGs S vs t ρ ds Q) : EvG S vs (gTup S.K n t) ρ (.tup ds) Q := fun O σ H v I i Qs k => by
  obtain ⟨a, us, rfl, hs, is⟩ := is_tup i
  exact ⟨a, us, rfl, sqT_hid hs, is.length.trans hn, h O σ H us I is Qs k⟩
theorem evg_unl {n : Nat} {t : TGs} (hn : ds.length = n) (h : EvGs S vs t ρ ds Q) : EvG S vs (gUnl S.K n t) ρ (.lst ds) Q := fun O σ H v I i Qs k => by
  obtain ⟨a, us, rfl, hs, is⟩ := is_lst i
  exact ⟨a, us, rfl, sqL_hid hs, is.length.trans hn, h O σ H us I is Qs k⟩
end

/-! ### list comprehensions -/
def wipeD (ρ : DEnv) : List Nat → DEnv
  | [] => ρ
  | v :: vs => (wipeD ρ vs).set v none
theorem wipeD_length (ρ : DEnv) : ∀ vs : List Nat, (wipeD ρ vs).length = ρ.length
  | [] => rfl
  | v :: vs => by unfold wipeD; rw [List.length_set, wipeD_length ρ vs]
theorem wipeD_some {ρ : DEnv} {i : Nat} {x : Sl} : ∀ {vs : List Nat}, (wipeD ρ vs)[i]? = some (some x) → ρ[i]? = some (some x) ∧ i ∉ vs
  | [], h => ⟨h, by simp⟩
  | v :: vs, h => by
    unfold wipeD at h
    by_cases hi : v = i
    · subst hi
      by_cases hv : v < (wipeD ρ vs).length
      · rw [List.getElem?_set_self hv] at h; cases h
      · rw [List.getElem?_eq_none (by simpa using hv)] at h; cases h
    · rw [List.getElem?_set_ne hi] at h
      obtain ⟨h1, h2⟩ := wipeD_some h
      exact ⟨h1, by simp only [List.mem_cons, not_or]; exact ⟨fun e => hi e.symm, h2⟩⟩
theorem EnvOk.wiped {S : Sys} {O : List Addr} {ρ : DEnv} {σ : St} {H : Hp} (I : EnvOk S O ρ σ H) (vs : List Nat) : EnvOk S O (wipeD ρ vs) (wipe σ vs) H := by
  have own : ∀ i l, OwnAt (wipeD ρ vs) (L2.wipe σ vs) l i → OwnAt ρ σ l i := fun i l ⟨s, h1, h2, h3⟩ => ⟨s, (wipeD_some h1).1, h2, (wipe_some h3).1⟩
  exact {
    len := by rw [wipeD_length, wipe_length]; exact I.len
    t := I.t
    sub := I.sub
    live := I.live
    at_ := fun i s hs => by
      obtain ⟨h1, h2⟩ := wipeD_some hs
      obtain ⟨v, h3, h4⟩ := I.at_ i s h1
      exact ⟨v, by rw [wipe_out h2]; exact h3, h4⟩
    dis := fun i j l hi hj => I.dis i j l (own _ _ hi) (own _ _ hj)
    outM := fun i l hi => I.outM i l (own _ _ hi) }
/-- one more owned object, which nothing else leans on -/
theorem EnvOk.owned {S : Sys} {O : List Addr} {ρ : DEnv} {σ : St} {H H' : Hp} {p : Addr} (I : EnvOk S O ρ σ H) (hp : H p = none) (hp' : H' p ≠ none) (le : Le (p :: S.M) H H') (t : S.T H') : EnvOk S (p :: O) ρ σ H' := by
  have np : p ∉ O := fun m => I.live p m hp
  have ex : ∀ a o, hid O H a = some o → hid (p :: O) H' a = some o := fun a o e => by
    obtain ⟨n, e⟩ := hid_some e
    have na : a ∉ p :: O := by
      simp only [List.mem_cons, not_or]
      exact ⟨fun z => (by rw [z, hp] at e; cases e), n⟩
    rw [hid_out na]
    exact le a o (by simp only [List.mem_cons, not_or]; exact ⟨fun z => na (by rw [z]; exact List.mem_cons_self), fun m => n (I.sub a m)⟩) e
  have at' : ∀ l o, l ∈ O → l ∉ S.M → H l = some o → H' l = some o := fun l o hl hm e => le l o (by
    simp only [List.mem_cons, not_or]
    exact ⟨fun z => np (by rw [← z]; exact hl), hm⟩) e
  exact {
    len := I.len
    t := t
    sub := fun a ha => List.mem_cons_of_mem _ (I.sub a ha)
    live := fun a ha e => by
      rcases List.mem_cons.mp ha with rfl | ha
      · exact hp' e
      · by_cases m : a ∈ S.M
        · exact S.live _ t a m e
        · cases q : H a with
          | none => exact I.live a ha q
          | some o => rw [at' a o ha m q] at e; cases e
    at_ := fun i s hs => by
      obtain ⟨v, hv, ok⟩ := I.at_ i s hs
      refine ⟨v, hv, ?_⟩
      cases s with
      | dat d => exact Is.ex ex ok
      | own xs =>
        obtain ⟨l, rfl, hl, vs, e, q⟩ := ok
        exact ⟨l, rfl, List.mem_cons_of_mem _ hl, vs, at' _ _ hl (I.outM i l ⟨_, hs, rfl, hv⟩) e, q.ex ex⟩
      | ownK xs =>
        obtain ⟨l, rfl, hl, us, e, ke, q⟩ := ok
        exact ⟨l, rfl, List.mem_cons_of_mem _ hl, us, at' _ _ hl (I.outM i l ⟨_, hs, rfl, hv⟩) e, ke, q.ex ex⟩
      | ownT xs =>
        obtain ⟨l, rfl, hl, us, e, ke, q⟩ := ok
        exact ⟨l, rfl, List.mem_cons_of_mem _ hl, us, at' _ _ hl (I.outM i l ⟨_, hs, rfl, hv⟩) e, ke, q.ex ex⟩
      | ownI C fs =>
        obtain ⟨l, rfl, hl, dx, us, e, ke, q⟩ := ok
        exact ⟨l, rfl, List.mem_cons_of_mem _ hl, dx, us, at' _ _ hl (I.outM i l ⟨_, hs, rfl, hv⟩) e, ke, q.ex ex⟩
    dis := I.dis
    outM := I.outM }
inductive All2 {α β : Type} (R : α → β → Prop) : List α → List β → Prop
  | nil : All2 R [] []
  | cons {a : α} {b : β} {as : List α} {bs : List β} : R a b → All2 R as bs → All2 R (a :: as) (b :: bs)
theorem All2.snoc {α β : Type} {R : α → β → Prop} : ∀ {as : List α} {bs : List β} {a : α} {b : β}, All2 R as bs → R a b → All2 R (as ++ [a]) (bs ++ [b])
  | _, _, _, _, .nil, h => .cons h .nil
  | _, _, _, _, .cons h t, k => .cons h (All2.snoc t k)
theorem All2.length {α β : Type} {R : α → β → Prop} : ∀ {as : List α} {bs : List β}, All2 R as bs → as.length = bs.length
  | _, _, .nil => rfl
  | _, _, .cons _ t => congrArg (· + 1) (All2.length t)
theorem All2.map_eq {α β : Type} {f : α → β} : ∀ {as : List α} {bs : List β}, All2 (fun a b => b = f a) as bs → bs = as.map f
  | _, _, .nil => rfl
  | _, _, .cons h t => by rw [h, All2.map_eq t, List.map_cons]
theorem take_snoc {α : Type} : ∀ {l : List α} {i : Nat} {x : α}, l[i]? = some x → l.take (i + 1) = l.take i ++ [x]
  | [], i, x, h => by simp at h
  | a :: l, 0, x, h => by
    simp at h
    subst h
    rfl
  | a :: l, i + 1, x, h => by
    have := take_snoc (l := l) (i := i) (x := x) (by simpa using h)
    simp [this]
theorem flatten_snoc {α : Type} (xss : List (List α)) (xs : List α) : (xss ++ [xs]).flatten = xss.flatten ++ xs := by simp

/-- the invariant of a comprehension's turns -/
structure LcInv {α : Type} (S : Sys) (O : List Addr) (H1 : Hp) (Dn : Addr) (R : α → List D → Prop) (xs : List α) (i : Nat) (H : Hp) : Prop where
  le : Le S.M H1 H
  t : S.T H
  live : ∀ a ∈ O, H a ≠ none
  acc : ∃ vs ds yss, H Dn = some (.lst vs) ∧ Iss S.K (hid (Dn :: O) H) vs ds ∧ All2 R (xs.take i) yss ∧ ds = yss.flatten ∧ vs.length ≤ i
theorem ev_lc {S : Sys} {ρ : DEnv} {wi : TI} {g : TG} {tt : TT} {te : TE} {vs : List Nat} {Q : D → Prop}
    (h : EvI S wi ρ fun xs0 => ∃ (α : Type) (xs : List α) (src : α → D), xs0 = xs.map src ∧ ∃ R : α → List D → Prop, (∀ x ∈ xs, EvG S vs g (wipeD ρ vs) (src x) fun ρ1 => EvT S tt ρ1 fun b => if b = true then Ev S te ρ1 (fun y => R x [y]) else R x []) ∧ xs.length ≤ sizeLine ∧ ∀ yss, All2 R xs yss → Q (.lst yss.flatten)) :
    Ev S (tLc wi g tt te vs) ρ Q := fun O σ H I Qv k => by
  refine h O σ H I _ fun J xs0 H1 l1 t1 W ⟨α, xs, src, hxs, R, hR, hz, hQ⟩ => ?_
  subst hxs
  rw [List.length_map] at W
  intro Dn hD
  have I1 := I.le l1 t1
  have nD : Dn ∉ O := fun m => I1.live Dn m hD
  have nM : Dn ∉ S.M := fun m => nD (I.sub Dn m)
  refine lc_it W (fun i H => LcInv S O H1 Dn R xs i H) ?_ (fun i H2 _ L => fun a o ha e => L.le a o (fun m => ha (I.sub a m)) e) ?_ ?_
  · exact ⟨Le.same (Same.upd hD), S.same _ _ (Same.upd hD) t1, (I1.le (Le.same (Same.upd hD)) (S.same _ _ (Same.upd hD) t1)).live, [], [], [], upd_same, .nil, .nil, rfl, Nat.zero_le _⟩
  · intro i x H2 H3 hi L ⟨s3, d, hd, hx⟩
    obtain ⟨us, ds, yss, e2, is2, a2, rfl, z2⟩ := L.acc
    obtain ⟨a0, ha0, rfl⟩ : ∃ a0, xs[i]? = some a0 ∧ d = src a0 := by
      rw [List.getElem?_map] at hd
      cases q : xs[i]? with
      | none => rw [q] at hd; cases hd
      | some a0 =>
        rw [q] at hd
        exact ⟨a0, rfl, (Option.some.inj hd).symm⟩
    have mem : a0 ∈ xs := List.mem_of_getElem? ha0
    -- the block's state
    have t3 : S.T H3 := S.same _ _ s3 L.t
    have e3 : H3 Dn = some (.lst us) := s3 _ _ e2
    have Le13 : Le S.M H1 H3 := L.le.trans (Le.same s3)
    have I3 : EnvOk S (Dn :: O) (wipeD ρ vs) (L2.wipe σ vs) H3 := (I1.wiped vs).owned hD (by rw [e3]; exact fun z => by cases z) (fun a o ha e => Le13 a o (fun m => ha (List.mem_cons_of_mem _ m)) e) t3
    have ix : Is S.K (hid (Dn :: O) H3) x (src a0) := hx (Dn :: O) (fun a ha => by
      rcases List.mem_cons.mp ha with rfl | ha
      · exact .inr hD
      · exact .inl ha) (fun a ha e => by
      rcases List.mem_cons.mp ha with rfl | ha
      · rw [e2] at e; cases e
      · exact L.live a ha e)
    have is3 : Iss S.K (hid (Dn :: O) H3) us yss.flatten := is2.ex fun a o e => by
      obtain ⟨n, e⟩ := hid_some e
      rw [hid_out n]
      exact s3 a o e
    refine hR a0 mem (Dn :: O) _ H3 x I3 ix _ fun ρ1 σ1 I4 w4 _ h4 => ⟨?_, ?_⟩
    · rw [w4, wipe_idem]
    · refine h4 (Dn :: O) σ1 H3 I4 _ fun b H4 l4 t4 h5 => ?_
      have nDM : Dn ∉ S.M := nM
      have e4 : H4 Dn = some (.lst us) := l4 _ _ nDM e3
      have is4 : Iss S.K (hid (Dn :: O) H4) us yss.flatten := is3.ex (hid_le l4 fun a ha => List.mem_cons_of_mem _ (I.sub a ha))
      have I5 := I4.le l4 t4
      cases b with
      | false =>
        show LcInv S O H1 Dn R xs (i + 1) H4
        refine ⟨Le13.trans l4, t4, fun a ha => I5.live a (List.mem_cons_of_mem _ ha), us, yss.flatten, yss ++ [[]], e4, is4, ?_, by simp, by omega⟩
        rw [take_snoc ha0]
        exact a2.snoc h5
      | true =>
        show te σ1 H4 fun y H5 => ∃ acc, H5 Dn = some (.lst acc) ∧ acc.length < sizeLine ∧ LcInv S O H1 Dn R xs (i + 1) (upd H5 Dn (.lst (acc ++ [y])))
        refine h5 (Dn :: O) σ1 H4 I5 _ fun y v H5 l5 t5 i5 r5 => ?_
        have e5 : H5 Dn = some (.lst us) := l5 _ _ nDM e4
        have is5 : Iss S.K (hid (Dn :: O) H5) us yss.flatten := is4.ex (hid_le l5 fun a ha => List.mem_cons_of_mem _ (I.sub a ha))
        have ex : ∀ a o, hid (Dn :: O) H5 a = some o → hid (Dn :: O) (upd H5 Dn (.lst (us ++ [v]))) a = some o := fun a o e => by
          obtain ⟨n, e⟩ := hid_some e
          rw [hid_out n, upd_ne fun z => n (by rw [z]; exact List.mem_cons_self)]
          exact e
        have I6 := I5.le l5 t5
        have leu : ∀ a o, a ≠ Dn → H5 a = some o → upd H5 Dn (.lst (us ++ [v])) a = some o := fun a o na e => by rw [upd_ne na]; exact e
        refine ⟨us, e5, Nat.lt_of_le_of_lt z2 (Nat.lt_of_lt_of_le hi hz), ?_⟩
        refine ⟨fun a o ha e => leu a o (fun z => by rw [z, hD] at e; cases e) ((Le13.trans (l4.trans l5)) a o ha e), ?_, fun a ha e => ?_, us ++ [v], yss.flatten ++ [y], yss ++ [[y]], upd_same, Iss.append (is5.ex ex) (.cons (i5.ex ex) .nil), ?_, by simp, by rw [List.length_append, List.length_singleton]; omega⟩
        · -- T stays: the new list is none of M's
          exact S.upd_own t5 nM
        · by_cases q : a = Dn
          · exact nD (by rw [← q]; exact ha)
          · rw [upd_ne q] at e
            exact I6.live a (List.mem_cons_of_mem _ ha) e
        · rw [take_snoc ha0]
          exact a2.snoc r5
  · intro H2 L
    obtain ⟨us, ds, yss, e2, is2, a2, rfl, z2⟩ := L.acc
    rw [List.take_length] at a2
    refine k _ _ H2 (l1.trans L.le) L.t ?_ (hQ yss a2)
    refine .lst ?_ (is2.ex (hid_sub fun a ha => List.mem_cons_of_mem _ ha))
    rw [hid_out nD]
    exact e2
end NB

end PART_NB2
section PART_NB3
set_option Elab.async false
set_option linter.all false
set_option maxRecDepth 100000
set_option maxHeartbeats 4000000
set_option autoImplicit false
/-! NB3: statements and promises over data. -/
namespace NB
open PySem PySem.Spec PyProof.Rows L2

structure Base where
  H0 : Hp
  O0 : List Addr
structure SOk (S : Sys) (B : Base) (O : List Addr) (ρ : DEnv) (σ : St) (H : Hp) : Prop where
  env : EnvOk S O ρ σ H
  sub : ∀ a ∈ B.O0, a ∈ O
  le : Le S.M B.H0 H
  live : ∀ a ∈ B.O0, B.H0 a ≠ none
  own : ∀ i l, OwnAt ρ σ l i → B.H0 l = none
structure Step (O : List Addr) (H : Hp) (O' : List Addr) (H' : Hp) : Prop where
  new : ∀ a ∈ O', a ∈ O ∨ H a = none
  le : Le O H H'
theorem Step.refl (O : List Addr) (H : Hp) : Step O H O H := ⟨fun _ h => .inl h, Le.refl _ _⟩
theorem Step.trans {O O1 O2 : List Addr} {H H1 H2 : Hp} (a : Step O H O1 H1) (b : Step O1 H1 O2 H2) : Step O H O2 H2 where
  new := fun x h => by
    rcases b.new x h with h | h
    · exact a.new x h
    · cases q : H x with
      | none => exact .inr rfl
      | some o =>
        by_cases m : x ∈ O
        · exact .inl m
        · rw [a.le x o m q] at h; cases h
  le := fun x o n e => by
    refine b.le x o (fun m => ?_) (a.le x o n e)
    rcases a.new x m with m | m
    · exact n m
    · rw [m] at e; cases e
theorem SOk.go {S : Sys} {B : Base} {O : List Addr} {ρ : DEnv} {σ : St} {H H' : Hp} (I : SOk S B O ρ σ H) (le : Le S.M H H') (t : S.T H') : SOk S B O ρ σ H' ∧ Step O H O H' :=
  ⟨⟨I.env.le le t, I.sub, I.le.trans le, I.live, I.own⟩, fun _ h => .inl h, fun a o n e => le a o (fun m => n (I.env.sub a m)) e⟩
/-- what is wanted behind statements, over data -/
structure Post where
  nx : DEnv → Prop
  rt : D → Prop
  bk : DEnv → Prop
  ct : DEnv → Prop
def Run (S : Sys) (ts : TS) (ρ : DEnv) (P : Post) : Prop :=
  ∀ B O σ H, SOk S B O ρ σ H → ∀ Dv : Ends,
    (∀ ρ' O' σ' H', SOk S B O' ρ' σ' H' → Step O H O' H' → P.nx ρ' → Dv.nx σ' H') →
    (∀ d v H', Le S.M B.H0 H' → S.T H' → Is S.K (hid B.O0 H') v d → P.rt d → Dv.rt v H') →
    (∀ ρ' O' σ' H', SOk S B O' ρ' σ' H' → Step O H O' H' → P.bk ρ' → Dv.bk σ' H') →
    (∀ ρ' O' σ' H', SOk S B O' ρ' σ' H' → Step O H O' H' → P.ct ρ' → Dv.ct σ' H') → ts Dv σ H
section
variable {S : Sys} {ρ : DEnv} {P : Post} {ts tu : TS} {te : TE}
theorem run_next (q : P.nx ρ) : Run S tNext ρ P := fun B O σ H I Dv k _ _ _ => k ρ O σ H I (Step.refl _ _) q
theorem run_break (q : P.bk ρ) : Run S tBreak ρ P := fun B O σ H I Dv _ _ k _ => k ρ O σ H I (Step.refl _ _) q
theorem run_cont (q : P.ct ρ) : Run S tCont ρ P := fun B O σ H I Dv _ _ _ k => k ρ O σ H I (Step.refl _ _) q
theorem run_seq (h : Run S ts ρ { P with nx := fun ρ' => Run S tu ρ' P }) : Run S (tSeq ts tu) ρ P := fun B O σ H I Dv k1 k2 k3 k4 => by
  show ts { Dv with nx := tu Dv } σ H
  refine h B O σ H I { Dv with nx := tu Dv } (fun ρ1 O1 σ1 H1 I1 s1 h1 => ?_) k2 k3 k4
  exact h1 B O1 σ1 H1 I1 Dv (fun ρ2 O2 σ2 H2 I2 s2 => k1 ρ2 O2 σ2 H2 I2 (s1.trans s2)) k2 (fun ρ2 O2 σ2 H2 I2 s2 => k3 ρ2 O2 σ2 H2 I2 (s1.trans s2)) (fun ρ2 O2 σ2 H2 I2 s2 => k4 ρ2 O2 σ2 H2 I2 (s1.trans s2))
/-- what follows an if is proved once, from Mid on -/
theorem run_cut {Mid : DEnv → Prop} (h : Run S ts ρ { P with nx := Mid }) (h2 : ∀ ρ', Mid ρ' → Run S tu ρ' P) : Run S (tSeq ts tu) ρ P := run_seq fun B O σ H I Dv k1 k2 k3 k4 =>
  h B O σ H I Dv (fun ρ1 O1 σ1 H1 I1 s1 m => k1 ρ1 O1 σ1 H1 I1 s1 (h2 ρ1 m)) k2 k3 k4
theorem Run.imp {P' : Post} (h : Run S ts ρ P) (h1 : ∀ ρ', P.nx ρ' → P'.nx ρ') (h2 : ∀ d, P.rt d → P'.rt d) (h3 : ∀ ρ', P.bk ρ' → P'.bk ρ') (h4 : ∀ ρ', P.ct ρ' → P'.ct ρ') : Run S ts ρ P' := fun B O σ H I Dv k1 k2 k3 k4 =>
  h B O σ H I Dv (fun ρ1 O1 σ1 H1 I1 s1 m => k1 ρ1 O1 σ1 H1 I1 s1 (h1 _ m)) (fun d v H' l t i m => k2 d v H' l t i (h2 _ m)) (fun ρ1 O1 σ1 H1 I1 s1 m => k3 ρ1 O1 σ1 H1 I1 s1 (h3 _ m)) fun ρ1 O1 σ1 H1 I1 s1 m => k4 ρ1 O1 σ1 H1 I1 s1 (h4 _ m)
theorem run_ret (h : Ev S te ρ P.rt) : Run S (tRet te) ρ P := fun B O σ H I Dv _ k _ _ =>
  h O σ H I.env _ fun d v H1 l1 t1 i1 q => k d v H1 (I.le.trans l1) t1 (i1.ex (hid_sub I.sub)) q
theorem run_retN (h : P.rt .non) : Run S tRetN ρ P := fun B O σ H I Dv _ k _ _ => k .non .non H I.le I.env.t .non h
theorem run_asg {g : TG} {vs : List Nat} (h : Ev S te ρ fun d => EvG S vs g ρ d P.nx) : Run S (tAsg te g) ρ P := fun B O σ H I Dv k _ _ _ => by
  refine h O σ H I.env _ fun d v H1 l1 t1 i1 q => ?_
  obtain ⟨I1, s1⟩ := I.go l1 t1
  exact q O σ H1 v I1.env i1 _ fun ρ2 σ2 I2 _ o2 q2 => k ρ2 O σ2 H1 ⟨I2, I1.sub, I1.le, I1.live, fun i l o => I1.own i l (o2 i l o)⟩ s1 q2
theorem run_set {i : Nat} (h : Ev S te ρ fun d => P.nx (ρ.set i (some (.dat d)))) : Run S (tAsg te (gName i)) ρ P := run_asg (vs := [i]) (h.imp fun _ q => evg_name (by simp) q)
theorem run_expr (h : Ev S te ρ fun _ => P.nx ρ) : Run S (tDrop te) ρ P := fun B O σ H I Dv k _ _ _ => by
  refine h O σ H I.env _ fun d v H1 l1 t1 i1 q => ?_
  obtain ⟨I1, s1⟩ := I.go l1 t1
  exact k ρ O σ H1 I1 s1 q
theorem run_if {c : TT} (h : EvT S c ρ fun b => if b = true then Run S ts ρ P else Run S tu ρ P) : Run S (tIfS c ts tu) ρ P := fun B O σ H I Dv k1 k2 k3 k4 => by
  refine h O σ H I.env _ fun b H1 l1 t1 q => ?_
  obtain ⟨I1, s1⟩ := I.go l1 t1
  cases b with
  | true =>
    show (if true = true then ts Dv σ H1 else tu Dv σ H1)
    rw [if_pos rfl]
    exact q B O σ H1 I1 Dv (fun ρ2 O2 σ2 H2 I2 s2 => k1 ρ2 O2 σ2 H2 I2 (s1.trans s2)) k2 (fun ρ2 O2 σ2 H2 I2 s2 => k3 ρ2 O2 σ2 H2 I2 (s1.trans s2)) (fun ρ2 O2 σ2 H2 I2 s2 => k4 ρ2 O2 σ2 H2 I2 (s1.trans s2))
  | false =>
    show (if false = true then ts Dv σ H1 else tu Dv σ H1)
    rw [if_neg Bool.false_ne_true]
    exact q B O σ H1 I1 Dv (fun ρ2 O2 σ2 H2 I2 s2 => k1 ρ2 O2 σ2 H2 I2 (s1.trans s2)) k2 (fun ρ2 O2 σ2 H2 I2 s2 => k3 ρ2 O2 σ2 H2 I2 (s1.trans s2)) (fun ρ2 O2 σ2 H2 I2 s2 => k4 ρ2 O2 σ2 H2 I2 (s1.trans s2))
/-- for: J by the turn and the slots -/
theorem run_for {wi : TI} {g : TG} {vs : List Nat} (h : EvI S wi ρ fun xs => ∃ J : Nat → DEnv → Prop, J 0 ρ ∧ (∀ i x ρ1, xs[i]? = some x → J i ρ1 → EvG S vs g ρ1 x fun ρ2 => Run S ts ρ2 ⟨J (i + 1), P.rt, P.nx, J (i + 1)⟩) ∧ ∀ ρ1, J xs.length ρ1 → P.nx ρ1) :
    Run S (tFor wi g ts) ρ P := fun B O σ H I Dv k1 k2 k3 k4 => by
  refine h O σ H I.env _ fun J xs H1 l1 t1 W ⟨Jv, j0, hs, he⟩ => ?_
  obtain ⟨I1, s1⟩ := I.go l1 t1
  refine for_it W (fun i σ2 H2 => ∃ ρ2 O2, SOk S B O2 ρ2 σ2 H2 ∧ Step O H1 O2 H2 ∧ Jv i ρ2) ⟨ρ, O, I1, Step.refl _ _, j0⟩ (fun i σ2 H2 _ ⟨ρ2, O2, I2, s2, _⟩ => s2.le) ?_ ?_
  · rintro i x σ2 H2 H3 hi ⟨ρ2, O2, I2, s2, j2⟩ ⟨s3, d, hd, hx⟩
    have i3 := hx O2 s2.new I2.env.live
    have t3 := S.same _ _ s3 I2.env.t
    obtain ⟨I3, st3⟩ := I2.go (Le.same s3) t3
    refine hs i d ρ2 hd j2 O2 σ2 H3 x I3.env i3 _ fun ρ4 σ4 I4 _ o4 r4 => ?_
    have I4' : SOk S B O2 ρ4 σ4 H3 := ⟨I4, I3.sub, I3.le, I3.live, fun i l o => I3.own i l (o4 i l o)⟩
    refine r4 B O2 σ4 H3 I4' _ (fun ρ5 O5 σ5 H5 I5 s5 j5 => ⟨ρ5, O5, I5, (s2.trans st3).trans s5, j5⟩) k2 (fun ρ5 O5 σ5 H5 I5 s5 q => ?_) (fun ρ5 O5 σ5 H5 I5 s5 j5 => ⟨ρ5, O5, I5, (s2.trans st3).trans s5, j5⟩)
    exact k1 ρ5 O5 σ5 H5 I5 (((s1.trans s2).trans st3).trans s5) q
  · rintro σ2 H2 ⟨ρ2, O2, I2, s2, j2⟩
    exact k1 ρ2 O2 σ2 H2 I2 (s1.trans s2) (he ρ2 j2)
/-- while: J and a measure -/
theorem run_while {c : TT} (J : DEnv → Prop) (μ : DEnv → Nat) (j0 : J ρ) (h : ∀ ρ1, J ρ1 → EvT S c ρ1 fun b => if b = true then Run S ts ρ1 ⟨fun ρ2 => J ρ2 ∧ μ ρ2 < μ ρ1, P.rt, P.nx, fun ρ2 => J ρ2 ∧ μ ρ2 < μ ρ1⟩ else P.nx ρ1) :
    Run S (tWhile c ts) ρ P := fun B O σ H I Dv k1 k2 k3 k4 => by
  refine ⟨fun m σ2 H2 => ∃ ρ2 O2, m = μ ρ2 ∧ SOk S B O2 ρ2 σ2 H2 ∧ Step O H O2 H2 ∧ J ρ2, ⟨_, ρ, O, rfl, I, Step.refl _ _, j0⟩, ?_⟩
  rintro m σ2 H2 ⟨ρ2, O2, rfl, I2, s2, j2⟩
  refine h ρ2 j2 O2 σ2 H2 I2.env _ fun b H3 l3 t3 q => ?_
  obtain ⟨I3, s3⟩ := I2.go l3 t3
  cases b with
  | true =>
    rw [if_pos rfl]
    refine ⟨fun σ5 H5 => ∃ ρ5 O5, SOk S B O5 ρ5 σ5 H5 ∧ Step O H O5 H5 ∧ J ρ5 ∧ μ ρ5 < μ ρ2, fun σ5 H5 ⟨ρ5, O5, I5, s5, j5, l5⟩ => ⟨_, l5, ρ5, O5, rfl, I5, s5, j5⟩, ?_⟩
    exact q B O2 σ2 H3 I3 _ (fun ρ5 O5 σ5 H5 I5 s5 ⟨j5, l5⟩ => ⟨ρ5, O5, I5, (s2.trans s3).trans s5, j5, l5⟩) k2 (fun ρ5 O5 σ5 H5 I5 s5 q5 => k1 ρ5 O5 σ5 H5 I5 ((s2.trans s3).trans s5) q5) (fun ρ5 O5 σ5 H5 I5 s5 ⟨j5, l5⟩ => ⟨ρ5, O5, I5, (s2.trans s3).trans s5, j5, l5⟩)
  | false =>
    rw [if_neg Bool.false_ne_true]
    exact k1 ρ2 O2 σ2 H3 I3 (s2.trans s3) q
/-! ### owned lists -/
theorem OwnAt.ne {ρ : DEnv} {σ : St} {k i : Nat} {s : Option Sl} {v : Option V} {l : Addr} (h : OwnAt (ρ.set k s) (σ.set k v) l i) (e : k ≠ i) : OwnAt ρ σ l i := by
  obtain ⟨t, h1, h2, h3⟩ := h
  rw [List.getElem?_set_ne e] at h1 h3
  exact ⟨t, h1, h2, h3⟩
theorem OwnAt.self {ρ : DEnv} {σ : St} {k : Nat} {s : Sl} {v : V} {l : Addr} (h : OwnAt (ρ.set k (some s)) (σ.set k (some v)) l k) : v = .ref l ∧ s.isOwn = true := by
  obtain ⟨t, h1, h2, h3⟩ := h
  rw [List.getElem?_set] at h1 h3
  simp only [if_true] at h1 h3
  split at h3
  · split at h1
    · cases h1
      exact ⟨Option.some.inj (Option.some.inj h3), h2⟩
    · cases h1
  · cases h3
/-- a new owned object at p is put into slot k -/
theorem EnvOk.put_own {S : Sys} {O : List Addr} {ρ : DEnv} {σ : St} {H : Hp} {p : Addr} {o : HO} {k : Nat} {s : Sl} (I : EnvOk S O ρ σ H) (hp : H p = none) (hs : s.isOwn = true) (ok : OwnOk S.K (p :: O) (upd H p o) p s) :
    EnvOk S (p :: O) (ρ.set k (some s)) (σ.set k (some (.ref p))) (upd H p o) := by
  have np : p ∉ O := fun m => I.live p m hp
  have t' := S.same _ _ (Same.upd (o := o) hp) I.t
  have I' : EnvOk S (p :: O) ρ σ (upd H p o) := I.owned hp (by rw [upd_same]; exact fun z => by cases z) (fun a u ha e => by rw [upd_ne fun z => ha (by rw [z]; exact List.mem_cons_self)]; exact e) t'
  have old : ∀ i, OwnAt ρ σ p i → False := fun i h => by
    obtain ⟨s, h1, h2, h3⟩ := h
    obtain ⟨v, hv, q⟩ := I.at_ i s h1
    rw [h3] at hv
    obtain rfl : V.ref p = v := Option.some.inj (Option.some.inj hv)
    cases s with
    | dat d => cases h2
    | own xs =>
      obtain ⟨l, e, m, _⟩ := q
      cases e
      exact np m
    | ownK xs =>
      obtain ⟨l, e, m, _⟩ := q
      cases e
      exact np m
    | ownT xs =>
      obtain ⟨l, e, m, _⟩ := q
      cases e
      exact np m
    | ownI C fs =>
      obtain ⟨l, e, m, _⟩ := q
      cases e
      exact np m
  exact {
    len := by rw [List.length_set, List.length_set]; exact I.len
    t := t'
    sub := I'.sub
    live := I'.live
    at_ := fun i u hu => by
      by_cases e : k = i
      · subst e
        have hk : k < ρ.length := by
          by_cases hk : k < ρ.length
          · exact hk
          · rw [List.getElem?_eq_none (by simpa using hk)] at hu; cases hu
        rw [List.getElem?_set_self hk] at hu
        cases hu
        refine ⟨.ref p, List.getElem?_set_self (by rw [I.len]; exact hk), ?_⟩
        cases s with
        | dat d => cases hs
        | own xs => exact ⟨p, rfl, List.mem_cons_self, ok⟩
        | ownK xs => exact ⟨p, rfl, List.mem_cons_self, ok⟩
        | ownT xs => exact ⟨p, rfl, List.mem_cons_self, ok⟩
        | ownI C fs => exact ⟨p, rfl, List.mem_cons_self, ok⟩
      · rw [List.getElem?_set_ne e] at hu ⊢
        exact I'.at_ i u hu
    dis := fun i j l hi hj => by
      by_cases ei : k = i
      · subst ei
        by_cases ej : k = j
        · exact ej
        · have e := hi.self.1
          cases e
          exact (old j (hj.ne ej)).elim
      · by_cases ej : k = j
        · subst ej
          have e := hj.self.1
          cases e
          exact (old i (hi.ne ei)).elim
        · exact I.dis i j l (hi.ne ei) (hj.ne ej)
    outM := fun i l hi => by
      by_cases ei : k = i
      · subst ei
        have e := hi.self.1
        cases e
        exact fun m => np (I.sub _ m)
      · exact I.outM i l (hi.ne ei) }
theorem SOk.put_own {S : Sys} {B : Base} {O : List Addr} {ρ : DEnv} {σ : St} {H : Hp} {p : Addr} {o : HO} {k : Nat} {s : Sl} (I : SOk S B O ρ σ H) (hp : H p = none) (hs : s.isOwn = true) (ok : OwnOk S.K (p :: O) (upd H p o) p s) :
    SOk S B (p :: O) (ρ.set k (some s)) (σ.set k (some (.ref p))) (upd H p o) ∧ Step O H (p :: O) (upd H p o) := by
  have np : p ∉ O := fun m => I.env.live p m hp
  refine ⟨⟨I.env.put_own hp hs ok, fun a ha => List.mem_cons_of_mem _ (I.sub a ha), I.le.trans (Le.same (Same.upd hp)), I.live, fun i l hi => ?_⟩, fun a ha => ?_, Le.same (Same.upd hp)⟩
  · by_cases ei : k = i
    · subst ei
      have e := hi.self.1
      cases e
      cases q : B.H0 p with
      | none => rfl
      | some u =>
        have nM : p ∉ S.M := fun m => np (I.env.sub _ m)
        rw [I.le p u nM q] at hp; cases hp
    · exact I.own i l (hi.ne ei)
  · rcases List.mem_cons.mp ha with rfl | ha
    · exact .inr hp
    · exact .inl ha
theorem iss_push {K : PySem.W.Frag} {O : List Addr} {H : Hp} {p : Addr} {o : HO} {vs : List V} {ds : List D} (hp : H p = none) (i : Iss K (hid O H) vs ds) : Iss K (hid (p :: O) (upd H p o)) vs ds := i.ex fun a u e => by
  obtain ⟨n, e⟩ := hid_some e
  have na : a ≠ p := ne_of_none e hp
  rw [hid_out (by simp only [List.mem_cons, not_or]; exact ⟨na, n⟩), upd_ne na]
  exact e
/-- x = [..], the list to be changed later -/
theorem run_own {t : TA} {k : Nat} (h : EvA S t ρ fun ds => ds.length ≤ sizeLine ∧ P.nx (ρ.set k (some (.own ds)))) : Run S (tAsg (tLst t) (gName k)) ρ P := fun B O σ H I Dv k1 _ _ _ => by
  refine h O σ H I.env _ fun ds vs H1 l1 t1 i1 ⟨z, q⟩ => ?_
  obtain ⟨I1, s1⟩ := I.go l1 t1
  refine ⟨by rw [i1.length]; exact z, fun p hp => ?_⟩
  obtain ⟨I2, s2⟩ := I1.put_own (k := k) (s := .own ds) (o := .lst vs) hp rfl ⟨vs, upd_same, iss_push hp i1⟩
  exact k1 _ _ _ _ I2 (s1.trans s2) q
/-- the object of an owned slot is changed -/
theorem SOk.mut {S : Sys} {B : Base} {O : List Addr} {ρ : DEnv} {σ : St} {H : Hp} {l : Addr} {o : HO} {k : Nat} {s s' : Sl} (I : SOk S B O ρ σ H) (hk : ρ[k]? = some (some s)) (hs : s.isOwn = true) (hs' : s'.isOwn = true) (hv : σ[k]? = some (some (.ref l))) (hl : l ∈ O) (ok : OwnOk S.K O (upd H l o) l s') :
    SOk S B O (ρ.set k (some s')) σ (upd H l o) ∧ Step O H O (upd H l o) := by
  have nM : l ∉ S.M := I.env.outM k l ⟨s, hk, hs, hv⟩
  have ex : ∀ a u, hid O H a = some u → hid O (upd H l o) a = some u := fun a u e => by
    obtain ⟨n, e⟩ := hid_some e
    rw [hid_out n, upd_ne fun z => n (by rw [z]; exact hl)]
    exact e
  have hσ : σ.set k (some (.ref l)) = σ := by
    apply List.ext_getElem?
    intro j
    by_cases e : k = j
    · subst e
      have : k < σ.length := by
        by_cases h : k < σ.length
        · exact h
        · rw [List.getElem?_eq_none (by simpa using h)] at hv; cases hv
      rw [List.getElem?_set_self this, hv]
    · rw [List.getElem?_set_ne e]
  have own : ∀ i m, OwnAt (ρ.set k (some s')) σ m i → OwnAt ρ σ m i := fun i m h => by
    by_cases e : k = i
    · subst e
      obtain ⟨t, h1, h2, h3⟩ := h
      exact ⟨s, hk, hs, h3⟩
    · rw [← hσ] at h
      exact h.ne e
  have oth : ∀ i u m, ρ[i]? = some (some u) → u.isOwn = true → σ[i]? = some (some (.ref m)) → k ≠ i → m ≠ l := fun i u m h1 h2 h3 e z => by
    subst z
    exact e (I.env.dis k i m ⟨s, hk, hs, hv⟩ ⟨u, h1, h2, h3⟩)
  have ot : ∀ i u, k ≠ i → ρ[i]? = some (some u) → ∃ v, σ[i]? = some (some v) ∧ SlOk S.K O (upd H l o) v u := fun i u e h1 => by
    obtain ⟨v, h2, q⟩ := I.env.at_ i u h1
    refine ⟨v, h2, ?_⟩
    cases u with
    | dat d => exact Is.ex ex q
    | own xs =>
      obtain ⟨m, rfl, hm, vs, e2, q⟩ := q
      exact ⟨m, rfl, hm, vs, by rw [upd_ne (oth i _ m h1 rfl h2 e)]; exact e2, q.ex ex⟩
    | ownK xs =>
      obtain ⟨m, rfl, hm, us, e2, e3, q⟩ := q
      exact ⟨m, rfl, hm, us, by rw [upd_ne (oth i _ m h1 rfl h2 e)]; exact e2, e3, q.ex ex⟩
    | ownT xs =>
      obtain ⟨m, rfl, hm, us, e2, e3, q⟩ := q
      exact ⟨m, rfl, hm, us, by rw [upd_ne (oth i _ m h1 rfl h2 e)]; exact e2, e3, q.ex ex⟩
    | ownI C fs =>
      obtain ⟨m, rfl, hm, dx, us, e2, e3, q⟩ := q
      exact ⟨m, rfl, hm, dx, us, by rw [upd_ne (oth i _ m h1 rfl h2 e)]; exact e2, e3, q.ex ex⟩
  have h0 : B.H0 l = none := I.own k l ⟨s, hk, hs, hv⟩
  refine ⟨⟨{
    len := by rw [List.length_set]; exact I.env.len
    t := S.upd_own I.env.t nM
    sub := I.env.sub
    live := fun a ha e => ?_
    at_ := fun i u hu => ?_
    dis := fun i j m hi hj => I.env.dis i j m (own _ _ hi) (own _ _ hj)
    outM := fun i m hi => I.env.outM i m (own _ _ hi) }, I.sub, fun a u n e => ?_, I.live, fun i m hi => I.own i m (own _ _ hi)⟩, fun _ h => .inl h, fun a u n e => ?_⟩
  · by_cases q : a = l
    · subst q
      rw [upd_same] at e; cases e
    · rw [upd_ne q] at e
      exact I.env.live a ha e
  · by_cases e : k = i
    · subst e
      have hk' : k < ρ.length := by
        by_cases h : k < ρ.length
        · exact h
        · rw [List.getElem?_eq_none (by simpa using h)] at hk; cases hk
      rw [List.getElem?_set_self hk'] at hu
      cases hu
      refine ⟨.ref l, hv, ?_⟩
      cases s' with
      | dat d => cases hs'
      | own xs => exact ⟨l, rfl, hl, ok⟩
      | ownK xs => exact ⟨l, rfl, hl, ok⟩
      | ownT xs => exact ⟨l, rfl, hl, ok⟩
      | ownI C fs => exact ⟨l, rfl, hl, ok⟩
    · rw [List.getElem?_set_ne e] at hu
      exact ot i u e hu
  · rw [upd_ne fun z => by rw [z, h0] at e; cases e]
    exact I.le a u n e
  · rw [upd_ne fun z => n (by rw [z]; exact hl)]
    exact e
/-- an owned list, at its place -/
theorem SOk.own_at {S : Sys} {B : Base} {O : List Addr} {ρ : DEnv} {σ : St} {H : Hp} {k : Nat} {xs : List D} (I : SOk S B O ρ σ H) (hk : ρ[k]? = some (some (.own xs))) : ∃ l vs, σ[k]? = some (some (.ref l)) ∧ l ∈ O ∧ H l = some (.lst vs) ∧ Iss S.K (hid O H) vs xs := by
  obtain ⟨v, hv, l, rfl, hl, vs, e, q⟩ := I.env.at_ k _ hk
  exact ⟨l, vs, hv, hl, e, q⟩
/-- x.append(e) -/
theorem run_append {k : Nat} {xs : List D} (hk : ρ[k]? = some (some (.own xs))) (hz : xs.length < sizeLine) (h : Ev S te ρ fun d => P.nx (ρ.set k (some (.own (xs ++ [d]))))) : Run S (tDrop (tBM S.K "list" rAppend (tVar k) (tCons te tNil))) ρ P := fun B O σ H I Dv k1 _ _ _ => by
  obtain ⟨l, vs, hv, hl, e, is⟩ := I.own_at hk
  refine ⟨.ref l, hv, .inl ⟨rfl, _, .inl (.inl e)⟩, ?_⟩
  refine h O σ H I.env _ fun d v H1 l1 t1 i1 q => ?_
  obtain ⟨I1, s1⟩ := I.go l1 t1
  have nM : l ∉ S.M := I.env.outM k l ⟨_, hk, rfl, hv⟩
  have e1 := l1 _ _ nM e
  have is1 := is.ex (hid_le l1 I.env.sub)
  refine ⟨l, vs, v, rfl, rfl, e1, by rw [is.length]; exact hz, ?_⟩
  have ex : ∀ a u, hid O H1 a = some u → hid O (upd H1 l (.lst (vs ++ [v]))) a = some u := fun a u e => by
    obtain ⟨n, e⟩ := hid_some e
    rw [hid_out n, upd_ne fun z => n (by rw [z]; exact hl)]
    exact e
  obtain ⟨I2, s2⟩ := I1.mut (s' := .own (xs ++ [d])) (o := .lst (vs ++ [v])) hk rfl rfl hv hl ⟨_, upd_same, Iss.append (is1.ex ex) (.cons (i1.ex ex) .nil)⟩
  exact k1 _ _ _ _ I2 (s1.trans s2) q
/-- what was owned is from now on data -/
theorem EnvOk.freeze {S : Sys} {O : List Addr} {ρ : DEnv} {σ : St} {H : Hp} {k : Nat} {s : Sl} (I : EnvOk S O ρ σ H) (hk : ρ[k]? = some (some s)) (hs : s.isOwn = true) :
    ∃ l, σ[k]? = some (some (.ref l)) ∧ EnvOk S (O.filter (· ≠ l)) (ρ.set k (some (.dat s.d))) σ H := by
  obtain ⟨v, hv, q⟩ := I.at_ k s hk
  have : ∃ l, v = .ref l ∧ l ∈ O ∧ OwnOk S.K O H l s := by
    cases s with
    | dat d => cases hs
    | own xs => exact q
    | ownK xs => exact q
    | ownT xs => exact q
    | ownI C fs => exact q
  obtain ⟨l, rfl, hl, ok⟩ := this
  have nM : l ∉ S.M := I.outM k l ⟨s, hk, hs, hv⟩
  have hsub : ∀ a ∈ O.filter (· ≠ l), a ∈ O := fun a ha => (List.mem_filter.mp ha).1
  have hl' : l ∉ O.filter (· ≠ l) := fun m => by simpa using (List.mem_filter.mp m).2
  have hd : Is S.K (hid (O.filter (· ≠ l)) H) (.ref l) s.d := by
    cases s with
    | dat d => cases hs
    | own xs =>
      obtain ⟨vs, e, is⟩ := ok
      exact .lst (by rw [hid_out hl']; exact e) (is.ex (hid_sub hsub))
    | ownK xs =>
      obtain ⟨us, e, k, is⟩ := ok
      exact .dK (.inl (by rw [hid_out hl']; exact e)) k (is.ex (hid_sub hsub))
    | ownT xs =>
      obtain ⟨us, e, k, is⟩ := ok
      exact .dT (.inl (by rw [hid_out hl']; exact e)) k (is.ex (hid_sub hsub))
    | ownI C fs =>
      obtain ⟨dx, us, e, k, is⟩ := ok
      exact .obj (by rw [hid_out hl']; exact e) k (is.ex (hid_sub hsub))
  have hσ : σ.set k (some (.ref l)) = σ := by
    apply List.ext_getElem?
    intro j
    by_cases e : k = j
    · subst e
      have : k < σ.length := by
        by_cases h : k < σ.length
        · exact h
        · rw [List.getElem?_eq_none (by simpa using h)] at hv; cases hv
      rw [List.getElem?_set_self this, hv]
    · rw [List.getElem?_set_ne e]
  have own : ∀ i m, OwnAt (ρ.set k (some (.dat s.d))) σ m i → OwnAt ρ σ m i ∧ k ≠ i := fun i m h => by
    rw [← hσ] at h
    obtain ⟨h1, h2⟩ := h.of_set I.len
    exact ⟨h1, fun z => h2 z.symm⟩
  have oth : ∀ i u m, ρ[i]? = some (some u) → u.isOwn = true → σ[i]? = some (some (.ref m)) → k ≠ i → m ≠ l := fun i u m h1 h2 h3 e z => by
    subst z
    exact e (I.dis k i m ⟨s, hk, hs, hv⟩ ⟨u, h1, h2, h3⟩)
  have keep : ∀ m, m ∈ O → m ≠ l → m ∈ O.filter (· ≠ l) := fun m h n => List.mem_filter.mpr ⟨h, by simpa using n⟩
  refine ⟨l, hv, {
    len := by rw [List.length_set]; exact I.len
    t := I.t
    sub := fun a ha => keep a (I.sub a ha) fun z => nM (by rw [← z]; exact ha)
    live := fun a ha => I.live a (hsub a ha)
    at_ := fun i u hu => ?_
    dis := fun i j m hi hj => I.dis i j m (own _ _ hi).1 (own _ _ hj).1
    outM := fun i m hi => I.outM i m (own _ _ hi).1 }⟩
  by_cases e : k = i
  · subst e
    have hk' : k < ρ.length := by
      by_cases h : k < ρ.length
      · exact h
      · rw [List.getElem?_eq_none (by simpa using h)] at hk; cases hk
    rw [List.getElem?_set_self hk'] at hu
    cases hu
    exact ⟨.ref l, hv, hd⟩
  · rw [List.getElem?_set_ne e] at hu
    obtain ⟨v, h2, q⟩ := I.at_ i u hu
    refine ⟨v, h2, ?_⟩
    cases u with
    | dat d => exact Is.ex (hid_sub hsub) q
    | own xs =>
      obtain ⟨m, rfl, hm, vs, e2, q⟩ := q
      exact ⟨m, rfl, keep m hm (oth i _ m hu rfl h2 e), vs, e2, q.ex (hid_sub hsub)⟩
    | ownK xs =>
      obtain ⟨m, rfl, hm, us, e2, e3, q⟩ := q
      exact ⟨m, rfl, keep m hm (oth i _ m hu rfl h2 e), us, e2, e3, q.ex (hid_sub hsub)⟩
    | ownT xs =>
      obtain ⟨m, rfl, hm, us, e2, e3, q⟩ := q
      exact ⟨m, rfl, keep m hm (oth i _ m hu rfl h2 e), us, e2, e3, q.ex (hid_sub hsub)⟩
    | ownI C fs =>
      obtain ⟨m, rfl, hm, dx, us, e2, e3, q⟩ := q
      exact ⟨m, rfl, keep m hm (oth i _ m hu rfl h2 e), dx, us, e2, e3, q.ex (hid_sub hsub)⟩
theorem run_freeze {k : Nat} {s : Sl} (hk : ρ[k]? = some (some s)) (hs : s.isOwn = true) (h : Run S ts (ρ.set k (some (.dat s.d))) P) : Run S ts ρ P := fun B O σ H I Dv k1 k2 k3 k4 => by
  obtain ⟨l, hv, I'⟩ := I.env.freeze hk hs
  have h0 := I.own k l ⟨s, hk, hs, hv⟩
  have hσ : σ.set k (some (.ref l)) = σ := by
    apply List.ext_getElem?
    intro j
    by_cases e : k = j
    · subst e
      have : k < σ.length := by
        by_cases h : k < σ.length
        · exact h
        · rw [List.getElem?_eq_none (by simpa using h)] at hv; cases hv
      rw [List.getElem?_set_self this, hv]
    · rw [List.getElem?_set_ne e]
  have I2 : SOk S B (O.filter (· ≠ l)) (ρ.set k (some (.dat s.d))) σ H := ⟨I', fun a ha => List.mem_filter.mpr ⟨I.sub a ha, by simpa using fun z : a = l => I.live l (by rw [← z]; exact ha) h0⟩, I.le, I.live, fun i m hi => by
    rw [← hσ] at hi
    exact I.own i m (hi.of_set I.env.len).1⟩
  have st : Step O H (O.filter (· ≠ l)) H := ⟨fun a ha => .inl (List.mem_filter.mp ha).1, Le.refl _ _⟩
  exact h B _ σ H I2 Dv (fun ρ1 O1 σ1 H1 I1 s1 q => k1 ρ1 O1 σ1 H1 I1 (st.trans s1) q) k2 (fun ρ1 O1 σ1 H1 I1 s1 q => k3 ρ1 O1 σ1 H1 I1 (st.trans s1) q) fun ρ1 O1 σ1 H1 I1 s1 q => k4 ρ1 O1 σ1 H1 I1 (st.trans s1) q
/-- a value that no object is -/
def flatD : D → Bool
  | .non => true
  | .bl _ => true
  | .int _ => true
  | .str _ => true
  | .ty _ => true
  | _ => false
theorem is_flat {K : PySem.W.Frag} {H H' : Hp} {v : V} {d : D} (h : Is K H v d) (f : flatD d = true) : Is K H' v d := by
  cases h <;> first | exact .non | exact .bl _ | exact .int _ | exact .str _ | exact .ty _ | cases f
/-- an owned object is read -/
theorem ev_borrow {k : Nat} {s : Sl} {Q : D → Prop} (hk : ρ[k]? = some (some s)) (hs : s.isOwn = true) (h : Ev S te (ρ.set k (some (.dat s.d))) fun d => flatD d = true ∧ Q d) : Ev S te ρ Q := fun O σ H I Qv q => by
  obtain ⟨l, hv, I'⟩ := I.freeze hk hs
  exact h _ σ H I' _ fun d v H1 l1 t1 i1 ⟨f, c⟩ => q d v H1 l1 t1 (is_flat i1 f) c
theorem evt_borrow {tt : TT} {k : Nat} {s : Sl} {Q : Bool → Prop} (hk : ρ[k]? = some (some s)) (hs : s.isOwn = true) (h : EvT S tt (ρ.set k (some (.dat s.d))) Q) : EvT S tt ρ Q := fun O σ H I Qv q => by
  obtain ⟨l, hv, I'⟩ := I.freeze hk hs
  exact h _ σ H I' _ fun b H1 l1 t1 c => q b H1 l1 t1 c
end

/-! ### promises -/
/-- what a def asks of its arguments and gives, as a transformer over data -/
structure Fn where
  f : List D → (D → Prop) → Prop
  mono : ∀ ds Q Q', (∀ d, Q d → Q' d) → f ds Q → f ds Q'
def spF (S : Sys) (F : Fn) : Sp := fun vs H Q _ => ∃ O ds, S.T H ∧ (∀ a ∈ S.M, a ∈ O) ∧ (∀ a ∈ O, H a ≠ none) ∧ Iss S.K (hid O H) vs ds ∧ F.f ds fun d => ∀ v H', Le S.M H H' → S.T H' → Is S.K (hid O H') v d → Q v H'
def startD (N : List Str) (ds : List D) : DEnv := ds.map (fun d => some (.dat d)) ++ List.replicate (N.length - ds.length) none
theorem sok_start {S : Sys} {N : List Str} {O : List Addr} {H : Hp} {vs : List V} {ds : List D} (t : S.T H) (sub : ∀ a ∈ S.M, a ∈ O) (live : ∀ a ∈ O, H a ≠ none) (i : Iss S.K (hid O H) vs ds) : SOk S ⟨H, O⟩ O (startD N ds) (start N vs) H := by
  have at_ : ∀ (i : Nat) (s : Sl), (startD N ds)[i]? = some (some s) → ∃ d, s = .dat d ∧ ds[i]? = some d := fun i s h => by
    unfold startD at h
    by_cases hi : i < ds.length
    · rw [List.getElem?_append_left (by simpa using hi), List.getElem?_map] at h
      cases e : ds[i]? with
      | none => rw [e] at h; cases h
      | some d =>
        rw [e] at h
        exact ⟨d, (Option.some.inj (Option.some.inj h)).symm, rfl⟩
    · rw [List.getElem?_append_right (by simpa using hi), List.getElem?_replicate] at h
      split at h <;> cases h
  have no : ∀ i l, ¬ OwnAt (startD N ds) (start N vs) l i := fun i l ⟨s, h1, h2, _⟩ => by
    obtain ⟨d, rfl, _⟩ := at_ i s h1
    cases h2
  exact ⟨{
    len := by unfold startD L2.start; simp [i.length]
    t := t
    sub := sub
    live := live
    at_ := fun j s hs => by
      obtain ⟨d, rfl, hd⟩ := at_ j s hs
      obtain ⟨v, hv, iv⟩ := i.get hd
      refine ⟨v, ?_, iv⟩
      have hj : j < vs.length := by
        by_cases h : j < vs.length
        · exact h
        · rw [List.getElem?_eq_none (by simpa using h)] at hv; cases hv
      unfold L2.start
      rw [List.getElem?_append_left (by simpa using hj), List.getElem?_map, hv] <;> rfl
    dis := fun i j l h _ => (no i l h).elim
    outM := fun i l h => (no i l h).elim }, fun _ h => h, Le.refl _ _, live, fun i l h => (no i l h).elim⟩
/-- a def's body keeps its promise -/
theorem body_of {S : Sys} {F : Fn} {t : TS} {N : List Str} {vs : List V} {H : Hp} {Q : VK} {E : XK} (h : spF S F vs H Q E) (hr : ∀ ds R, F.f ds R → Run S t (startD N ds) ⟨fun _ => R .non, R, fun _ => False, fun _ => False⟩) :
    t { nx := fun _ H' => Q .non H', rt := Q } (start N vs) H := by
  obtain ⟨O, ds, tt, sub, live, i, f⟩ := h
  exact hr ds _ f ⟨H, O⟩ O _ H (sok_start tt sub live i) _ (fun ρ' O' σ' H' I' _ q => q .non H' I'.le I'.env.t .non) (fun d v H' l t i q => q v H' l t i) (fun _ _ _ _ _ _ q => q.elim) (fun _ _ _ _ _ _ q => q.elim)
/-- a call of a def that changes nothing -/
theorem ev_call {S : Sys} {ρ : DEnv} {F : Fn} {t : TA} {E : XK} {Q : D → Prop} (h : EvA S t ρ fun ds => F.f ds Q) : Ev S (tCall (spF (S0 S.K) F) [] E t) ρ Q := fun O σ H I Qv k => by
  refine h O σ H I _ fun ds vs H1 l1 t1 i1 q => ?_
  rw [List.append_nil]
  refine ⟨O, ds, trivial, fun a ha => absurd ha (by simp [S0]), (I.le l1 t1).live, i1, F.mono _ _ _ (fun d c v H' l _ i => ?_) q⟩
  have l' : Same H1 H' := fun a o e => l a o (by simp [S0]) e
  exact k d v H' (l1.trans (Le.same l')) (S.same _ _ l' t1) i c
/-- .. with defaults -/
theorem ev_callD {S : Sys} {ρ : DEnv} {F : Fn} {t : TA} {E : XK} {Q : D → Prop} {dvs : List V} {dds : List D} (hd : ∀ H, Iss S.K H dvs dds) (h : EvA S t ρ fun ds => F.f (ds ++ dds) Q) : Ev S (tCall (spF (S0 S.K) F) dvs E t) ρ Q := fun O σ H I Qv k => by
  refine h O σ H I _ fun ds vs H1 l1 t1 i1 q => ?_
  refine ⟨O, ds ++ dds, trivial, fun a ha => absurd ha (by simp [S0]), (I.le l1 t1).live, Iss.append i1 (hd _), F.mono _ _ _ (fun d c v H' l _ i => ?_) q⟩
  have l' : Same H1 H' := fun a o e => l a o (by simp [S0]) e
  exact k d v H' (l1.trans (Le.same l')) (S.same _ _ l' t1) i c
/-- a call of a def under the same law of change -/
theorem ev_callS {S : Sys} {ρ : DEnv} {F : Fn} {t : TA} {E : XK} {Q : D → Prop} {sp : Sp} (hsp : ∀ vs H Q E, spF S F vs H Q E → sp vs H Q E) (h : EvA S t ρ fun ds => F.f ds Q) : Ev S (tCall sp [] E t) ρ Q := fun O σ H I Qv k => by
  refine h O σ H I _ fun ds vs H1 l1 t1 i1 q => ?_
  rw [List.append_nil]
  refine hsp _ _ _ _ ⟨O, ds, t1, I.sub, (I.le l1 t1).live, i1, F.mono _ _ _ (fun d c v H' l t' i => ?_) q⟩
  exact k d v H' (l1.trans l) t' i c
end NB

end PART_NB3
section PART_NB4
set_option Elab.async false
set_option linter.all false
set_option maxRecDepth 100000
set_option maxHeartbeats 4000000
set_option autoImplicit false
/-! NB4: operators, built-ins, methods over data. -/
namespace NB
open PySem PySem.Spec PyProof.Rows L2

section
variable {K : PySem.W.Frag} {Q : D → Prop}
/-- the value of a flat datum -/
def dV : D → V
  | .non => .non
  | .bl b => .bl b
  | .int i => .int i
  | .str x => .str x
  | .ty n => .ty n
  | .loc a => .ref a
  | _ => .non
theorem is_dV {H : Hp} {v : V} {d : D} (h : Is K H v d) (f : flatD d = true) : v = dV d := by
  cases h <;> first | rfl | cases f
theorem iss_dV {H : Hp} : ∀ {vs : List V} {ds : List D}, Iss K H vs ds → ds.all flatD = true → vs = ds.map dV
  | _, _, .nil, _ => rfl
  | _, _, .cons h t, f => by
    rw [List.all_cons, Bool.and_eq_true] at f
    rw [is_dV h f.1, iss_dV t f.2, List.map_cons]
/-! ### ints -/
theorem rvr_ii {g : Int → Int → Int} {i j : Int} (q : Q (.int (g i j))) : RvR K (rI0 fun i j => .int (g i j)) (.int i) (.int j) Q := fun O H v u live hv hu Qv k =>
  ⟨i, j, is_int hv, is_int hu, k _ _ H (Same.refl _) (.int _) q⟩
theorem rvr_ib {g : Int → Int → Bool} {i j : Int} (q : Q (.bl (g i j))) : RvR K (rI0 fun i j => .bl (g i j)) (.int i) (.int j) Q := fun O H v u live hv hu Qv k =>
  ⟨i, j, is_int hv, is_int hu, k _ _ H (Same.refl _) (.bl _) q⟩
theorem rvr_iic {C : Int → Int → Prop} {g : Int → Int → Int} {i j : Int} (c : C i j) (q : Q (.int (g i j))) : RvR K (rI C fun i j => .int (g i j)) (.int i) (.int j) Q := fun O H v u live hv hu Qv k =>
  ⟨i, j, is_int hv, is_int hu, c, k _ _ H (Same.refl _) (.int _) q⟩
theorem rvu_neg {i : Int} (q : Q (.int (-i))) : RvU K (rU fun i => .int (-i)) (.int i) Q := fun O H v live hv Qv k => ⟨i, is_int hv, k _ _ H (Same.refl _) (.int _) q⟩
/-! ### == of flat data -/
theorem rvr_eq {x y : D} (fx : flatD x = true) (fy : flatD y = true) (s : scal (dV x) (dV y) = true) (q : Q (.bl (decide (dV x = dV y)))) : RvR K rEq x y Q := fun O H v u live hv hu Qv k => by
  rw [is_dV hv fx, is_dV hu fy]
  exact ⟨s, k _ _ H (Same.refl _) (.bl _) q⟩
theorem rvr_ne {x y : D} (fx : flatD x = true) (fy : flatD y = true) (s : scal (dV x) (dV y) = true) (q : Q (.bl (!decide (dV x = dV y)))) : RvR K rNe x y Q := fun O H v u live hv hu Qv k => by
  rw [is_dV hv fx, is_dV hu fy]
  exact ⟨s, k _ _ H (Same.refl _) (.bl _) q⟩
theorem dec_int (i j : Int) : decide (V.int i = V.int j) = decide (i = j) := by
  by_cases h : i = j
  · subst h; simp
  · simp [h]
theorem dec_str (i j : Str) : decide (V.str i = V.str j) = decide (i = j) := by
  by_cases h : i = j
  · subst h; simp
  · simp [h]
theorem dec_bl (i j : Bool) : decide (V.bl i = V.bl j) = decide (i = j) := by
  by_cases h : i = j
  · subst h; simp
  · simp [h]
theorem rvr_eqI {i j : Int} (q : Q (.bl (decide (i = j)))) : RvR K rEq (.int i) (.int j) Q := rvr_eq rfl rfl rfl (by show Q (.bl (decide (V.int i = V.int j))); rw [dec_int]; exact q)
theorem rvr_neI {i j : Int} (q : Q (.bl (!decide (i = j)))) : RvR K rNe (.int i) (.int j) Q := rvr_ne rfl rfl rfl (by show Q (.bl (!decide (V.int i = V.int j))); rw [dec_int]; exact q)
theorem rvr_eqS {i j : Str} (q : Q (.bl (decide (i = j)))) : RvR K rEq (.str i) (.str j) Q := rvr_eq rfl rfl rfl (by show Q (.bl (decide (V.str i = V.str j))); rw [dec_str]; exact q)
theorem rvr_neS {i j : Str} (q : Q (.bl (!decide (i = j)))) : RvR K rNe (.str i) (.str j) Q := rvr_ne rfl rfl rfl (by show Q (.bl (!decide (V.str i = V.str j))); rw [dec_str]; exact q)
theorem rvr_eqB {i j : Bool} (q : Q (.bl (decide (i = j)))) : RvR K rEq (.bl i) (.bl j) Q := rvr_eq rfl rfl rfl (by show Q (.bl (decide (V.bl i = V.bl j))); rw [dec_bl]; exact q)
/-! ### is None, is True -/
def isNon : D → Bool
  | .non => true
  | _ => false
theorem is_non_iff {H : Hp} {v : V} {d : D} (h : Is K H v d) : decide (v = .non) = isNon d := by
  cases h <;> first | rfl | exact decide_eq_false (fun z => by cases z)
def rIsN0 : R2 := fun x y H Q => y = .non ∧ Q (.bl (decide (x = .non))) H
def rNotN0 : R2 := fun x y H Q => y = .non ∧ Q (.bl (!decide (x = .non))) H
theorem op_isN0 {X : Cx} : OpR X (compareOp .Is) rIsN0 := op_isN
theorem op_notN0 {X : Cx} : OpR X (compareOp .IsNot) rNotN0 := op_notN
theorem rvr_isN {x : D} (q : Q (.bl (isNon x))) : RvR K rIsN0 x .non Q := fun O H v u live hv hu Qv k =>
  ⟨NB.is_non hu, by rw [is_non_iff hv]; exact k _ _ H (Same.refl _) (.bl _) q⟩
theorem rvr_notN {x : D} (q : Q (.bl (!isNon x))) : RvR K rNotN0 x .non Q := fun O H v u live hv hu Qv k =>
  ⟨NB.is_non hu, by rw [is_non_iff hv]; exact k _ _ H (Same.refl _) (.bl _) q⟩
def rIsB0 : R2 := fun x y H Q => ∃ a b, x = .bl a ∧ y = .bl b ∧ Q (.bl (decide (a = b))) H
def rNotB0 : R2 := fun x y H Q => ∃ a b, x = .bl a ∧ y = .bl b ∧ Q (.bl (!decide (a = b))) H
theorem op_isB0 {X : Cx} : OpR X (compareOp .Is) rIsB0 := op_is_bl
theorem op_notB0 {X : Cx} : OpR X (compareOp .IsNot) rNotB0 := op_isnot_bl
theorem rvr_isB {a b : Bool} (q : Q (.bl (decide (a = b)))) : RvR K rIsB0 (.bl a) (.bl b) Q := fun O H v u live hv hu Qv k => ⟨a, b, is_bl hv, is_bl hu, k _ _ H (Same.refl _) (.bl _) q⟩
theorem rvr_notB {a b : Bool} (q : Q (.bl (!decide (a = b)))) : RvR K rNotB0 (.bl a) (.bl b) Q := fun O H v u live hv hu Qv k => ⟨a, b, is_bl hv, is_bl hu, k _ _ H (Same.refl _) (.bl _) q⟩
/-! ### in a flat list or tuple -/
def inD (x : D) (ys : List D) : Bool := inV (dV x) (ys.map dV)
/-- flat, no type -/
def plainD : D → Bool
  | .non => true
  | .bl _ => true
  | .int _ => true
  | .str _ => true
  | _ => false
theorem plain_flat {d : D} (h : plainD d = true) : flatD d = true := by cases d <;> first | rfl | cases h
theorem plain_flatV {d : D} (h : plainD d = true) : flatV (dV d) = true := by cases d <;> first | rfl | cases h
theorem plain_all {ds : List D} (h : ds.all plainD = true) : ds.all flatD = true := by
  rw [List.all_eq_true] at h ⊢
  exact fun d m => plain_flat (h d m)
theorem plain_allV {ds : List D} (h : ds.all plainD = true) : (ds.map dV).all flatV = true := by
  rw [List.all_eq_true] at h ⊢
  intro v m
  obtain ⟨d, hd, rfl⟩ := List.mem_map.mp m
  exact plain_flatV (h d hd)
theorem rvr_in {neg : Bool} {x y : D} {ys : List D} (fx : plainD x = true) (hy : y = .lst ys ∨ y = .tup ys) (fy : ys.all plainD = true) (q : Q (.bl (if neg then !inD x ys else inD x ys))) : RvR K (rIn K neg) x y Q := fun O H v u live hv hu Qv k => by
  rw [is_dV hv (plain_flat fx)]
  rcases hy with rfl | rfl
  · obtain ⟨a, vs, rfl, hs, is⟩ := is_lst hu
    have e := iss_dV is (plain_all fy)
    subst e
    exact ⟨a, _, rfl, .inl (sqL_hid hs), plain_flatV fx, plain_allV fy, k _ _ H (Same.refl _) (.bl _) q⟩
  · obtain ⟨a, vs, rfl, hs, is⟩ := is_tup hu
    have e := iss_dV is (plain_all fy)
    subst e
    exact ⟨a, _, rfl, .inr (sqT_hid hs), plain_flatV fx, plain_allV fy, k _ _ H (Same.refl _) (.bl _) q⟩
/-! ### texts -/
def rAddS : R2 := fun x y H Q => ∃ i j, x = .str i ∧ y = .str j ∧ i.length + j.length ≤ sizeLine ∧ Q (.str (i ++ j)) H
theorem op_addS {X : Cx} : OpR X (binaryOp .Add) rAddS := op_add_str
theorem rvr_addS {i j : Str} (z : i.length + j.length ≤ sizeLine) (q : Q (.str (i ++ j))) : RvR K rAddS (.str i) (.str j) Q := fun O H v u live hv hu Qv k => ⟨i, j, is_str hv, is_str hu, z, k _ _ H (Same.refl _) (.str _) q⟩
/-- one sign in a text -/
def rInC : R2 := fun x y H Q => ∃ (c : Nat) (z : Str), x = .str ⟨#[c]⟩ ∧ y = .str z ∧ Q (.bl (decide (c ∈ z.cps.toList))) H
theorem op_inC {X : Cx} : OpR X (compareOp .In) rInC := op_in_sign
theorem rvr_inC {c : Nat} {z : Str} (q : Q (.bl (decide (c ∈ z.cps.toList)))) : RvR K rInC (.str ⟨#[c]⟩) (.str z) Q := fun O H v u live hv hu Qv k => ⟨c, z, is_str hv, is_str hu, k _ _ H (Same.refl _) (.bl _) q⟩
/-! ### items -/
theorem rvr_ixL {ds : List D} {i : Int} {d : D} (h : atI ds i = some d) (q : Q d) : RvR K (rIxL K) (.lst ds) (.int i) Q := fun O H v u live hv hu Qv k => by
  obtain ⟨a, vs, rfl, hs, is⟩ := is_lst hv
  have : ∃ w, atI vs i = some w ∧ Is K (hid O H) w d := by
    unfold atI at h ⊢
    rw [is.length]
    cases e : ixN ds.length i with
    | none => rw [e] at h; cases h
    | some j =>
      rw [e] at h
      exact is.get h
  obtain ⟨w, hw, iw⟩ := this
  exact ⟨a, vs, i, w, rfl, is_int hu, sqL_hid hs, hw, k _ _ H (Same.refl _) iw q⟩
theorem rvr_ixT {ds : List D} {i : Int} {d : D} (h : atI ds i = some d) (q : Q d) : RvR K (rIxT K) (.tup ds) (.int i) Q := fun O H v u live hv hu Qv k => by
  obtain ⟨a, vs, rfl, hs, is⟩ := is_tup hv
  have : ∃ w, atI vs i = some w ∧ Is K (hid O H) w d := by
    unfold atI at h ⊢
    rw [is.length]
    cases e : ixN ds.length i with
    | none => rw [e] at h; cases h
    | some j =>
      rw [e] at h
      exact is.get h
  obtain ⟨w, hw, iw⟩ := this
  exact ⟨a, vs, i, w, rfl, is_int hu, sqT_hid hs, hw, k _ _ H (Same.refl _) iw q⟩
theorem rvr_ixS {z : Str} {i : Int} {c : Nat} (hz : z.length ≤ sizeLine) (h : atI z.cps.toList i = some c) (q : Q (.str ⟨#[c]⟩)) : RvR K rIxS (.str z) (.int i) Q := fun O H v u live hv hu Qv k =>
  ⟨z, i, c, is_str hv, is_int hu, hz, h, k _ _ H (Same.refl _) (.str _) q⟩
/-- any of the three -/
theorem rvr_ixq_l {ds : List D} {i : Int} {d : D} (h : atI ds i = some d) (q : Q d) : RvR K (rIx K) (.lst ds) (.int i) Q := fun O H v u live hv hu Qv k => .inl (rvr_ixL h q O H v u live hv hu Qv k)
theorem rvr_ixq_t {ds : List D} {i : Int} {d : D} (h : atI ds i = some d) (q : Q d) : RvR K (rIx K) (.tup ds) (.int i) Q := fun O H v u live hv hu Qv k => .inr (.inl (rvr_ixT h q O H v u live hv hu Qv k))
theorem rvr_ixq_s {z : Str} {i : Int} {c : Nat} (hz : z.length ≤ sizeLine) (h : atI z.cps.toList i = some c) (q : Q (.str ⟨#[c]⟩)) : RvR K (rIx K) (.str z) (.int i) Q := fun O H v u live hv hu Qv k => .inr (.inr (rvr_ixS hz h q O H v u live hv hu Qv k))
theorem atI_ofNat {α : Type} {xs : List α} {j : Nat} {x : α} (h : xs[j]? = some x) : atI xs (j : Int) = some x := by
  have hj : j < xs.length := by
    by_cases q : j < xs.length
    · exact q
    · rw [List.getElem?_eq_none (by simpa using q)] at h; cases h
  unfold atI ixN
  rw [if_pos (by omega), if_pos (by omega)]
  simpa using h
theorem atI_of {α : Type} {xs : List α} {i : Int} {j : Nat} {x : α} (e : i = (j : Int)) (h : xs[j]? = some x) : atI xs i = some x := by
  rw [e]; exact atI_ofNat h
/-! ### slices -/
theorem evo_none {S : Sys} {ρ : DEnv} {Qo : Option Int → Prop} (q : Qo none) : EvO S tNoPart ρ Qo := fun O σ H I Qv k => k none H (Le.refl _ _) I.t q
theorem evo_some {S : Sys} {ρ : DEnv} {te : TE} {Qo : Option Int → Prop} (h : Ev S te ρ fun d => ∃ i, d = .int i ∧ Qo (some i)) : EvO S (tPart te) ρ Qo := fun O σ H I Qv k => by
  refine h O σ H I _ fun d v H1 l1 t1 i1 ⟨i, e, q⟩ => ?_
  subst e
  exact ⟨i, is_int i1, k _ H1 l1 t1 q⟩
def RvS (K : PySem.W.Frag) (r : V → Option Int → Option Int → Hp → VK → Prop) (x : D) (lo hi : Option Int) (Q : D → Prop) : Prop :=
  ∀ O H (v : V), (∀ a ∈ O, H a ≠ none) → Is K (hid O H) v x → ∀ Qv : VK, (∀ d w H', Same H H' → Is K (hid O H') w d → Q d → Qv w H') → r v lo hi H Qv
theorem ev_sl {S : Sys} {ρ : DEnv} {te : TE} {tl th : TO} {r : V → Option Int → Option Int → Hp → VK → Prop} (h : Ev S te ρ fun x => EvO S tl ρ fun lo => EvO S th ρ fun hi => RvS S.K r x lo hi Q) : Ev S (tSl r te tl th) ρ Q := fun O σ H I Qv k => by
  refine h O σ H I _ fun x v H1 l1 t1 i1 h1 => ?_
  refine h1 O σ H1 (I.le l1 t1) _ fun lo H2 l2 t2 h2 => ?_
  refine h2 O σ H2 (I.le (l1.trans l2) t2) _ fun hi H3 l3 t3 h3 => ?_
  have l := (l1.trans l2).trans l3
  refine h3 O H3 v (I.le l t3).live (i1.ex (hid_le (l2.trans l3) I.sub)) _ fun d w H4 s4 i4 c => ?_
  exact k d w H4 (l.trans (Le.same s4)) (S.same _ _ s4 t3) i4 c
theorem rvs_str {z : Str} {lo hi : Option Int} (hz : z.length ≤ sizeLine) (q : Q (.str (cutS z lo hi))) : RvS K rSlS (.str z) lo hi Q := fun O H v live hv Qv k => ⟨z, is_str hv, hz, k _ _ H (Same.refl _) (.str _) q⟩
def cutD (ds : List D) (lo hi : Option Int) : List D := (ds.drop (HT.sIx ds.length 0 lo)).take (HT.sIx ds.length ds.length hi - HT.sIx ds.length 0 lo)
theorem iss_cut {H : Hp} {vs : List V} {ds : List D} (h : Iss K H vs ds) (lo hi : Option Int) : Iss K H (cutV vs lo hi) (cutD ds lo hi) := by
  unfold cutV cutD
  rw [h.length]
  exact (h.drop _).take _
theorem rvs_lst {ds : List D} {lo hi : Option Int} (q : Q (.lst (cutD ds lo hi))) : RvS K (rSlL K) (.lst ds) lo hi Q := fun O H v live hv Qv k => by
  obtain ⟨a, vs, rfl, hs, is⟩ := is_lst hv
  exact ⟨a, vs, rfl, sqL_hid hs, fun p hp => k _ _ _ (Same.upd hp) (is_new_lst live hp (iss_cut is lo hi)) q⟩
/-! ### lists -/
theorem rvr_cat {xs ys : List D} (z : xs.length + ys.length ≤ sizeLine) (q : Q (.lst (xs ++ ys))) : RvR K rCat (.lst xs) (.lst ys) Q := fun O H v u live hv hu Qv k => by
  obtain ⟨a, vs, rfl, hs, is⟩ := is_lst hv
  obtain ⟨b, us, rfl, hs2, is2⟩ := is_lst hu
  exact ⟨a, b, vs, us, rfl, rfl, (hid_some hs).2, (hid_some hs2).2, by rw [is.length, is2.length]; exact z, fun p hp => k _ _ _ (Same.upd hp) (is_new_lst live hp (is.append is2)) q⟩
theorem rvr_rep {xs : List D} {n : Int} (h1 : -(2 ^ 63) ≤ n) (h2 : n < 2 ^ 63) (z : xs.length * n.toNat ≤ sizeLine) (q : Q (.lst (List.replicate n.toNat xs).flatten)) : RvR K rRep (.lst xs) (.int n) Q := fun O H v u live hv hu Qv k => by
  obtain ⟨a, vs, rfl, hs, is⟩ := is_lst hv
  exact ⟨a, n, vs, rfl, is_int hu, (hid_some hs).2, h1, h2, by rw [is.length]; exact z, fun p hp => k _ _ _ (Same.upd hp) (is_new_lst live hp (is.rep _)) q⟩
/-! ### built-ins -/
def rLenQ (K : PySem.W.Frag) : List V → Hp → VK → Prop := fun xs H Q => ∃ p ys, xs = [.ref p] ∧ (SqL K H p ys ∨ SqT K H p ys) ∧ Q (.int ys.length) H
def rLenS : List V → Hp → VK → Prop := fun xs H Q => ∃ z, xs = [.str z] ∧ z.length ≤ sizeLine ∧ Q (.int z.length) H
def rLenA (K : PySem.W.Frag) : List V → Hp → VK → Prop := fun xs H Q => rLenQ K xs H Q ∨ rLenS xs H Q
theorem cr_len {X : Cx} : CallR X (.builtin "len") (rLenA X.K) := CallR.or call_len_seq call_len_str
theorem iss1 {H : Hp} {vs : List V} {d : D} (h : Iss K H vs [d]) : ∃ v, vs = [v] ∧ Is K H v d := by
  obtain ⟨v, ws, rfl, i, j⟩ := iss_cons h
  rw [iss_nil j]
  exact ⟨v, rfl, i⟩
theorem iss2 {H : Hp} {vs : List V} {d e : D} (h : Iss K H vs [d, e]) : ∃ v u, vs = [v, u] ∧ Is K H v d ∧ Is K H u e := by
  obtain ⟨v, ws, rfl, i, j⟩ := iss_cons h
  obtain ⟨u, rfl, k⟩ := iss1 j
  exact ⟨v, u, rfl, i, k⟩
theorem rvc_lenL {ds : List D} (q : Q (.int ds.length)) : RvC K (rLenA K) [.lst ds] Q := fun O H vs live hi Qv k => by
  obtain ⟨v, rfl, i⟩ := iss1 hi
  obtain ⟨a, us, rfl, hs, is⟩ := is_lst i
  exact .inl ⟨a, us, rfl, .inl (sqL_hid hs), by rw [is.length]; exact k _ _ H (Same.refl _) (.int _) q⟩
theorem rvc_lenT {ds : List D} (q : Q (.int ds.length)) : RvC K (rLenA K) [.tup ds] Q := fun O H vs live hi Qv k => by
  obtain ⟨v, rfl, i⟩ := iss1 hi
  obtain ⟨a, us, rfl, hs, is⟩ := is_tup i
  exact .inl ⟨a, us, rfl, .inr (sqT_hid hs), by rw [is.length]; exact k _ _ H (Same.refl _) (.int _) q⟩
theorem rvc_lenS {z : Str} (hz : z.length ≤ sizeLine) (q : Q (.int z.length)) : RvC K (rLenA K) [.str z] Q := fun O H vs live hi Qv k => by
  obtain ⟨v, rfl, i⟩ := iss1 hi
  exact .inr ⟨z, by rw [is_str i], hz, k _ _ H (Same.refl _) (.int _) q⟩
def rInt1 : List V → Hp → VK → Prop := fun xs H Q => (∃ i, xs = [.int i] ∧ Q (.int i) H) ∨ ∃ k, xs = [.bl k] ∧ Q (.int (if k then 1 else 0)) H
theorem cr_int {X : Cx} : CallR X (.type "int") rInt1 := call_int1
theorem rvc_intI {i : Int} (q : Q (.int i)) : RvC K rInt1 [.int i] Q := fun O H vs live hi Qv k => by
  obtain ⟨v, rfl, h⟩ := iss1 hi
  exact .inl ⟨i, by rw [is_int h], k _ _ H (Same.refl _) (.int _) q⟩
theorem rvc_intB {b : Bool} (q : Q (.int (if b then 1 else 0))) : RvC K rInt1 [.bl b] Q := fun O H vs live hi Qv k => by
  obtain ⟨v, rfl, h⟩ := iss1 hi
  exact .inr ⟨b, by rw [is_bl h], k _ _ H (Same.refl _) (.int _) q⟩
theorem iss_bls {H : Hp} : ∀ {vs : List V} {bs : List Bool}, Iss K H vs (bs.map D.bl) → vs = bs.map V.bl
  | _, [], h => iss_nil h
  | _, b :: bs, h => by
    obtain ⟨v, ws, rfl, i, j⟩ := iss_cons h
    rw [is_bl i, iss_bls j, List.map_cons]
theorem iss_strs {H : Hp} : ∀ {vs : List V} {bs : List Str}, Iss K H vs (bs.map D.str) → vs = bs.map V.str
  | _, [], h => iss_nil h
  | _, b :: bs, h => by
    obtain ⟨v, ws, rfl, i, j⟩ := iss_cons h
    rw [is_str i, iss_strs j, List.map_cons]
theorem iss_ints {H : Hp} : ∀ {vs : List V} {bs : List Int}, Iss K H vs (bs.map D.int) → vs = bs.map V.int
  | _, [], h => iss_nil h
  | _, b :: bs, h => by
    obtain ⟨v, ws, rfl, i, j⟩ := iss_cons h
    rw [is_int i, iss_ints j, List.map_cons]
theorem rvc_all {bs : List Bool} (q : Q (.bl (bs.all id))) : RvC K (rAll K) [.lst (bs.map .bl)] Q := fun O H vs live hi Qv k => by
  obtain ⟨v, rfl, h⟩ := iss1 hi
  obtain ⟨a, us, rfl, hs, is⟩ := is_lst h
  rw [iss_bls is] at hs
  exact ⟨a, bs, rfl, sqL_hid hs, k _ _ H (Same.refl _) (.bl _) q⟩
theorem rvc_any {bs : List Bool} (q : Q (.bl (bs.any id))) : RvC K (rAny K) [.lst (bs.map .bl)] Q := fun O H vs live hi Qv k => by
  obtain ⟨v, rfl, h⟩ := iss1 hi
  obtain ⟨a, us, rfl, hs, is⟩ := is_lst h
  rw [iss_bls is] at hs
  exact ⟨a, bs, rfl, sqL_hid hs, k _ _ H (Same.refl _) (.bl _) q⟩
def rListQ (K : PySem.W.Frag) : List V → Hp → VK → Prop := fun xs H Q => ∃ p ys, xs = [.ref p] ∧ (SqL K H p ys ∨ SqT K H p ys) ∧ ∀ l, H l = none → Q (.ref l) (upd H l (.lst ys))
theorem cr_list {X : Cx} : CallR X (.type "list") (rListQ X.K) := call_list_of
theorem rvc_list {x : D} {ds : List D} (hx : x = .lst ds ∨ x = .tup ds) (q : Q (.lst ds)) : RvC K (rListQ K) [x] Q := fun O H vs live hi Qv k => by
  obtain ⟨v, rfl, h⟩ := iss1 hi
  rcases hx with rfl | rfl
  · obtain ⟨a, us, rfl, hs, is⟩ := is_lst h
    exact ⟨a, us, rfl, .inl (sqL_hid hs), fun p hp => k _ _ _ (Same.upd hp) (is_new_lst live hp is) q⟩
  · obtain ⟨a, us, rfl, hs, is⟩ := is_tup h
    exact ⟨a, us, rfl, .inr (sqT_hid hs), fun p hp => k _ _ _ (Same.upd hp) (is_new_lst live hp is) q⟩
def rTupQ (K : PySem.W.Frag) : List V → Hp → VK → Prop := fun xs H Q => ∃ p ys, xs = [.ref p] ∧ ((SqL K H p ys ∧ ∀ l, H l = none → Q (.ref l) (upd H l (.tup ys))) ∨ (SqT K H p ys ∧ Q (.ref p) H))
theorem cr_tup {X : Cx} : CallR X (.type "tuple") (rTupQ X.K) := call_tuple_of
theorem rvc_tupL {ds : List D} (q : Q (.tup ds)) : RvC K (rTupQ K) [.lst ds] Q := fun O H vs live hi Qv k => by
  obtain ⟨v, rfl, h⟩ := iss1 hi
  obtain ⟨a, us, rfl, hs, is⟩ := is_lst h
  exact ⟨a, us, rfl, .inl ⟨sqL_hid hs, fun p hp => k _ _ _ (Same.upd hp) (is_new_tup live hp is) q⟩⟩
theorem rvc_tupT {ds : List D} (q : Q (.tup ds)) : RvC K (rTupQ K) [.tup ds] Q := fun O H vs live hi Qv k => by
  obtain ⟨v, rfl, h⟩ := iss1 hi
  obtain ⟨a, us, rfl, hs, is⟩ := is_tup h
  exact ⟨a, us, rfl, .inr ⟨sqT_hid hs, k _ _ H (Same.refl _) (.tup hs is) q⟩⟩
/-! ### isinstance -/
def tyD : D → String
  | .non => "NoneType"
  | .bl _ => "bool"
  | .int _ => "int"
  | .str _ => "str"
  | .tup _ => "tuple"
  | .lst _ => "list"
  | .dK _ => "dict"
  | _ => "?"
/-- what isinstance can tell without the classes of the text -/
def basic : D → Bool
  | .ty _ => false
  | .loc _ => false
  | .dT _ => false
  | .obj _ _ => false
  | _ => true
theorem tyX_of {O : List Addr} {H : Hp} {v : V} {d : D} (h : Is K (hid O H) v d) (b : basic d = true) : TyX K H v (.type (tyD d)) := by
  cases h with
  | non => exact .base .non
  | bl c => exact .base (.bl c)
  | int i => exact .base (.int i)
  | str x => exact .base (.str x)
  | ty n => cases b
  | loc a => cases b
  | tup hs _ =>
    rcases hs with (h | ⟨o, h⟩) | ⟨o, its, n, h1, h2, _⟩
    · exact .base (.tup (hid_some h).2)
    · exact .fTuple (hid_some h).2
    · exact .kTuple h1 h2
  | lst hs _ => exact .base (.lst (hid_some hs).2)
  | dK hs _ _ =>
    rcases hs with h | ⟨o, h⟩
    · exact .base (.dK (hid_some h).2)
    · exact .fDict (hid_some h).2
  | dT hs _ _ => cases b
  | obj _ _ _ => cases b
theorem rvc_isi {d : D} {n : String} {r : Bool} (b : basic d = true) (e : kitB (tyD d) n = some r) (q : Q (.bl r)) : RvC K (rIsi K) [d, .ty n] Q := fun O H vs live hi Qv k => by
  obtain ⟨v, u, rfl, h1, h2⟩ := iss2 hi
  obtain rfl := is_ty h2
  exact ⟨v, .ty n, .type (tyD d), .type n, r, rfl, .ty n, tyX_of h1 b, kit_ty e, k _ _ H (Same.refl _) (.bl _) q⟩
theorem kit2 {t n m : String} {r1 r2 : Bool} (e1 : kitB t n = some r1) (e2 : kitB t m = some r2) : PySem.W.kitAny K (.type t) [.type n, .type m] = some (r1 || r2) := by
  unfold PySem.W.kitAny
  rw [kit_ty e1]
  cases r1 with
  | true => rfl
  | false =>
    show PySem.W.kitAny K (.type t) [.type m] = some r2
    unfold PySem.W.kitAny
    rw [kit_ty e2]
    cases r2 <;> rfl
theorem ev_isi2 {S : Sys} {ρ : DEnv} {te : TE} {n m : String} (h : Ev S te ρ fun d => ∃ r1 r2, basic d = true ∧ kitB (tyD d) n = some r1 ∧ kitB (tyD d) m = some r2 ∧ Q (.bl (r1 || r2))) :
    Ev S (tCB (rIsiT S.K) (tCons te (tCons (tTup (tCons (tC (.ty n)) (tCons (tC (.ty m)) tNil))) tNil))) ρ Q := fun O σ H I Qv k => by
  refine h O σ H I _ fun d v H1 l1 t1 i1 ⟨r1, r2, b, e1, e2, q⟩ => ?_
  refine ⟨by rw [sizeLine_eq]; exact (show 2 ≤ 16777216 by decide), fun p hp => ?_⟩
  refine ⟨v, p, [.ty n, .ty m], .type (tyD d), [.type n, .type m], r1 || r2, rfl, upd_same, .cons (.ty n) (.cons (.ty m) .nil), ?_, kit2 e1 e2, ?_⟩
  · exact tyX_of (O := O) (i1.ex fun a o e => by
      obtain ⟨x, e⟩ := hid_some e
      rw [hid_out x, upd_ne (ne_of_none e hp)]
      exact e) b
  · exact k _ _ _ (l1.trans (Le.same (Same.upd hp))) (S.same _ _ (Same.upd hp) t1) (.bl _) q
/-! ### methods -/
def RvM (K : PySem.W.Frag) (r : V → List V → Hp → VK → Prop) (x : D) (xs : List D) (Q : D → Prop) : Prop :=
  ∀ O H (v : V) (vs : List V), (∀ a ∈ O, H a ≠ none) → Is K (hid O H) v x → Iss K (hid O H) vs xs → ∀ Qv : VK, (∀ d w H', Same H H' → Is K (hid O H') w d → Q d → Qv w H') → r v vs H Qv
theorem ev_m0 {S : Sys} {ρ : DEnv} {r : V → List V → Hp → VK → Prop} {to : TE} (h : Ev S to ρ fun x => ∃ z, x = .str z ∧ RvM S.K r (.str z) [] Q) : Ev S (tM0 r to) ρ Q := fun O σ H I Qv k => by
  refine h O σ H I _ fun x v H1 l1 t1 i1 ⟨z, e, h1⟩ => ?_
  subst e
  refine ⟨⟨z, is_str i1⟩, ?_⟩
  refine h1 O H1 v [] (I.le l1 t1).live i1 .nil _ fun d w H3 s3 i3 c => ?_
  exact k d w H3 (l1.trans (Le.same s3)) (S.same _ _ s3 t1) i3 c
theorem ev_m1 {S : Sys} {ρ : DEnv} {r : V → List V → Hp → VK → Prop} {to te : TE} (h : Ev S to ρ fun x => ∃ z, x = .str z ∧ Ev S te ρ fun y => RvM S.K r (.str z) [y] Q) : Ev S (tM1 r to te) ρ Q := fun O σ H I Qv k => by
  refine h O σ H I _ fun x v H1 l1 t1 i1 ⟨z, e, h1⟩ => ?_
  subst e
  refine ⟨⟨z, is_str i1⟩, ?_⟩
  refine h1 O σ H1 (I.le l1 t1) _ fun y u H2 l2 t2 i2 h2 => ?_
  have I2 := I.le (l1.trans l2) t2
  refine h2 O H2 v [u] I2.live (i1.ex (hid_le l2 I.sub)) (.cons i2 .nil) _ fun d w H3 s3 i3 c => ?_
  exact k d w H3 ((l1.trans l2).trans (Le.same s3)) (S.same _ _ s3 t2) i3 c
def rJoinS (K : PySem.W.Frag) : V → List V → Hp → VK → Prop := fun x xs H Q => ∃ a p, ∃ ys : List Str, x = .str a ∧ xs = [.ref p] ∧ (SqL K H p (ys.map V.str) ∨ SqT K H p (ys.map V.str)) ∧
    (ys.map (·.length)).sum + ys.length * a.length ≤ 16777216 ∧ Q (.str (Txt.join a ys)) H
theorem mt_joinS {X : Cx} : MtR X "str.join" (rJoinS X.K) := mt_join
theorem rvm_join {a : Str} {ys : List Str} (z : (ys.map (·.length)).sum + ys.length * a.length ≤ 16777216) (q : Q (.str (Str.join a ys))) : RvM K (rJoinS K) (.str a) [.lst (ys.map .str)] Q := fun O H v vs live hv hvs Qv k => by
  obtain ⟨u, rfl, h⟩ := iss1 hvs
  obtain ⟨p, us, rfl, hs, is⟩ := is_lst h
  rw [iss_strs is] at hs
  exact ⟨a, p, ys, is_str hv, rfl, .inl (sqL_hid hs), z, by rw [show Txt.join a ys = Str.join a ys from TL.join_eq a ys]; exact k _ _ H (Same.refl _) (.str _) q⟩
end
end NB

end PART_NB4
section PART_NB5
set_option Elab.async false
set_option linter.all false
set_option maxRecDepth 100000
set_option maxHeartbeats 4000000
set_option autoImplicit false
/-! NB5: operators that serve several kinds; defs by their promises. -/
namespace NB
open PySem PySem.Spec PyProof.Rows L2

section
variable {K : PySem.W.Frag} {Q : D → Prop} {X : Cx}
/-! ### + -/
def rAddX (K : PySem.W.Frag) : R2 := fun x y H Q => rI0 (fun i j => .int (i + j)) x y H Q ∨ rAddS x y H Q ∨ rCat x y H Q ∨ rCatA K x y H Q
theorem op_addX : OpR X (binaryOp .Add) (rAddX X.K) := OpR.or op_add (OpR.or op_addS (OpR.or op_cat op_catA))
theorem rvr_addX_i {i j : Int} (q : Q (.int (i + j))) : RvR K (rAddX K) (.int i) (.int j) Q := fun O H v u live hv hu Qv k => .inl (rvr_ii (g := fun i j => i + j) q O H v u live hv hu Qv k)
theorem rvr_addX_s {i j : Str} (z : i.length + j.length ≤ sizeLine) (q : Q (.str (i ++ j))) : RvR K (rAddX K) (.str i) (.str j) Q := fun O H v u live hv hu Qv k => .inr (.inl (rvr_addS z q O H v u live hv hu Qv k))
theorem rvr_addX_l {xs ys : List D} (z : xs.length + ys.length ≤ sizeLine) (q : Q (.lst (xs ++ ys))) : RvR K (rAddX K) (.lst xs) (.lst ys) Q := fun O H v u live hv hu Qv k => .inr (.inr (.inl (rvr_cat z q O H v u live hv hu Qv k)))
/-! ### * -/
def rMulX : R2 := fun x y H Q => rI CMul (fun i j => .int (i * j)) x y H Q ∨ rRep x y H Q
theorem op_mulX : OpR X (binaryOp .Mult) rMulX := OpR.or op_mul op_rep
theorem rvr_mulX_i {i j : Int} (c : CMul i j) (q : Q (.int (i * j))) : RvR K rMulX (.int i) (.int j) Q := fun O H v u live hv hu Qv k => .inl (rvr_iic (g := fun i j => i * j) c q O H v u live hv hu Qv k)
theorem rvr_mulX_l {xs : List D} {n : Int} (h1 : -(2 ^ 63) ≤ n) (h2 : n < 2 ^ 63) (z : xs.length * n.toNat ≤ sizeLine) (q : Q (.lst (List.replicate n.toNat xs).flatten)) : RvR K rMulX (.lst xs) (.int n) Q := fun O H v u live hv hu Qv k => .inr (rvr_rep h1 h2 z q O H v u live hv hu Qv k)
/-! ### in -/
def rInX (K : PySem.W.Frag) (neg : Bool) : R2 := fun x y H Q => rIn K neg x y H Q ∨ (∃ (c : Nat) (z : Str), x = .str ⟨#[c]⟩ ∧ y = .str z ∧ Q (.bl (if neg then !decide (c ∈ z.cps.toList) else decide (c ∈ z.cps.toList))) H)
theorem op_inX : OpR X (compareOp .In) (rInX X.K false) := OpR.or op_in_seq op_in_sign
theorem op_notInX : OpR X (compareOp .NotIn) (rInX X.K true) := OpR.or op_notIn_seq op_notIn_sign
theorem rvr_inX_l {neg : Bool} {x : D} {ys : List D} (fx : plainD x = true) (fy : ys.all plainD = true) (q : Q (.bl (if neg then !inD x ys else inD x ys))) : RvR K (rInX K neg) x (.lst ys) Q := fun O H v u live hv hu Qv k => .inl (rvr_in fx (.inl rfl) fy q O H v u live hv hu Qv k)
theorem rvr_inX_t {neg : Bool} {x : D} {ys : List D} (fx : plainD x = true) (fy : ys.all plainD = true) (q : Q (.bl (if neg then !inD x ys else inD x ys))) : RvR K (rInX K neg) x (.tup ys) Q := fun O H v u live hv hu Qv k => .inl (rvr_in fx (.inr rfl) fy q O H v u live hv hu Qv k)
theorem rvr_inX_c {neg : Bool} {c : Nat} {z : Str} (q : Q (.bl (if neg then !decide (c ∈ z.cps.toList) else decide (c ∈ z.cps.toList)))) : RvR K (rInX K neg) (.str ⟨#[c]⟩) (.str z) Q := fun O H v u live hv hu Qv k => .inr ⟨c, z, is_str hv, is_str hu, k _ _ H (Same.refl _) (.bl _) q⟩
/-! ### slices -/
def rSlX2 (K : PySem.W.Frag) : V → Option Int → Option Int → Hp → VK → Prop := fun x lo hi H Q => rSlL K x lo hi H Q ∨ rSlS x lo hi H Q
theorem sl_any : SlR X (rSlX2 X.K) := SlR.or sl_list sl_str
theorem rvs_any_l {ds : List D} {lo hi : Option Int} (q : Q (.lst (cutD ds lo hi))) : RvS K (rSlX2 K) (.lst ds) lo hi Q := fun O H v live hv Qv k => .inl (rvs_lst q O H v live hv Qv k)
theorem rvs_any_s {z : Str} {lo hi : Option Int} (hz : z.length ≤ sizeLine) (q : Q (.str (cutS z lo hi))) : RvS K (rSlX2 K) (.str z) lo hi Q := fun O H v live hv Qv k => .inr (rvs_str hz q O H v live hv Qv k)
theorem iteB {c : Bool} {A B : Prop} (h1 : c = true → A) (h2 : c = false → B) : if c = true then A else B := by
  cases c with
  | true => exact h1 rfl
  | false => exact h2 rfl
theorem iss_of_strs {K : PySem.W.Frag} {H : Hp} : ∀ xs : List Str, Iss K H (xs.map V.str) (xs.map D.str)
  | [] => .nil
  | x :: xs => .cons (.str x) (iss_of_strs xs)
/-! ### zip of two lists or two tuples -/
theorem evi_zipA {S : Sys} {ρ : DEnv} {ta : TA} {Q : List D → Prop} (h : EvA S ta ρ fun ds => ∃ xs ys, (ds = [.lst xs, .lst ys] ∨ ds = [.tup xs, .tup ys]) ∧ Q (zipD xs ys)) : EvI S (RZ.iZipA S.K ta) ρ Q := fun O σ H I R k => by
  refine h O σ H I _ fun ds vs H1 l1 t1 i1 ⟨xs, ys, e, q⟩ => ?_
  rcases e with rfl | rfl
  · obtain ⟨v, ws, rfl, i2, i3⟩ := iss_cons i1
    obtain ⟨v', ws', rfl, i4, i5⟩ := iss_cons i3
    obtain rfl := iss_nil i5
    obtain ⟨a, vs, rfl, hs, is⟩ := is_lst i2
    obtain ⟨b, us, rfl, hs2, is2⟩ := is_lst i4
    refine ⟨a, b, vs, us, rfl, .inl ⟨sqL_hid hs, sqL_hid hs2, k _ (zipD xs ys) H1 l1 t1 ?_ q⟩⟩
    have hl : (zipD xs ys).length = min vs.length us.length := by simp [zipD, is.length, is2.length]
    rw [hl]
    refine (walk_zip (xs := vs) (ys := us) rfl).mono (fun H2 l2 => ⟨sqL_hid (hid_later l2 (fun a h => .inl h) _ _ hs), sqL_hid (hid_later l2 (fun a h => .inl h) _ _ hs2)⟩) fun i H2 v H3 hi l2 y => ?_
    obtain ⟨T, x, y, rfl, hT, rfl, hx, hy⟩ := y
    obtain ⟨d, hd, id⟩ := is.getV hx
    obtain ⟨d', hd', id'⟩ := is2.getV hy
    refine ⟨Same.upd hT, .tup [d, d'], ?_, fun O' new live => is_pair hT live (id.ex (hid_later l2 new)) (id'.ex (hid_later l2 new))⟩
    have hz : (xs.zip ys)[i]? = some (d, d') := List.getElem?_zip_eq_some.mpr (by exact ⟨hd, hd'⟩)
    simp [zipD, hz]
  · obtain ⟨v, ws, rfl, i2, i3⟩ := iss_cons i1
    obtain ⟨v', ws', rfl, i4, i5⟩ := iss_cons i3
    obtain rfl := iss_nil i5
    obtain ⟨a, vs, rfl, hs, is⟩ := is_tup i2
    obtain ⟨b, us, rfl, hs2, is2⟩ := is_tup i4
    refine ⟨a, b, vs, us, rfl, .inr ⟨sqT_hid hs, sqT_hid hs2, k _ (zipD xs ys) H1 l1 t1 ?_ q⟩⟩
    have hl : (zipD xs ys).length = min vs.length us.length := by simp [zipD, is.length, is2.length]
    rw [hl]
    have lat : ∀ {a : Addr} {ws : List V} {H2 : Hp}, Le O H1 H2 → SqT S.K (hid O H1) a ws → SqT S.K H2 a ws := fun l2 hs => sqT_hid (sqT_ex (hid_later l2 (fun a h => .inl h)) hs)
    refine (L2.Walk.mk (J := RZ.ItzT S.K a b) (n := min vs.length us.length) (G := fun H => SqT S.K H a vs ∧ SqT S.K H b us) (Y := YPair (fun i => vs[i]?) (fun i => us[i]?)) ?_ ?_ ?_).mono (fun H2 l2 => ⟨lat l2 hs, lat l2 hs2⟩) fun i H2 v H3 hi l2 y => ?_
    · intro i H hi q
      have h1 : i < vs.length := by omega
      have h2 : i < us.length := by omega
      exact ⟨vs, us, vs[i], us[i], q.1, q.2, by simp [h1], by simp [h2]⟩
    · intro H q
      exact ⟨vs, us, q.1, q.2, by omega⟩
    · intro i H v H' _ q y
      obtain ⟨T, x, z, h1, h2, h3, h4, h5⟩ := y
      exact ⟨T, x, z, h1, h2, h3, h4 vs q.1, h5 us q.2⟩
    obtain ⟨T, x, y, rfl, hT, rfl, hx, hy⟩ := y
    obtain ⟨d, hd, id⟩ := is.getV hx
    obtain ⟨d', hd', id'⟩ := is2.getV hy
    refine ⟨Same.upd hT, .tup [d, d'], ?_, fun O' new live => is_pair hT live (id.ex (hid_later l2 new)) (id'.ex (hid_later l2 new))⟩
    have hz : (xs.zip ys)[i]? = some (d, d') := List.getElem?_zip_eq_some.mpr (by exact ⟨hd, hd'⟩)
    simp [zipD, hz]
/-! ### chains of comparisons -/
theorem ev_chain {S : Sys} {ρ : DEnv} {r r' : R2} {ta tb tc : TE} (h : Ev S ta ρ fun x => Ev S tb ρ fun y => RvR S.K r x y fun z => ∃ b, z = .bl b ∧ if b = true then Ev S tc ρ (fun w => RvR S.K r' y w Q) else Q (.bl false)) : Ev S (tChain r r' ta tb tc) ρ Q := fun O σ H I Qv k => by
  refine h O σ H I _ fun x v H1 l1 t1 i1 h1 => ?_
  refine h1 O σ H1 (I.le l1 t1) _ fun y u H2 l2 t2 i2 h2 => ?_
  have I2 := I.le (l1.trans l2) t2
  refine h2 O H2 v u I2.live (i1.ex (hid_le l2 I.sub)) i2 _ fun d w H3 s3 i3 ⟨b, e, c⟩ => ?_
  subst e
  have t3 := S.same _ _ s3 t2
  have l3 := (l1.trans l2).trans (Le.same s3)
  refine ⟨b, is_bl i3, ?_⟩
  cases b with
  | true =>
    rw [if_pos rfl]
    refine c O σ H3 (I.le l3 t3) _ fun w' v' H4 l4 t4 i4 h4 => ?_
    have I4 := I.le (l3.trans l4) t4
    refine h4 O H4 u v' I4.live ((i2.ex (hid_le (Le.same s3) I.sub)).ex (hid_le l4 I.sub)) i4 _ fun d w H5 s5 i5 c5 => ?_
    exact k d w H5 ((l3.trans l4).trans (Le.same s5)) (S.same _ _ s5 t4) i5 c5
  | false =>
    rw [if_neg Bool.false_ne_true]
    exact k _ _ H3 l3 t3 (.bl false) c
/-! ### items of lists: stores into an owned list come by statements -/
end

/-! ### the rules with the text K told (within a comprehension it can't be guessed) -/
namespace R
section
variable {X : Cx}
theorem op_addX (K : PySem.W.Frag) (h : X.K = K := by rfl) : OpR X (binaryOp .Add) (rAddX K) := h ▸ NB.op_addX
theorem op_inX (K : PySem.W.Frag) (h : X.K = K := by rfl) : OpR X (compareOp .In) (rInX K false) := h ▸ NB.op_inX
theorem op_notInX (K : PySem.W.Frag) (h : X.K = K := by rfl) : OpR X (compareOp .NotIn) (rInX K true) := h ▸ NB.op_notInX
theorem ix_seq (K : PySem.W.Frag) (h : X.K = K := by rfl) : IxR X (rIx K) := h ▸ L2.ix_seq
theorem sl_any (K : PySem.W.Frag) (h : X.K = K := by rfl) : SlR X (rSlX2 K) := h ▸ NB.sl_any
theorem cr_len (K : PySem.W.Frag) (h : X.K = K := by rfl) : CallR X (.builtin "len") (rLenA K) := h ▸ NB.cr_len
theorem cr_all (K : PySem.W.Frag) (h : X.K = K := by rfl) (hc : X.calm = true := by rfl) : CallR X (.builtin "all") (rAll K) := h ▸ L2.cr_all hc
theorem cr_any (K : PySem.W.Frag) (h : X.K = K := by rfl) (hc : X.calm = true := by rfl) : CallR X (.builtin "any") (rAny K) := h ▸ L2.cr_any hc
theorem cr_list (K : PySem.W.Frag) (h : X.K = K := by rfl) : CallR X (.type "list") (rListQ K) := h ▸ NB.cr_list
theorem cr_tup (K : PySem.W.Frag) (h : X.K = K := by rfl) : CallR X (.type "tuple") (rTupQ K) := h ▸ NB.cr_tup
theorem call_isi (K : PySem.W.Frag) (h : X.K = K := by rfl) : CallR X (.builtin "isinstance") (rIsi K) := h ▸ L2.call_isi
theorem call_isiT (K : PySem.W.Frag) (h : X.K = K := by rfl) : CallR X (.builtin "isinstance") (rIsiT K) := h ▸ L2.call_isiT
theorem mt_joinS (K : PySem.W.Frag) (h : X.K = K := by rfl) : MtR X "str.join" (rJoinS K) := h ▸ NB.mt_joinS
theorem pi_list (K : PySem.W.Frag) {tg l : Expr} {tl : TE} (hl : PE X l tl) (h : X.K = K := by rfl) : PI X tg l (iList K tl) := h ▸ L2.pi_list hl
theorem pi_tup (K : PySem.W.Frag) {tg l : Expr} {tl : TE} (hl : PE X l tl) (h : X.K = K := by rfl) : PI X tg l (iTup K tl) := h ▸ L2.pi_tup hl
theorem pi_zipA (K : PySem.W.Frag) {e e2 : Expr} {ta : TA} {p pos tpos : Pos} {elts : List Expr} {kk : Nat} (hg : Gl X "zip") (hm : X.mg "zip" = none) (ha : PA X [e, e2] ta) (h : X.K = K := by rfl) (hs : starEach [e, e2] X.env = (false, eval e X.env) :: starEach [e2] X.env := by rfl) (hpl : (backTo pos (starEach [e2] X.env)).any (·.1) = false := by rfl) :
    PI X (.Tuple elts kk tpos) (.Call (.Name "zip" p) [e, e2] [] pos) (RZ.iZipA K ta) := h ▸ RZ.pi_zipA hg hm ha hs hpl
theorem pi_enum (K : PySem.W.Frag) {e : Expr} {ta : TA} {p pos tpos : Pos} {elts : List Expr} {kk : Nat} (hg : Gl X "enumerate") (hm : X.mg "enumerate" = none) (ha : PA X [e] ta) (h : X.K = K := by rfl) (hs : starEach [e] X.env = [(false, eval e X.env)] := by rfl) :
    PI X (.Tuple elts kk tpos) (.Call (.Name "enumerate" p) [e] [] pos) (iEnum K ta) := h ▸ L2.pi_enum hg hm ha hs
theorem pg_tup (K : PySem.W.Frag) {es : List Expr} {k : Nat} {pos : Pos} {t : TGs} {n : Nat} (ht : PGs X es t) (h : X.K = K := by rfl) (hc : X.calm = true := by rfl) (hn : (assignEach es X.env).length = n := by rfl) (hst : (assignEach es X.env).findIdx? (·.1) = none := by rfl) : PG X (.Tuple es k pos) (gTup K n t) := h ▸ L2.pg_tup hc ht hn hst
theorem pe_fld (K : PySem.W.Frag) {e : Expr} {f : Str} {pos : Pos} {ta : TE} (ha : PE X e ta) (hb : attributeBase e f X.env (eval e X.env) = eval e X.env := by rfl) (h : X.K = K := by rfl) : PE X (.Attribute e f pos) (tFld K ta f) := h ▸ L2.pe_fld ha hb
end
end R

/-! ### comprehensions over what is known of the source -/
section
variable {S : Sys} {ρ : DEnv} {g : TG} {te : TE} {tt : TT} {vs : List Nat} {Q : D → Prop}
theorem All2.mem {α β : Type} {R : α → β → Prop} : ∀ {l : List α} {ys : List β}, All2 R l ys → ∀ y ∈ ys, ∃ a ∈ l, R a y
  | _, _, .nil, _, h => by cases h
  | _, _, .cons h t, y, m => by
    rcases List.mem_cons.mp m with rfl | m
    · exact ⟨_, List.mem_cons_self, h⟩
    · obtain ⟨a, ha, r⟩ := All2.mem t y m
      exact ⟨a, List.mem_cons_of_mem _ ha, r⟩
theorem all2_flat {α : Type} {f : α → List D} : ∀ {l : List α} {yss : List (List D)}, All2 (fun a ys => ys = f a) l yss → yss.flatten = l.flatMap f
  | [], _, h => by cases h; rfl
  | a :: l, _, h => by
    cases h with
    | cons h t => rw [h, List.flatten_cons, all2_flat t, List.flatMap_cons]
theorem all2_single {α : Type} {R : α → D → Prop} : ∀ {l : List α} {yss : List (List D)}, All2 (fun a ys => ∃ y, ys = [y] ∧ R a y) l yss → ∃ ys, yss.flatten = ys ∧ All2 R l ys
  | [], _, h => by cases h; exact ⟨[], rfl, .nil⟩
  | a :: l, _, h => by
    cases h with
    | cons h t =>
      obtain ⟨y, rfl, r⟩ := h
      obtain ⟨ys, e, t⟩ := all2_single t
      exact ⟨y :: ys, by rw [List.flatten_cons, e] <;> rfl, .cons r t⟩
def LcGoal (S : Sys) (ρ : DEnv) (g : TG) (tt : TT) (te : TE) (vs : List Nat) (Q : D → Prop) (xs0 : List D) : Prop := ∃ (α : Type) (xs : List α) (src : α → D), xs0 = xs.map src ∧ ∃ R : α → List D → Prop, (∀ x ∈ xs, EvG S vs g (wipeD ρ vs) (src x) fun ρ1 => EvT S tt ρ1 fun b => if b = true then Ev S te ρ1 (fun y => R x [y]) else R x []) ∧ xs.length ≤ sizeLine ∧ ∀ yss, All2 R xs yss → Q (.lst yss.flatten)
/-- [elt for t in l] -/
theorem lc_map {α : Type} {l : List α} (src : α → D) (f : α → D) (hz : l.length ≤ sizeLine) (he : ∀ a ∈ l, EvG S vs g (wipeD ρ vs) (src a) fun ρ1 => Ev S te ρ1 fun y => y = f a) (q : Q (.lst (l.map f))) : LcGoal S ρ g tYes te vs Q (l.map src) := by
  refine ⟨α, l, src, rfl, fun a ys => ys = [f a], fun a ha O σ H v I i Qs k => ?_, hz, fun yss h => ?_⟩
  · refine he a ha O σ H v I i Qs fun ρ' σ' I' w o q => k ρ' σ' I' w o (evt_yes ?_)
    rw [if_pos rfl]
    exact q.imp fun y e => by rw [e]
  · rw [all2_flat h]
    have : l.flatMap (fun a => [f a]) = l.map f := by
      clear he q h hz
      induction l with
      | nil => rfl
      | cons a l ih => rw [List.flatMap_cons, ih, List.map_cons] <;> rfl
    rw [this]
    exact q
/-- .. the element not told -/
theorem lc_any {α : Type} {l : List α} (src : α → D) (R : α → D → Prop) (hz : l.length ≤ sizeLine) (he : ∀ a ∈ l, EvG S vs g (wipeD ρ vs) (src a) fun ρ1 => Ev S te ρ1 (R a)) (q : ∀ ys, All2 R l ys → Q (.lst ys)) : LcGoal S ρ g tYes te vs Q (l.map src) := by
  refine ⟨α, l, src, rfl, fun a ys => ∃ y, ys = [y] ∧ R a y, fun a ha O σ H v I i Qs k => ?_, hz, fun yss h => ?_⟩
  · refine he a ha O σ H v I i Qs fun ρ' σ' I' w o q => k ρ' σ' I' w o (evt_yes ?_)
    rw [if_pos rfl]
    exact q.imp fun y e => ⟨y, rfl, e⟩
  · obtain ⟨ys, e, t⟩ := all2_single h
    rw [e]
    exact q ys t
/-- [elt for t in l if test] -/
theorem lc_filter {α : Type} {l : List α} (src : α → D) (p : α → Bool) (f : α → D) (hz : l.length ≤ sizeLine) (he : ∀ a ∈ l, EvG S vs g (wipeD ρ vs) (src a) fun ρ1 => EvT S tt ρ1 fun b => b = p a ∧ (b = true → Ev S te ρ1 fun y => y = f a)) (q : Q (.lst ((l.filter p).map f))) : LcGoal S ρ g tt te vs Q (l.map src) := by
  refine ⟨α, l, src, rfl, fun a ys => ys = if p a = true then [f a] else [], fun a ha O σ H v I i Qs k => ?_, hz, fun yss h => ?_⟩
  · refine he a ha O σ H v I i Qs fun ρ' σ' I' w o q => k ρ' σ' I' w o (q.imp fun b ⟨e, h⟩ => ?_)
    cases b with
    | true =>
      rw [if_pos rfl]
      exact (h rfl).imp fun y e2 => by
        show ([y] : List D) = if p a = true then [f a] else []
        rw [← e, if_pos rfl, e2]
    | false =>
      rw [if_neg Bool.false_ne_true]
      show ([] : List D) = if p a = true then [f a] else []
      rw [← e, if_neg Bool.false_ne_true]
  · rw [all2_flat h]
    have : l.flatMap (fun a => if p a = true then [f a] else []) = (l.filter p).map f := by
      clear he q h hz
      induction l with
      | nil => rfl
      | cons a l ih =>
        rw [List.flatMap_cons, ih]
        cases e : p a with
        | true => simp [List.filter_cons, e]
        | false => simp [List.filter_cons, e]
    rw [this]
    exact q
theorem ev_lcG {wi : TI} (h : EvI S wi ρ fun xs => LcGoal S ρ g tt te vs Q xs) : Ev S (tLc wi g tt te vs) ρ Q := ev_lc h
/-- all of tests told -/
theorem rvc_allF {K : PySem.W.Frag} {α : Type} {l : List α} {p : α → Bool} (q : Q (.bl (l.all p))) : RvC K (rAll K) [.lst (l.map fun a => .bl (p a))] Q := by
  have e : (l.map fun a => D.bl (p a)) = (l.map p).map D.bl := by rw [List.map_map] <;> rfl
  rw [e]
  refine rvc_all ?_
  have e2 : (l.map p).all id = l.all p := by rw [List.all_map] <;> rfl
  rw [e2]
  exact q
theorem rvc_anyF {K : PySem.W.Frag} {α : Type} {l : List α} {p : α → Bool} (q : Q (.bl (l.any p))) : RvC K (rAny K) [.lst (l.map fun a => .bl (p a))] Q := by
  have e : (l.map fun a => D.bl (p a)) = (l.map p).map D.bl := by rw [List.map_map] <;> rfl
  rw [e]
  refine rvc_any ?_
  have e2 : (l.map p).any id = l.any p := by rw [List.any_map] <;> rfl
  rw [e2]
  exact q
end

theorem _root_.L2.FunD.lk {K : PySem.W.Frag} {x qual : Str} {params : Arguments} {body : List Stmt} {scope : Scope} {dvs : List V} {kws : List (Str × V)} {f : Addr} {fd : FuncData} (F : FunD K x qual params body scope dvs kws f fd) : ∃ oc od osl, K.lookup f = some ⟨oc, od, .func fd, osl⟩ := by
  obtain ⟨oc, od, dV, kV, doc, pm, an, cdv, ct, osl, _, lk, _⟩ := F.ex
  exact ⟨oc, od, osl, lk⟩
/-! ### a def of the text, by its promise -/
def Has (P : Program) (w : World) (K : PySem.W.Frag) (mg : Str → Option Value) (base : Heap) (x : Str) (k : Nat) (ps : List Str) (sp : Sp) : Prop :=
  ∃ fd, FnOk P w K mg base CX0 k (He.ga K x) fd ps sp ∧ Binds K fd ps [] ∧ mg x = some (.ref (He.ga K x)) ∧ PySem.W.keepIn K (.ref (He.ga K x)) = true ∧ ∃ oc od osl, K.lookup (He.ga K x) = some ⟨oc, od, .func fd, osl⟩
section
variable {X : Cx} {x : Str} {k : Nat} {ps : List Str} {sp : Sp} {E : XK} {e : Expr} {es : List Expr} {p pos : Pos} {t : TA}
theorem pe_has (h : Has X.prog X.w X.K X.mg X.base x k ps sp) {j : Nat} (hr : Room j X.A) (ha : PA X (e :: es) t) (hj : k ≤ j := by first | decide | exact Nat.le_refl _ | omega) (hg : Gl X x := by rfl) (hdb : (x == ("__debug__" : Str)) = false := by decide) (he : starEach (e :: es) X.env = (false, eval e X.env) :: starEach es X.env := by rfl)
    (hpl : (backTo pos (starEach es X.env)).any (·.1) = false := by rfl) : PE X (.Call (.Name x p) (e :: es) [] pos) (tCall sp [] E0 t) := by
  obtain ⟨fd, F, b, g, kp, _⟩ := h
  exact pe_call F (hr.mono hj) hg g kp b .nil pass0 ha hdb he hpl
theorem pe_has0 (h : Has X.prog X.w X.K X.mg X.base x k ps sp) {j : Nat} (hr : Room j X.A) (hj : k ≤ j := by first | decide | exact Nat.le_refl _ | omega) (hg : Gl X x := by rfl) (hdb : (x == ("__debug__" : Str)) = false := by decide) : PE X (.Call (.Name x p) [] [] pos) (tCall sp [] E0 tNil) := by
  obtain ⟨fd, F, b, g, kp, _⟩ := h
  exact pe_call0 F (hr.mono hj) hg g kp b .nil pass0 hdb
/-- a def of the module keeps its promise -/
theorem has_of {P : Program} {w : World} {K : PySem.W.Frag} {mg : Str → Option Value} {base : Heap} {x : Str} {params : Arguments} {body : List Stmt} {scope : Scope} {N ps : List Str} {k : Nat} {sp : Sp}
    (F : ∃ fd, FunD K x x params body scope [] [] (He.ga K x) fd) (g : mg x = some (.ref (He.ga K x))) (S : FnScope N ps scope)
    (hb : ∀ (kV doc pm : Value) (an : Option Addr) (cdv ct : Value) (us : List Value), us.length = ps.length → bindArgs (PySem.W.fnOf x x params body scope .none kV doc pm an cdv ct) ⟨us, []⟩ = pure (ps.zip us))
    (len : ∀ vs H Q E, sp vs H Q E → vs.length = ps.length)
    (hbody : ∀ (f : Addr) (cdv : Value) (A : Around) (outer : List PySem.Env) (s : Shared) (H : Hp) (vs : List V) (Q : VK) (E : XK), Room k (A.deeper (envOfC x scope s.heap.objs.size f cdv)) → sp vs H Q E →
      ∃ t, PSs (cxOf CX0 P w K mg base N x scope f cdv A outer s H E).nox body t ∧ t { nx := fun _ H' => Q .non H', rt := Q } (L2.start N vs) H) : Has P w K mg base x (k + 1) ps sp := by
  obtain ⟨fd, F⟩ := F
  refine ⟨fd, F.ok S len fun cdv A outer s H vs Q E hr h => ?_, F.bindsN hb, g, F.kp, F.lk⟩
  obtain ⟨t, h1, h2⟩ := hbody _ cdv A outer s H vs Q E hr h
  exact ⟨t, h1.nox, h2⟩
/-- .. whose promise is over data -/
theorem has_ofD {P : Program} {w : World} {K : PySem.W.Frag} {mg : Str → Option Value} {base : Heap} {x : Str} {params : Arguments} {body : List Stmt} {scope : Scope} {N ps : List Str} {k : Nat} {Fx : Fn}
    (F : ∃ fd, FunD K x x params body scope [] [] (He.ga K x) fd) (g : mg x = some (.ref (He.ga K x))) (S : FnScope N ps scope)
    (hb : ∀ (kV doc pm : Value) (an : Option Addr) (cdv ct : Value) (us : List Value), us.length = ps.length → bindArgs (PySem.W.fnOf x x params body scope .none kV doc pm an cdv ct) ⟨us, []⟩ = pure (ps.zip us))
    (len : ∀ ds R, Fx.f ds R → ds.length = ps.length)
    (hbody : ∀ (f : Addr) (cdv : Value) (A : Around) (outer : List PySem.Env) (s : Shared) (H : Hp) (E : XK), Room k (A.deeper (envOfC x scope s.heap.objs.size f cdv)) →
      ∃ t, PSs (cxOf CX0 P w K mg base N x scope f cdv A outer s H E).nox body t ∧ ∀ ds R, Fx.f ds R → Run (S0 K) t (startD N ds) ⟨fun _ => R .non, R, fun _ => False, fun _ => False⟩) : Has P w K mg base x (k + 1) ps (spF (S0 K) Fx) :=
  has_of F g S hb (fun vs H Q E ⟨O, ds, _, _, _, i, f⟩ => i.length.trans (len ds _ f)) fun f cdv A outer s H vs Q E hr h => by
    obtain ⟨t, h1, h2⟩ := hbody f cdv A outer s H E hr
    exact ⟨t, h1, body_of h h2⟩
/-- .. over data, one law of change for each place p -/
def spT {ι : Type} (S : ι → Sys) (F : ι → Fn) : Sp := fun vs H Q E => ∃ p, spF (S p) (F p) vs H Q E
theorem has_ofT {ι : Type} {P : Program} {w : World} {K : PySem.W.Frag} {mg : Str → Option Value} {base : Heap} {x : Str} {params : Arguments} {body : List Stmt} {scope : Scope} {N ps : List Str} {k : Nat} {Sx : ι → Sys} {Fx : ι → Fn}
    (F : ∃ fd, FunD K x x params body scope [] [] (He.ga K x) fd) (g : mg x = some (.ref (He.ga K x))) (S : FnScope N ps scope)
    (hb : ∀ (kV doc pm : Value) (an : Option Addr) (cdv ct : Value) (us : List Value), us.length = ps.length → bindArgs (PySem.W.fnOf x x params body scope .none kV doc pm an cdv ct) ⟨us, []⟩ = pure (ps.zip us))
    (len : ∀ p ds R, (Fx p).f ds R → ds.length = ps.length)
    (hbody : ∀ (f : Addr) (cdv : Value) (A : Around) (outer : List PySem.Env) (s : Shared) (H : Hp) (E : XK), Room k (A.deeper (envOfC x scope s.heap.objs.size f cdv)) →
      ∃ t, PSs (cxOf CX0 P w K mg base N x scope f cdv A outer s H E).nox body t ∧ ∀ p ds R, (Fx p).f ds R → Run (Sx p) t (startD N ds) ⟨fun _ => R .non, R, fun _ => False, fun _ => False⟩) : Has P w K mg base x (k + 1) ps (spT Sx Fx) :=
  has_of F g S hb (fun vs H Q E ⟨p, O, ds, _, _, _, i, f⟩ => i.length.trans (len p ds _ f)) fun f cdv A outer s H vs Q E hr h => by
    obtain ⟨t, h1, h2⟩ := hbody f cdv A outer s H E hr
    obtain ⟨p, h⟩ := h
    exact ⟨t, h1, body_of h (h2 p)⟩
theorem has_never {P : Program} {w : World} {K : PySem.W.Frag} {mg : Str → Option Value} {base : Heap} {params : Arguments} {body : List Stmt} {scope : Scope} {k : Nat}
    (F : ∃ fd, FunD K x x params body scope [] [] (He.ga K x) fd) (g : mg x = some (.ref (He.ga K x)))
    (hb : ∀ (kV doc pm : Value) (an : Option Addr) (cdv ct : Value) (us : List Value), us.length = ps.length → bindArgs (PySem.W.fnOf x x params body scope .none kV doc pm an cdv ct) ⟨us, []⟩ = pure (ps.zip us))
    (no : ∀ vs H Q E, ¬ sp vs H Q E) : Has P w K mg base x k ps sp := by
  obtain ⟨fd, F⟩ := F
  exact ⟨fd, ⟨fun vs H Q E h => (no _ _ _ _ h).elim, fun A outer s H args us vs Q E _ _ _ _ h => (no _ _ _ _ h).elim⟩, F.bindsN hb, g, F.kp, F.lk⟩
/-! f(e, .., k = v): by keywords in the parameters' order -/
def tCallKw (n m : Nat) (sp : Sp) (E : XK) (t tk : TA) : TE := fun σ H Q => t σ H fun vs H1 => tk σ H1 fun zs H2 => vs.length = n ∧ zs.length = m ∧ sp (vs ++ zs) H2 Q E
theorem kbn_none {K : PySem.W.Frag} {params : Arguments} {body : List Stmt} {scope : Scope} {f : Addr} {fd : FuncData} {n : Nat} {ks : List Str} (F : FunD K x x params body scope [] [] f fd)
    (h : ∀ (kV doc pm : Value) (an : Option Addr) (cdv ct : Value) (us ws : List Value), us.length = n → ws.length = ks.length → bindArgs (PySem.W.fnOf x x params body scope .none kV doc pm an cdv ct) ⟨us, ks.zip ws⟩ = pure (ps.zip (us ++ ws))) : KBn K fd ps n ks (fun us ws => us ++ ws) (fun vs zs => vs ++ zs) := by
  obtain ⟨oc, od, dV, kV, doc, pm, an, cdv, ct, osl, rfl, lk, hcd, hD, hK⟩ := F.ex
  rcases hD with ⟨_, rfl⟩ | ⟨e, _⟩
  · exact ⟨fun s us ws X l1 l2 => .of_eq (h kV doc pm an cdv ct us ws l1 l2), fun r1 r2 => r1.append r2⟩
  · exact absurd rfl e
theorem fd_one {K : PySem.W.Frag} {f : Addr} {fd fd' : FuncData} (h : ∃ oc od osl, K.lookup f = some ⟨oc, od, .func fd, osl⟩) (h' : ∃ oc od osl, K.lookup f = some ⟨oc, od, .func fd', osl⟩) : fd = fd' := by
  obtain ⟨oc, od, osl, e⟩ := h
  obtain ⟨oc', od', osl', e'⟩ := h'
  rw [e] at e'
  cases e'
  rfl
theorem pe_hasK {params : Arguments} {body : List Stmt} {scope : Scope} {n : Nat} {ks : List Str} {kws : List Keyword} {tk : TA} (h : Has X.prog X.w X.K X.mg X.base x k ps sp) (F : ∃ fd, FunD X.K x x params body scope [] [] (He.ga X.K x) fd) {j : Nat} (hr : Room j X.A)
    (hbk : ∀ (kV doc pm : Value) (an : Option Addr) (cdv ct : Value) (us ws : List Value), us.length = n → ws.length = ks.length → bindArgs (PySem.W.fnOf x x params body scope .none kV doc pm an cdv ct) ⟨us, ks.zip ws⟩ = pure (ps.zip (us ++ ws)))
    (ha : PA X (e :: es) t) (hkw : PK X kws tk) (hj : k ≤ j := by first | decide | exact Nat.le_refl _ | omega) (hg : Gl X x := by rfl) (hdb : (x == ("__debug__" : Str)) = false := by decide)
    (hall : (backToKw pos (keywordEach kws X.env)).all (·.1.isSome) = true := by rfl) (hks : (backToKw pos (keywordEach kws X.env)).filterMap (·.1) = ks := by rfl) (he : starEach (e :: es) X.env = (false, eval e X.env) :: starEach es X.env := by rfl)
    (hpl : ((backTo pos (starEach (e :: es) X.env)).any (·.1) || (backToKw pos (keywordEach kws X.env)).any (·.1.isNone)) = false := by rfl) : PE X (.Call (.Name x p) (e :: es) kws pos) (tCallKw n ks.length sp E0 t tk) := by
  obtain ⟨fd, Fo, b, g, kp, lk⟩ := h
  obtain ⟨fd', F⟩ := F
  obtain rfl := fd_one F.lk lk
  exact pe_callN Fo (hr.mono hj) hg g kp (kbn_none F hbk) pass0 ha hkw hall hks hdb he hpl
theorem pe_hasK0 {params : Arguments} {body : List Stmt} {scope : Scope} {ks : List Str} {kws : List Keyword} {tk : TA} (h : Has X.prog X.w X.K X.mg X.base x k ps sp) (F : ∃ fd, FunD X.K x x params body scope [] [] (He.ga X.K x) fd) {j : Nat} (hr : Room j X.A)
    (hbk : ∀ (kV doc pm : Value) (an : Option Addr) (cdv ct : Value) (us ws : List Value), us.length = 0 → ws.length = ks.length → bindArgs (PySem.W.fnOf x x params body scope .none kV doc pm an cdv ct) ⟨us, ks.zip ws⟩ = pure (ps.zip (us ++ ws)))
    (hkw : PK X kws tk) (hj : k ≤ j := by first | decide | exact Nat.le_refl _ | omega) (hg : Gl X x := by rfl) (hdb : (x == ("__debug__" : Str)) = false := by decide)
    (hall : (backToKw pos (keywordEach kws X.env)).all (·.1.isSome) = true := by rfl) (hks : (backToKw pos (keywordEach kws X.env)).filterMap (·.1) = ks := by rfl)
    (hpl : ((backTo pos (starEach [] X.env)).any (·.1) || (backToKw pos (keywordEach kws X.env)).any (·.1.isNone)) = false := by rfl) : PE X (.Call (.Name x p) [] kws pos) (tCallKw 0 ks.length sp E0 tNil tk) := by
  obtain ⟨fd, Fo, b, g, kp, lk⟩ := h
  obtain ⟨fd', F⟩ := F
  obtain rfl := fd_one F.lk lk
  refine ⟨fun pins s σ H Q I h => ?_⟩
  refine wpAny_Call_Name_kw (ld_glob I hg g ?_ hdb)
  refine PySem.W.callWith_KW0 (h₀ := X.base) I.ok.mod.kin kp hall ?_ hpl
  refine thn (hkw.run pos pins s σ H _ I h) fun ws s2 ⟨zs, H2, I2, rz, _, l2, q2⟩ => ⟨I2.kIn, ?_⟩
  rw [hks]
  exact run_fnN (us := []) (vs := []) Fo (hr.mono hj) (kbn_none F hbk) pass0 I2 .nil rz rfl l2 q2
theorem ev_callKw {S : Sys} {ρ : DEnv} {F : Fn} {n m : Nat} {t tk : TA} {E : XK} {Q : D → Prop} (h : EvA S t ρ fun ds => EvA S tk ρ fun es => ds.length = n ∧ es.length = m ∧ F.f (ds ++ es) Q) : Ev S (tCallKw n m (spF (S0 S.K) F) E t tk) ρ Q := fun O σ H I Qv k => by
  refine h O σ H I _ fun ds vs H1 l1 t1 i1 h1 => ?_
  refine h1 O σ H1 (I.le l1 t1) _ fun es us H2 l2 t2 i2 ⟨z1, z2, q⟩ => ?_
  have l := l1.trans l2
  refine ⟨i1.length.trans z1, i2.length.trans z2, O, ds ++ es, trivial, fun a ha => absurd ha (by simp [S0]), (I.le l t2).live, Iss.append (i1.ex (hid_le l2 I.sub)) i2, F.mono _ _ _ (fun d c v H' l' _ i => ?_) q⟩
  have ls : Same H2 H' := fun a o e => l' a o (by simp [S0]) e
  exact k d v H' (l.trans (Le.same ls)) (S.same _ _ ls t2) i c
end

/-! ### the tape of the laws: a list of the cells' list, a place, a rest, a seed -/
structure TapeAt (p c : Addr) (H : Hp) : Prop where
  ok : ∃ (cells : List Int) (i r s : Int), H p = some (.lst [.ref c, .int i, .int r, .int s]) ∧ H c = some (.lst (cells.map V.int)) ∧ 0 ≤ i ∧ 0 ≤ r ∧ 0 ≤ s ∧ s < 2147483563
def ST (K : PySem.W.Frag) (pc : Addr × Addr) : Sys where
  K := K
  M := [pc.1, pc.2]
  T := TapeAt pc.1 pc.2
  dep := fun H H' h ⟨cells, i, r, s, h1, h2, h3⟩ => ⟨cells, i, r, s, by rw [h pc.1 (by simp)]; exact h1, by rw [h pc.2 (by simp)]; exact h2, h3⟩
  live := fun H ⟨cells, i, r, s, h1, h2, h3⟩ a ha => by
    simp only [List.mem_cons, List.not_mem_nil, or_false] at ha
    rcases ha with rfl | rfl
    · rw [h1]; exact fun z => by cases z
    · rw [h2]; exact fun z => by cases z
theorem ev_callT {K : PySem.W.Frag} {pc : Addr × Addr} {ρ : DEnv} {F : Addr × Addr → Fn} {t : TA} {E : XK} {Q : D → Prop} (h : EvA (ST K pc) t ρ fun ds => (F pc).f ds Q) : Ev (ST K pc) (tCall (spT (ST K) F) [] E t) ρ Q :=
  ev_callS (F := F pc) (fun vs H Q E h => ⟨pc, h⟩) h
theorem ev_call0 {K : PySem.W.Frag} {pc : Addr × Addr} {ρ : DEnv} {F : Fn} {t : TA} {E : XK} {Q : D → Prop} (h : EvA (ST K pc) t ρ fun ds => F.f ds Q) : Ev (ST K pc) (tCall (spF (S0 K) F) [] E t) ρ Q := ev_call (S := ST K pc) h
end NB

end PART_NB5
section PART_NB6
set_option Elab.async false
set_option linter.all false
set_option maxRecDepth 100000
set_option maxHeartbeats 4000000
set_option autoImplicit false
/-! NB6: texts as lists of signs; the drawn labels. -/
namespace NB
open PySem PySem.Spec PyProof.Rows L2
section
variable {S : Sys} {ρ : DEnv} {P : Post}
theorem SOk.set {B : Base} {O : List Addr} {σ : St} {H : Hp} {k : Nat} {d : D} {v : V} (I : SOk S B O ρ σ H) (i : Is S.K (hid O H) v d) : SOk S B O (ρ.set k (some (.dat d))) (σ.set k (some v)) H :=
  ⟨I.env.set i, I.sub, I.le, I.live, fun j l o => I.own j l (o.of_set I.env.len).1⟩
theorem run_par {i j : Nat} {ta : TA} (h : EvA S ta ρ fun ds => ∃ a b, ds = [a, b] ∧ P.nx ((ρ.set i (some (.dat a))).set j (some (.dat b)))) : Run S (tPar i j ta) ρ P := fun B O σ H I Dv k _ _ _ => by
  refine h O σ H I.env _ fun ds vs H1 l1 t1 i1 ⟨a, b, e, q⟩ => ?_
  subst e
  obtain ⟨I1, s1⟩ := I.go l1 t1
  obtain ⟨v, u, rfl, ia, ib⟩ := iss2 i1
  exact ⟨v, u, rfl, k _ O _ H1 ((I1.set ia).set ib) s1 q⟩
theorem run_par3 {i j l : Nat} {ta : TA} (h : EvA S ta ρ fun ds => ∃ a b c, ds = [a, b, c] ∧ P.nx (((ρ.set i (some (.dat a))).set j (some (.dat b))).set l (some (.dat c)))) : Run S (tPar3 i j l ta) ρ P := fun B O σ H I Dv k _ _ _ => by
  refine h O σ H I.env _ fun ds vs H1 l1 t1 i1 ⟨a, b, c, e, q⟩ => ?_
  subst e
  obtain ⟨I1, s1⟩ := I.go l1 t1
  obtain ⟨v, ws, rfl, ia, iw⟩ := iss_cons i1
  obtain ⟨u, x, rfl, ib, ic⟩ := iss2 iw
  exact ⟨v, u, x, rfl, k _ O _ H1 (((I1.set ia).set ib).set ic) s1 q⟩
end
/-- the law's own start: behind the tape is made -/
theorem law_run {K : PySem.W.Frag} {p c a : Addr} {N : List Str} {rest : TS} {H : Hp} {Q : VK} (T : TapeAt p c H) (h : Run (ST K (p, c)) rest ((startD N [.loc a]).set 1 (some (.dat (.loc p)))) ⟨fun _ => False, fun d => d = .bl true, fun _ => False, fun _ => False⟩) (q : ∀ H', Q (.bl true) H') :
    rest { nx := fun _ H' => Q .non H', rt := Q } ((L2.start N [.ref a]).set 1 (some (.ref p))) H := by
  have I : SOk (ST K (p, c)) ⟨H, [p, c]⟩ [p, c] ((startD N [.loc a]).set 1 (some (.dat (.loc p)))) ((L2.start N [.ref a]).set 1 (some (.ref p))) H :=
    (sok_start (S := ST K (p, c)) (vs := [.ref a]) T (fun _ h => h) (fun x hx => (ST K (p, c)).live H T x hx) (.cons (.loc a) .nil)).set (.loc p)
  exact h ⟨H, [p, c]⟩ [p, c] _ H I _ (fun _ _ _ _ _ _ z => z.elim) (fun d v H' _ _ i e => by subst e; rw [is_bl i]; exact q H') (fun _ _ _ _ _ _ z => z.elim) (fun _ _ _ _ _ _ z => z.elim)
def spTape (K : PySem.W.Frag) : Sp := fun vs H Q _ => ∃ (a : Addr) (ns : List Int), vs = [.ref a] ∧ SqL K H a (ns.map V.int) ∧ ∀ (p c : Addr) (H' : Hp), Same H H' → TapeAt p c H' → Q (.ref p) H'
def spLaw (K : PySem.W.Frag) : Sp := fun vs H Q _ => ∃ (a : Addr) (ns : List Int), vs = [.ref a] ∧ SqL K H a (ns.map V.int) ∧ ∀ H', Q (.bl true) H'
theorem law_start {K : PySem.W.Frag} {a : Addr} {ns : List Int} {N : List Str} {rest : TS} {E : XK} {H : Hp} {Q : VK} (hS : SqL K H a (ns.map V.int)) (q : ∀ H', Q (.bl true) H')
    (h : ∀ p c, Run (ST K (p, c)) rest ((startD N [.loc a]).set 1 (some (.dat (.loc p)))) ⟨fun _ => False, fun d => d = .bl true, fun _ => False, fun _ => False⟩) :
    tSeq (tAsg (tCall (spTape K) [] E (tCons (tVar 0) tNil)) (gName 1)) rest { nx := fun _ H' => Q .non H', rt := Q } (L2.start N [.ref a]) H :=
  ⟨_, rfl, a, ns, rfl, hS, fun p c H' _ T => law_run T (h p c) q⟩
theorem iteD {p A B : Prop} [Decidable p] (hp : p) (h : A) : if decide p = true then A else B := by rw [decide_eq_true hp, if_pos rfl]; exact h
theorem iteDn {p A B : Prop} [Decidable p] (hp : ¬ p) (h : B) : if decide p = true then A else B := by rw [decide_eq_false hp, if_neg Bool.false_ne_true]; exact h
theorem szr {n : Nat} (h : Nat.ble n 100000 = true) : n ≤ sizeLine := Nat.le_trans (Nat.le_of_ble_eq_true h) (by rw [sizeLine_eq]; decide)
theorem szs {n : Nat} (h : n ≤ 100000) : n ≤ sizeLine := Nat.le_trans h (by rw [sizeLine_eq]; decide)
/-- a text of these signs -/
def mkS (l : List Nat) : Str := ⟨l.toArray⟩
theorem mkS_list (l : List Nat) : (mkS l).cps.toList = l := by simp [mkS]
theorem mkS_length (l : List Nat) : (mkS l).length = l.length := by simp [mkS, Str.length]
theorem mkS_of (x : Str) : mkS x.cps.toList = x := by cases x; simp [mkS]
theorem mkS_app (a b : List Nat) : mkS a ++ mkS b = mkS (a ++ b) := by
  show (⟨a.toArray ++ b.toArray⟩ : Str) = ⟨(a ++ b).toArray⟩
  simp
theorem mkS_inj {a b : List Nat} (h : mkS a = mkS b) : a = b := by
  have := congrArg (fun z : Str => z.cps.toList) h
  simpa [mkS] using this
theorem one_mkS (c : Nat) : (⟨#[c]⟩ : Str) = mkS [c] := rfl
theorem join_nil : ∀ ls : List (List Nat), Str.join (mkS []) (ls.map mkS) = mkS ls.flatten
  | [] => rfl
  | [l] => by simp [Str.join]
  | l :: m :: r => by
    have ih := join_nil (m :: r)
    show mkS l ++ mkS [] ++ Str.join (mkS []) ((m :: r).map mkS) = _
    rw [ih, mkS_app, mkS_app, List.append_nil, List.flatten_cons (l := l)]
theorem sIx_none (n d : Nat) : HT.sIx n d none = d := rfl
theorem sIx_nat {n d : Nat} {v : Int} (h : 0 ≤ v) : HT.sIx n d (some v) = min v.toNat n := by
  show (if v < 0 then (v + (n : Int)).toNat else min v.toNat n) = _
  rw [if_neg (by omega)]
theorem cutS_take {l : List Nat} {v : Int} (h : 0 ≤ v) : cutS (mkS l) none (some v) = mkS (l.take v.toNat) := by
  unfold cutS
  rw [mkS_list, mkS_length, sIx_none, sIx_nat h]
  show (⟨(((l.drop 0).take (min v.toNat l.length - 0))).toArray⟩ : Str) = ⟨(l.take v.toNat).toArray⟩
  rw [List.drop_zero, Nat.sub_zero]
  have : l.take (min v.toNat l.length) = l.take v.toNat := by
    rw [List.take_eq_take_iff]
    omega
  rw [this]
theorem cutS_drop {l : List Nat} {v : Int} (h : 0 ≤ v) : cutS (mkS l) (some v) none = mkS (l.drop v.toNat) := by
  unfold cutS
  rw [mkS_list, mkS_length, sIx_none, sIx_nat h]
  show (⟨(((l.drop (min v.toNat l.length)).take (l.length - min v.toNat l.length))).toArray⟩ : Str) = ⟨(l.drop v.toNat).toArray⟩
  congr 2
  by_cases hv : v.toNat ≤ l.length
  · rw [Nat.min_eq_left hv, List.take_of_length_le (by rw [List.length_drop]; omega)]
  · rw [Nat.min_eq_right (by omega), Nat.sub_self, List.take_zero, List.drop_eq_nil_of_le (by omega)]
theorem all2_ex {α β : Type} {P : β → Prop} {g : β → D} : ∀ {l : List α} {ys : List D}, All2 (fun _ y => ∃ c, P c ∧ y = g c) l ys → ∃ cs : List β, ys = cs.map g ∧ cs.length = l.length ∧ ∀ c ∈ cs, P c
  | [], _, h => by cases h; exact ⟨[], rfl, rfl, fun _ h => by cases h⟩
  | a :: l, _, h => by
    cases h with
    | cons h t =>
      obtain ⟨c, hc, rfl⟩ := h
      obtain ⟨cs, rfl, h2, h3⟩ := all2_ex t
      exact ⟨c :: cs, rfl, congrArg (· + 1) h2, fun d m => by
        rcases List.mem_cons.mp m with rfl | m
        · exact hc
        · exact h3 d m⟩
theorem signs_join (cs : List Nat) : Str.join (mkS []) (cs.map fun c => mkS [c]) = mkS cs := by
  have e : (cs.map fun c => mkS [c]) = (cs.map fun c => [c]).map mkS := by rw [List.map_map] <;> rfl
  rw [e, join_nil]
  congr 1
  induction cs with
  | nil => rfl
  | cons c cs ih => rw [List.map_cons, List.flatten_cons, ih (by rw [List.map_map] <;> rfl)] <;> rfl
theorem signs_sum (cs : List Nat) : ((cs.map fun c => mkS [c]).map (·.length)).sum = cs.length := by
  induction cs with
  | nil => rfl
  | cons c cs ih =>
    rw [List.map_cons, List.map_cons, List.sum_cons, ih, List.length_cons, mkS_length]
    simp
    omega
/-! ### membership of texts -/
theorem inD_strs (x : Str) (ys : List Str) : inD (.str x) (ys.map D.str) = decide (x ∈ ys) := by
  unfold inD inV
  rw [List.map_map, List.any_map]
  induction ys with
  | nil => rfl
  | cons y ys ih =>
    rw [List.any_cons, ih]
    show ((y == x) || _) = _
    by_cases h : x = y
    · subst h; simp
    · have h' : (y == x) = false := by simpa using fun z : y = x => h z.symm
      rw [h', Bool.false_or]
      simp [h]
/-! ### labels -/
def abcS : Str := "abcdefghijklmnopqrstuvwxyz"
def abcL : List Nat := abcS.cps.toList
def barred : List Str := ["all", "and", "else", "fork", "labels", "not", "or", "some", "there", "top", "twins", "unlike"]
def barredL : List (List Nat) := barred.map fun x => x.cps.toList
def smallC (c : Nat) : Bool := decide (c ∈ abcL)
def isWordS (x : Str) (n : Int) : Bool := decide (1 ≤ (x.length : Int)) && (decide ((x.length : Int) ≤ n) && x.cps.toList.all smallC)
def isWord : D → Int → Bool
  | .str x, n => isWordS x n
  | _, _ => false
def isLabel (d : D) : Bool := isWord d 6 && !inD d (barred.map D.str)
theorem mem_barred {l : List Nat} : mkS l ∈ barred ↔ l ∈ barredL := by
  unfold barredL
  rw [List.mem_map]
  constructor
  · intro h
    exact ⟨mkS l, h, mkS_list l⟩
  · rintro ⟨x, hx, rfl⟩
    rw [mkS_of]
    exact hx
theorem isLabel_mk {l : List Nat} : isLabel (.str (mkS l)) = true ↔ 1 ≤ l.length ∧ l.length ≤ 6 ∧ (∀ c ∈ l, c ∈ abcL) ∧ l ∉ barredL := by
  show ((decide (1 ≤ ((mkS l).length : Int)) && (decide (((mkS l).length : Int) ≤ 6) && (mkS l).cps.toList.all smallC)) && !inD (.str (mkS l)) (barred.map D.str)) = true ↔ _
  rw [inD_strs, mkS_list, mkS_length]
  simp only [Bool.and_eq_true, decide_eq_true_eq, Bool.not_eq_true', decide_eq_false_iff_not, List.all_eq_true, smallC, mem_barred]
  constructor
  · rintro ⟨⟨h1, h2, h3⟩, h4⟩
    exact ⟨by omega, by omega, h3, h4⟩
  · rintro ⟨h1, h2, h3, h4⟩
    exact ⟨⟨by omega, by omega, h3⟩, h4⟩
/-- a label that is a text -/
def GoodL (x : Str) : Prop := isLabel (.str x) = true
theorem GoodL.len {x : Str} (h : GoodL x) : 1 ≤ x.length ∧ x.length ≤ 6 := by
  have := h
  rw [← mkS_of x] at this
  have := isLabel_mk.mp this
  have hl : x.cps.toList.length = x.length := by simp [Str.length]
  omega
/-! ### drawn labels -/
def fixL (w : List Nat) : List Nat := if w ∈ barredL then (113 :: w).take 6 else w
def wordOf (cs : List Nat) (s : Nat) (x : Nat) : List Nat := cs.take s ++ x :: cs.drop s
theorem wordOf_len (cs : List Nat) (s x : Nat) : (wordOf cs s x).length = cs.length + 1 := by
  unfold wordOf
  rw [List.length_append, List.length_cons, List.length_take, List.length_drop]
  omega
theorem wordOf_erase {cs : List Nat} {s : Nat} (x : Nat) (h : s ≤ cs.length) : (wordOf cs s x).eraseIdx s = cs := by
  unfold wordOf
  have hl : (cs.take s).length = s := by rw [List.length_take]; omega
  rw [List.eraseIdx_append_of_length_le (by omega), hl, Nat.sub_self, List.eraseIdx_cons_zero, List.take_append_drop]
theorem wordOf_inj {cs : List Nat} {s x y : Nat} (e : wordOf cs s x = wordOf cs s y) : x = y := by
  unfold wordOf at e
  have := List.append_cancel_left e
  injection this
theorem wordOf_mem {cs : List Nat} {s x : Nat} (h : ∀ c ∈ cs, c ∈ abcL) (hx : x ∈ abcL) : ∀ c ∈ wordOf cs s x, c ∈ abcL := fun c m => by
  unfold wordOf at m
  rcases List.mem_append.mp m with m | m
  · exact h c (List.mem_of_mem_take m)
  · rcases List.mem_cons.mp m with rfl | m
    · exact hx
    · exact h c (List.mem_of_mem_drop m)
theorem bad_fix : ∀ a ∈ barredL, (113 :: a).take 6 ∉ barredL ∧ 1 ≤ ((113 :: a).take 6).length ∧ ((113 :: a).take 6).length ≤ 6 ∧ ∀ c ∈ (113 :: a).take 6, c ∈ abcL := by decide +kernel
theorem bad_two : ∀ a ∈ barredL, ∀ b ∈ barredL, (113 :: a).take 6 = (113 :: b).take 6 → a = b := by decide +kernel
theorem bad_one : ∀ a ∈ barredL, a.length = 6 → ∀ s : Nat, s < 6 → ¬ a.eraseIdx s = ((113 :: a).take 6).eraseIdx s := by decide +kernel
theorem fixL_good {w : List Nat} (h1 : 1 ≤ w.length) (h2 : w.length ≤ 6) (h3 : ∀ c ∈ w, c ∈ abcL) : GoodL (mkS (fixL w)) := by
  unfold GoodL
  rw [isLabel_mk]
  unfold fixL
  by_cases hb : w ∈ barredL
  · rw [if_pos hb]
    obtain ⟨g1, g2, g3, g4⟩ := bad_fix w hb
    exact ⟨g2, g3, g4, g1⟩
  · rw [if_neg hb]
    exact ⟨h1, h2, h3, hb⟩
theorem fixL_inj {cs : List Nat} {s x y : Nat} (hl : cs.length ≤ 5) (hs : s ≤ cs.length) (hxy : x ≠ y) : fixL (wordOf cs s x) ≠ fixL (wordOf cs s y) := by
  have one : ∀ x y, wordOf cs s x ∈ barredL → (113 :: wordOf cs s x).take 6 ≠ wordOf cs s y := fun x y hx e => by
    have l1 := wordOf_len cs s x
    have l2 := wordOf_len cs s y
    have l3 := congrArg List.length e
    rw [List.length_take, List.length_cons, l1, l2] at l3
    refine bad_one _ hx (by omega) s (by omega) ?_
    rw [e, wordOf_erase x hs, wordOf_erase y hs]
  intro e
  unfold fixL at e
  by_cases h1 : wordOf cs s x ∈ barredL
  · rw [if_pos h1] at e
    by_cases h2 : wordOf cs s y ∈ barredL
    · rw [if_pos h2] at e
      exact hxy (wordOf_inj (bad_two _ h1 _ h2 e))
    · rw [if_neg h2] at e
      exact one x y h1 e
  · rw [if_neg h1] at e
    by_cases h2 : wordOf cs s y ∈ barredL
    · rw [if_pos h2] at e
      exact one y x h2 e.symm
    · rw [if_neg h2] at e
      exact hxy (wordOf_inj e)
theorem abcL_len : abcL.length = 26 := by decide +kernel
theorem abcL_nodup : abcL.Nodup := by decide +kernel
def letterAt (start : Int) (k : Int) : Nat := abcL.getD ((start + 5 * k) % 26).toNat 0
theorem letterAt_get (start k : Int) : abcL[((start + 5 * k) % 26).toNat]? = some (letterAt start k) := by
  have h : ((start + 5 * k) % 26).toNat < abcL.length := by rw [abcL_len]; omega
  unfold letterAt
  rw [List.getD_eq_getElem?_getD, List.getElem?_eq_getElem h] <;> rfl
theorem letterAt_mem (start k : Int) : letterAt start k ∈ abcL := List.mem_of_getElem? (letterAt_get start k)
theorem letterAt_ne {start j k : Int} (h0 : 0 ≤ j) (h : j < k) (hk : k < 26) : letterAt start j ≠ letterAt start k := fun e => by
  have h1 := letterAt_get start j
  have h2 := letterAt_get start k
  rw [e] at h1
  have e3 := (List.getElem?_inj (by rw [abcL_len]; omega) abcL_nodup).mp (h1.trans h2.symm)
  omega
def namesOf (cs : List Nat) (s : Nat) (start : Int) (n : Nat) : List Str := (List.range n).map fun k : Nat => mkS (fixL (wordOf cs s (letterAt start (k : Int))))
theorem namesOf_good {cs : List Nat} {s : Nat} {start : Int} {n : Nat} (hl : cs.length ≤ 5) (hm : ∀ c ∈ cs, c ∈ abcL) : ∀ x ∈ namesOf cs s start n, GoodL x := fun x hx => by
  obtain ⟨k, _, rfl⟩ := List.mem_map.mp hx
  exact fixL_good (by rw [wordOf_len]; omega) (by rw [wordOf_len]; omega) (wordOf_mem hm (letterAt_mem _ _))
theorem namesOf_nodup {cs : List Nat} {s : Nat} {start : Int} {n : Nat} (hl : cs.length ≤ 5) (hs : s ≤ cs.length) (hn : n ≤ 26) : (namesOf cs s start n).Nodup := by
  unfold namesOf List.Nodup
  rw [List.pairwise_map]
  have := List.pairwise_lt_range (n := n)
  refine (List.Pairwise.imp_of_mem (fun {a b} ha hb h => ?_) this)
  intro e
  have hb' : b < n := List.mem_range.mp hb
  exact fixL_inj hl hs (letterAt_ne (start := start) (j := (a : Int)) (k := (b : Int)) (by omega) (by omega) (by omega)) (mkS_inj e)
theorem namesOf_length (cs : List Nat) (s : Nat) (start : Int) (n : Nat) : (namesOf cs s start n).length = n := by simp [namesOf]
end NB

end PART_NB6
set_option Elab.async false
set_option linter.all false
set_option maxRecDepth 100000
set_option maxHeartbeats 4000000
namespace K02
open PySem PySem.Spec PyProof.Rows L2 NB
/-! rows of my own tactic: peel what is evaluated -/
local macro_rules | `(tactic| walk_at "ev1") => `(tactic| first
  | ((with_reducible show ∃ i, D.int _ = D.int i ∧ _); refine ⟨_, rfl, ?_⟩)
  | ((with_reducible show ∃ i, D.str _ = D.str i ∧ _); refine ⟨_, rfl, ?_⟩)
  | ((with_reducible show ∃ i, D.bl _ = D.bl i ∧ _); refine ⟨_, rfl, ?_⟩)
  | ((with_reducible show ∃ i, D.lst _ = D.lst i ∧ _); refine ⟨_, rfl, ?_⟩)
  | ((with_reducible show ∃ i, D.tup _ = D.tup i ∧ _); refine ⟨_, rfl, ?_⟩)
  | ((with_reducible show if true = true then _ else _); refine iteT ?_)
  | ((with_reducible show if false = true then _ else _); refine iteF ?_)
  | ((with_reducible show List.length _ ≤ sizeLine ∧ _); refine ⟨szr rfl, ?_⟩)
  | ((with_reducible show Run _ (tSeq _ _) _ _); refine run_seq ?_)
  | ((with_reducible show Run _ (tRet _) _ _); refine run_ret ?_)
  | ((with_reducible show Run _ (tAsg _ (gName _)) _ _); refine run_set ?_)
  | ((with_reducible show Run _ (tAsg _ (gTup _ _ _)) _ _); refine run_asg (vs := List.range 64) ?_)
  | ((with_reducible show Run _ (tIfS _ _ _) _ _); refine run_if ?_)
  | ((with_reducible show Run _ (tPar _ _ _) _ _); refine run_par ?_)
  | ((with_reducible show Run _ (tPar3 _ _ _ _) _ _); refine run_par3 ?_)
  | ((with_reducible show Run _ tNext _ _); refine run_next ?_)
  | ((with_reducible show Ev _ (tVar _) _ _); refine ev_var (by rfl) ?_)
  | ((with_reducible show Ev _ (tC (.int _)) _ _); refine ev_cint ?_)
  | ((with_reducible show Ev _ (tC (.str _)) _ _); refine ev_cstr ?_)
  | ((with_reducible show Ev _ (tC (.bl _)) _ _); refine ev_cbl ?_)
  | ((with_reducible show Ev _ (tC .non) _ _); refine ev_cnon ?_)
  | ((with_reducible show Ev _ (tC (.ty _)) _ _); refine ev_cty ?_)
  | ((with_reducible show Ev _ (tOp _ _ _) _ _); refine ev_op ?_)
  | ((with_reducible show Ev _ (tUn _ _) _ _); refine ev_un ?_)
  | ((with_reducible show Ev (ST _ _) (tCall (spF (S0 _) _) [] _ _) _ _); refine ev_call0 ?_)
  | ((with_reducible show Ev _ (tCall (spF (S0 _) _) [] _ _) _ _); refine ev_call ?_)
  | ((with_reducible show Ev (ST _ _) (tCall (spT (ST _) _) [] _ _) _ _); refine ev_callT ?_)
  | ((with_reducible show Ev (ST _ _) (tCallKw _ _ (spF (S0 _) _) _ _ _) _ _); refine ev_callKw (S := ST _ _) ?_)
  | ((with_reducible show Ev _ (tCB _ _) _ _); refine ev_cb ?_)
  | ((with_reducible show Ev _ (tChain _ _ _ _ _) _ _); refine ev_chain ?_)
  | ((with_reducible show Ev _ (tIf _ _ _) _ _); refine ev_if ?_)
  | ((with_reducible show Ev _ (tAndV _ _) _ _); refine ev_andV ?_)
  | ((with_reducible show Ev _ (tOrV _ _) _ _); refine ev_orV ?_)
  | ((with_reducible show Ev _ (tNotV _) _ _); refine ev_notV ?_)
  | ((with_reducible show Ev _ (tSl _ _ _ _) _ _); refine ev_sl ?_)
  | ((with_reducible show Ev _ (tM1 _ _ _) _ _); refine ev_m1 ?_)
  | ((with_reducible show Ev _ (tTup _) _ _); refine ev_tup ?_)
  | ((with_reducible show Ev _ (tLst _) _ _); refine ev_lst ?_)
  | ((with_reducible show Ev _ (tLc _ _ _ _ _) _ _); refine ev_lcG ?_)
  | ((with_reducible show EvO _ tNoPart _ _); refine evo_none ?_)
  | ((with_reducible show EvO _ (tPart _) _ _); refine evo_some ?_)
  | ((with_reducible show EvA _ tNil _ _); refine eva_nil ?_)
  | ((with_reducible show EvA _ (tCons _ _) _ _); refine eva_cons ?_)
  | ((with_reducible show EvT _ (tB _) _ _); refine evt_b ?_)
  | ((with_reducible show EvT _ (tTest _) _ _); refine evt_test ?_)
  | ((with_reducible show EvT _ (tNot _) _ _); refine evt_not ?_)
  | ((with_reducible show EvT _ (tAnd _ _) _ _); refine evt_and ?_)
  | ((with_reducible show EvT _ (tOr _ _) _ _); refine evt_or ?_)
  | ((with_reducible show EvT _ tYes _ _); refine evt_yes ?_)
  | ((with_reducible show EvI _ (iStr _) _ _); refine evi_str ?_)
  | ((with_reducible show EvI _ (iList _ _) _ _); refine evi_list ?_)
  | ((with_reducible show EvI _ (iTup _ _) _ _); refine evi_tup ?_)
  | ((with_reducible show EvI _ (iRng1 _) _ _); refine evi_range1 ?_)
  | ((with_reducible show EvG _ _ (gTup _ _ _) _ (.tup [_, _]) _); refine evg_tup rfl ?_)
  | ((with_reducible show EvG _ _ (gTup _ _ _) _ (.tup [_, _, _]) _); refine evg_tup rfl ?_)
  | ((with_reducible show EvGs _ _ gNil _ _ _); refine evgs_nil ?_)
  | ((with_reducible show EvGs _ _ (gCons _ _) _ _ _); refine evgs_cons ?_)
  | ((with_reducible show EvG _ _ (gName _) _ _ _); refine evg_name (by decide) ?_)
  | ((with_reducible show RvR _ (rI0 fun i j => V.int _) (.int _) (.int _) _); refine rvr_ii ?_)
  | ((with_reducible show RvR _ (rI0 fun i j => V.bl _) (.int _) (.int _) _); refine rvr_ib ?_)
  | ((with_reducible show RvR _ (rAddX _) (.int _) (.int _) _); refine rvr_addX_i ?_)
  | ((with_reducible show RvR _ rEq (.int _) (.int _) _); refine rvr_eqI ?_)
  | ((with_reducible show RvR _ rNe (.int _) (.int _) _); refine rvr_neI ?_)
  | ((with_reducible show RvR _ rEq (.str _) (.str _) _); refine rvr_eqS ?_)
  | ((with_reducible show RvR _ rNe (.str _) (.str _) _); refine rvr_neS ?_)
  | ((with_reducible show RvR _ rEq (.bl _) (.bl _) _); refine rvr_eqB ?_)
  | ((with_reducible show RvR _ rIsN0 _ .non _); refine rvr_isN ?_)
  | ((with_reducible show RvR _ rNotN0 _ .non _); refine rvr_notN ?_)
  | ((with_reducible show RvR _ rIsB0 (.bl _) (.bl _) _); refine rvr_isB ?_)
  | ((with_reducible show RvR _ rNotB0 (.bl _) (.bl _) _); refine rvr_notB ?_)
  | ((with_reducible show RvC _ (rLenA _) [.lst _] _); refine rvc_lenL ?_)
  | ((with_reducible show RvC _ (rLenA _) [.tup _] _); refine rvc_lenT ?_)
  | ((with_reducible show RvC _ rInt1 [.int _] _); refine rvc_intI ?_)
  | ((with_reducible show RvC _ rInt1 [.bl _] _); refine rvc_intB ?_))
local macro_rules | `(tactic| walk_at "ev") => `(tactic| repeat (walk_at "ev1"))

def top (i : Nat) : Stmt := PySem.Challenge.pw_nearboughs_k02_labels_known.main.body.getD i (.Pass ⟨0, 0, 0, 0⟩)
abbrev s_is_word : Stmt := top 2
abbrev N_is_word : List Str := ["value", "most", "sign"]
abbrev P_is_word : List Str := ["value", "most"]
theorem sc_is_word : FnScope N_is_word P_is_word (defScope s_is_word) := ⟨rfl, rfl, rfl, by decide +kernel, rfl, by decide +kernel, by decide +kernel⟩
abbrev s_is_label : Stmt := top 6
abbrev N_is_label : List Str := ["value"]
abbrev P_is_label : List Str := ["value"]
theorem sc_is_label : FnScope N_is_label P_is_label (defScope s_is_label) := ⟨rfl, rfl, rfl, by decide +kernel, rfl, by decide +kernel, by decide +kernel⟩
abbrev s__law_tape : Stmt := top 8
abbrev N__law_tape : List Str := ["_law_script"]
abbrev P__law_tape : List Str := ["_law_script"]
theorem sc__law_tape : FnScope N__law_tape P__law_tape (defScope s__law_tape) := ⟨rfl, rfl, rfl, by decide +kernel, rfl, by decide +kernel, by decide +kernel⟩
abbrev s__law_pick : Stmt := top 9
abbrev N__law_pick : List Str := ["_law_tape_here", "_law_many", "_law_cell", "_law_digit", "_law_square"]
abbrev P__law_pick : List Str := ["_law_tape_here", "_law_many"]
theorem sc__law_pick : FnScope N__law_pick P__law_pick (defScope s__law_pick) := ⟨rfl, rfl, rfl, by decide +kernel, rfl, by decide +kernel, by decide +kernel⟩
abbrev s__law_of : Stmt := top 10
abbrev N__law_of : List Str := ["_law_tape_here", "_law_some"]
abbrev P__law_of : List Str := ["_law_tape_here", "_law_some"]
theorem sc__law_of : FnScope N__law_of P__law_of (defScope s__law_of) := ⟨rfl, rfl, rfl, by decide +kernel, rfl, by decide +kernel, by decide +kernel⟩
abbrev s__law_same : Stmt := top 11
abbrev N__law_same : List Str := ["_law_found", "_law_due", "_law_alike", "_law_a", "_law_b"]
abbrev P__law_same : List Str := ["_law_found", "_law_due"]
theorem sc__law_same : FnScope N__law_same P__law_same (defScope s__law_same) := ⟨rfl, rfl, rfl, by decide +kernel, rfl, by decide +kernel, by decide +kernel⟩
abbrev s__law_names : Stmt := top 12
abbrev N__law_names : List Str := ["_law_tape_here", "_law_many", "_law_abc", "_law_stem", "_law_spot", "_law_start", "_law_found", "_law_bad", "_law_k", "_law_word"]
abbrev P__law_names : List Str := ["_law_tape_here", "_law_many"]
theorem sc__law_names : FnScope N__law_names P__law_names (defScope s__law_names) := ⟨rfl, rfl, rfl, by decide +kernel, rfl, by decide +kernel, by decide +kernel⟩
abbrev s_law : Stmt := top 13
abbrev N_law : List Str := ["_law_script", "_law_tape_here", "_law_words", "_law_spot", "_law_bent", "_law_barred", "_law_bad", "_law_good", "_law_word", "_law_thing"]
abbrev P_law : List Str := ["_law_script"]
theorem sc_law : FnScope N_law P_law (defScope s_law) := ⟨rfl, rfl, rfl, by decide +kernel, rfl, by decide +kernel, by decide +kernel⟩
def fa : List He.Fa := [.glo "is_word", .glo "is_label", .glo "_law_tape", .glo "_law_pick", .glo "_law_of", .glo "_law_same", .glo "_law_names", .glo "law", .free "all", .free "bool", .free "int", .free "isinstance", .free "len", .free "list", .free "range", .free "str", .free "tuple", .free "zip", .glo "BARRED", .str "LETTERS" "abcdefghijklmnopqrstuvwxyz", .int "MOST_LETTERS" 6]
def df_is_word : He.DefD := ⟨("is_word", none), "is_word", "is_word", defArgs s_is_word, defBody s_is_word, defScope s_is_word, [], []⟩
def df_is_label : He.DefD := ⟨("is_label", none), "is_label", "is_label", defArgs s_is_label, defBody s_is_label, defScope s_is_label, [], []⟩
def df__law_tape : He.DefD := ⟨("_law_tape", none), "_law_tape", "_law_tape", defArgs s__law_tape, defBody s__law_tape, defScope s__law_tape, [], []⟩
def df__law_pick : He.DefD := ⟨("_law_pick", none), "_law_pick", "_law_pick", defArgs s__law_pick, defBody s__law_pick, defScope s__law_pick, [], []⟩
def df__law_of : He.DefD := ⟨("_law_of", none), "_law_of", "_law_of", defArgs s__law_of, defBody s__law_of, defScope s__law_of, [], []⟩
def df__law_same : He.DefD := ⟨("_law_same", none), "_law_same", "_law_same", defArgs s__law_same, defBody s__law_same, defScope s__law_same, [], []⟩
def df__law_names : He.DefD := ⟨("_law_names", none), "_law_names", "_law_names", defArgs s__law_names, defBody s__law_names, defScope s__law_names, [], []⟩
def df_law : He.DefD := ⟨("law", none), "law", "law", defArgs s_law, defBody s_law, defScope s_law, [], []⟩
def fn : List He.DefD := [df_is_word, df_is_label, df__law_tape, df__law_pick, df__law_of, df__law_same, df__law_names, df_law]
def exB (K : PySem.W.Frag) : Bool := He.tupB K "BARRED" [.str "all", .str "and", .str "else", .str "fork", .str "labels", .str "not", .str "or", .str "some", .str "there", .str "top", .str "twins", .str "unlike"] && (true)
theorem exB_0 {K : PySem.W.Frag} (h : exB K = true) : He.tupB K "BARRED" [.str "all", .str "and", .str "else", .str "fork", .str "labels", .str "not", .str "or", .str "some", .str "there", .str "top", .str "twins", .str "unlike"] = true := by
  unfold exB at h
  simp only [Bool.and_eq_true] at h
  exact h.1
structure Hd (K : PySem.W.Frag) (mg : Str → Option Value) : Prop where
  kin : ∃ h : Heap, K.In h ∧ h.Ns mainGlobals mg
  c : He.SaysD fa fn K
  ex : exB K = true
section
variable {K : PySem.W.Frag} {mg : Str → Option Value}
theorem Hd.g_is_word (T : Hd K mg) : mg "is_word" = some (.ref (He.ga K "is_word")) := by
  obtain ⟨h, X, G⟩ := T.kin
  exact He.glo_ok X G (T.c.fact 0)
theorem Hd.g_is_label (T : Hd K mg) : mg "is_label" = some (.ref (He.ga K "is_label")) := by
  obtain ⟨h, X, G⟩ := T.kin
  exact He.glo_ok X G (T.c.fact 1)
theorem Hd.g__law_tape (T : Hd K mg) : mg "_law_tape" = some (.ref (He.ga K "_law_tape")) := by
  obtain ⟨h, X, G⟩ := T.kin
  exact He.glo_ok X G (T.c.fact 2)
theorem Hd.g__law_pick (T : Hd K mg) : mg "_law_pick" = some (.ref (He.ga K "_law_pick")) := by
  obtain ⟨h, X, G⟩ := T.kin
  exact He.glo_ok X G (T.c.fact 3)
theorem Hd.g__law_of (T : Hd K mg) : mg "_law_of" = some (.ref (He.ga K "_law_of")) := by
  obtain ⟨h, X, G⟩ := T.kin
  exact He.glo_ok X G (T.c.fact 4)
theorem Hd.g__law_same (T : Hd K mg) : mg "_law_same" = some (.ref (He.ga K "_law_same")) := by
  obtain ⟨h, X, G⟩ := T.kin
  exact He.glo_ok X G (T.c.fact 5)
theorem Hd.g__law_names (T : Hd K mg) : mg "_law_names" = some (.ref (He.ga K "_law_names")) := by
  obtain ⟨h, X, G⟩ := T.kin
  exact He.glo_ok X G (T.c.fact 6)
theorem Hd.g_law (T : Hd K mg) : mg "law" = some (.ref (He.ga K "law")) := by
  obtain ⟨h, X, G⟩ := T.kin
  exact He.glo_ok X G (T.c.fact 7)
theorem Hd.f_all (T : Hd K mg) : mg "all" = none := by
  obtain ⟨h, X, G⟩ := T.kin
  exact He.free_ok X G (T.c.fact 8)
theorem Hd.f_bool (T : Hd K mg) : mg "bool" = none := by
  obtain ⟨h, X, G⟩ := T.kin
  exact He.free_ok X G (T.c.fact 9)
theorem Hd.f_int (T : Hd K mg) : mg "int" = none := by
  obtain ⟨h, X, G⟩ := T.kin
  exact He.free_ok X G (T.c.fact 10)
theorem Hd.f_isinstance (T : Hd K mg) : mg "isinstance" = none := by
  obtain ⟨h, X, G⟩ := T.kin
  exact He.free_ok X G (T.c.fact 11)
theorem Hd.f_len (T : Hd K mg) : mg "len" = none := by
  obtain ⟨h, X, G⟩ := T.kin
  exact He.free_ok X G (T.c.fact 12)
theorem Hd.f_list (T : Hd K mg) : mg "list" = none := by
  obtain ⟨h, X, G⟩ := T.kin
  exact He.free_ok X G (T.c.fact 13)
theorem Hd.f_range (T : Hd K mg) : mg "range" = none := by
  obtain ⟨h, X, G⟩ := T.kin
  exact He.free_ok X G (T.c.fact 14)
theorem Hd.f_str (T : Hd K mg) : mg "str" = none := by
  obtain ⟨h, X, G⟩ := T.kin
  exact He.free_ok X G (T.c.fact 15)
theorem Hd.f_tuple (T : Hd K mg) : mg "tuple" = none := by
  obtain ⟨h, X, G⟩ := T.kin
  exact He.free_ok X G (T.c.fact 16)
theorem Hd.f_zip (T : Hd K mg) : mg "zip" = none := by
  obtain ⟨h, X, G⟩ := T.kin
  exact He.free_ok X G (T.c.fact 17)
theorem Hd.c_BARRED (T : Hd K mg) : ∃ u, mg "BARRED" = some u ∧ RelV (.ref (He.ga K "BARRED")) u := by
  obtain ⟨h, X, G⟩ := T.kin
  exact ⟨_, He.glo_ok X G (T.c.fact 18), rfl⟩
theorem Hd.t_BARRED (T : Hd K mg) (H : Hp) : SqT K H (He.ga K "BARRED") ([V.str "all", V.str "and", V.str "else", V.str "fork", V.str "labels", V.str "not", V.str "or", V.str "some", V.str "there", V.str "top", V.str "twins", V.str "unlike"] : List V) := He.tupB_ok (vs := [.str "all", .str "and", .str "else", .str "fork", .str "labels", .str "not", .str "or", .str "some", .str "there", .str "top", .str "twins", .str "unlike"]) (exB_0 T.ex) H
theorem Hd.c_LETTERS (T : Hd K mg) : ∃ u, mg "LETTERS" = some u ∧ RelV (.str "abcdefghijklmnopqrstuvwxyz") u := by
  obtain ⟨h, X, G⟩ := T.kin
  obtain ⟨t, e⟩ := He.str_ok X G (T.c.fact 19)
  exact ⟨_, e, t, rfl⟩
theorem Hd.c_MOST_LETTERS (T : Hd K mg) : ∃ u, mg "MOST_LETTERS" = some u ∧ RelV (.int 6) u := by
  obtain ⟨h, X, G⟩ := T.kin
  obtain ⟨t, e⟩ := He.int_ok X G (T.c.fact 20)
  exact ⟨_, e, t, rfl⟩
theorem Hd.d_is_word (T : Hd K mg) : ∃ fd, FunD K "is_word" "is_word" (defArgs s_is_word) (defBody s_is_word) (defScope s_is_word) [] [] (He.ga K "is_word") fd := T.c.def_ 0 (d := df_is_word)
theorem Hd.d_is_label (T : Hd K mg) : ∃ fd, FunD K "is_label" "is_label" (defArgs s_is_label) (defBody s_is_label) (defScope s_is_label) [] [] (He.ga K "is_label") fd := T.c.def_ 1 (d := df_is_label)
theorem Hd.d__law_tape (T : Hd K mg) : ∃ fd, FunD K "_law_tape" "_law_tape" (defArgs s__law_tape) (defBody s__law_tape) (defScope s__law_tape) [] [] (He.ga K "_law_tape") fd := T.c.def_ 2 (d := df__law_tape)
theorem Hd.d__law_pick (T : Hd K mg) : ∃ fd, FunD K "_law_pick" "_law_pick" (defArgs s__law_pick) (defBody s__law_pick) (defScope s__law_pick) [] [] (He.ga K "_law_pick") fd := T.c.def_ 3 (d := df__law_pick)
theorem Hd.d__law_of (T : Hd K mg) : ∃ fd, FunD K "_law_of" "_law_of" (defArgs s__law_of) (defBody s__law_of) (defScope s__law_of) [] [] (He.ga K "_law_of") fd := T.c.def_ 4 (d := df__law_of)
theorem Hd.d__law_same (T : Hd K mg) : ∃ fd, FunD K "_law_same" "_law_same" (defArgs s__law_same) (defBody s__law_same) (defScope s__law_same) [] [] (He.ga K "_law_same") fd := T.c.def_ 5 (d := df__law_same)
theorem Hd.d__law_names (T : Hd K mg) : ∃ fd, FunD K "_law_names" "_law_names" (defArgs s__law_names) (defBody s__law_names) (defScope s__law_names) [] [] (He.ga K "_law_names") fd := T.c.def_ 6 (d := df__law_names)
theorem Hd.d_law (T : Hd K mg) : ∃ fd, FunD K "law" "law" (defArgs s_law) (defBody s_law) (defScope s_law) [] [] (He.ga K "law") fd := T.c.def_ 7 (d := df_law)
end
section
variable {P : Program} {w : World} {K : PySem.W.Frag} {mg : Str → Option Value} {base : Heap}
def F_word : Fn := ⟨fun ds Q => ∃ d n, ds = [d, .int n] ∧ basic d = true ∧ (∀ x, d = .str x → x.length ≤ sizeLine) ∧ Q (.bl (isWord d n)), fun _ _ _ h ⟨d, n, e, b, z, q⟩ => ⟨d, n, e, b, z, h _ q⟩⟩
theorem h_is_word (T : Hd K mg) : Has P w K mg base "is_word" 1 P_is_word (spF (S0 K) F_word) := by
  refine has_ofD T.d_is_word T.g_is_word sc_is_word (fun _ _ _ _ _ _ us hl => match us, hl with | [_, _], _ => rfl) (fun ds R ⟨d, n, e, _⟩ => by rw [e]; rfl) fun f cdv A outer s H E hr => ?_
  refine ⟨_, (pss_one (ps_ret (pe_and (pe_callB (R.call_isi K) rfl T.f_isinstance (by decide +kernel) (pa_cons (pv 0) (pa_cons (pe_bltn (v := .ty "str") (u := .type "str") rfl T.f_str (by decide +kernel) rfl) pa_nil))) (pe_and (pe_chain op_le op_le pe_int (pe_callB (R.cr_len K) rfl T.f_len (by decide +kernel) (pa_cons (pv 0) pa_nil)) (pv 1)) (pe_one (pe_callB (R.cr_all K) rfl T.f_all (by decide +kernel) (pa_cons (pe_lc (own := [("sign", 2)]) rfl sc_is_word.nd (pi_str (pv 0)) (blkOk_by (N := N_is_word) (sc := defScope s_is_word) (by decide +kernel)) (fun _ _ _ _ _ => (pg_name (i := 2) sc_is_word.nd rfl (Or.inl rfl))) (fun _ _ _ _ _ => pts_nil) (fun _ _ _ _ _ => (pe_cmpR (R.op_inX K) (pv 2) (C8.pe_gc rfl T.c_LETTERS) (rfl)))) pa_nil))))))), ?_⟩
  rintro ds R ⟨d, n, rfl, b, z, q⟩
  walk_at "ev"
  cases d with
  | str x =>
    refine rvc_isi rfl (r := true) (show kitB "str" "str" = some true by decide +kernel) ⟨_, rfl, iteT ?_⟩
    have hz := z x rfl
    walk_at "ev"
    refine rvc_lenS hz ?_
    walk_at "ev"
    refine iteB (fun h1 => ?_) fun h1 => ?_
    · walk_at "ev"
      refine iteB (fun h2 => ?_) fun h2 => ?_
      · refine ev_cb (eva_cons ?_)
        refine ev_lcG (evi_str (ev_var (by rfl) ⟨x, rfl, ?_⟩))
        refine lc_map _ (fun c => .bl (smallC c)) (by simpa using (show x.cps.size ≤ sizeLine from hz)) (fun c hc => evg_name (by decide) ?_) ?_
        · walk_at "ev"
          exact rvr_inX_c rfl
        · walk_at "ev"
          refine rvc_allF ?_
          have e : isWord (.str x) n = x.cps.toList.all smallC := by
            show (_ && (_ && _)) = _
            rw [h1, h2, Bool.true_and, Bool.true_and]
          rw [← e]
          exact q
      · have e : isWord (.str x) n = false := by
          show (_ && (_ && _)) = _
          rw [h1, h2, Bool.true_and, Bool.false_and]
        rw [← e]
        exact q
    · have e : isWord (.str x) n = false := by
        show (_ && (_ && _)) = _
        rw [h1, Bool.false_and]
      refine ⟨_, rfl, iteF ?_⟩
      rw [← e]
      exact q
  | non => exact rvc_isi rfl (r := false) (show kitB "NoneType" "str" = some false by decide +kernel) ⟨_, rfl, iteF q⟩
  | bl _ => exact rvc_isi rfl (r := false) (show kitB "bool" "str" = some false by decide +kernel) ⟨_, rfl, iteF q⟩
  | int _ => exact rvc_isi rfl (r := false) (show kitB "int" "str" = some false by decide +kernel) ⟨_, rfl, iteF q⟩
  | tup _ => exact rvc_isi rfl (r := false) (show kitB "tuple" "str" = some false by decide +kernel) ⟨_, rfl, iteF q⟩
  | lst _ => exact rvc_isi rfl (r := false) (show kitB "list" "str" = some false by decide +kernel) ⟨_, rfl, iteF q⟩
  | dK _ => exact rvc_isi rfl (r := false) (show kitB "dict" "str" = some false by decide +kernel) ⟨_, rfl, iteF q⟩
  | ty _ => cases b
  | loc _ => cases b
  | dT _ => cases b
  | obj _ _ => cases b
def F_label : Fn := ⟨fun ds Q => ∃ d, ds = [d] ∧ basic d = true ∧ (∀ x, d = .str x → x.length ≤ sizeLine) ∧ Q (.bl (isLabel d)), fun _ _ _ h ⟨d, e, b, z, q⟩ => ⟨d, e, b, z, h _ q⟩⟩
theorem h_is_label (T : Hd K mg) : Has P w K mg base "is_label" 2 P_is_label (spF (S0 K) F_label) := by
  have h_is_word : Has P w K mg base "is_word" 1 P_is_word (spF (S0 K) F_word) := h_is_word T
  refine has_ofD T.d_is_label T.g_is_label sc_is_label (fun _ _ _ _ _ _ us hl => match us, hl with | [_], _ => rfl) (fun ds R ⟨d, e, _⟩ => by rw [e]; rfl) fun f cdv A outer s H E hr => ?_
  refine ⟨_, (pss_one (ps_ret (pe_and (pe_has h_is_word hr (pa_cons (pv 0) (pa_cons (C8.pe_gc rfl T.c_MOST_LETTERS) pa_nil))) (pe_one (pe_cmpR (R.op_notInX K) (pv 0) (C8.pe_gc rfl T.c_BARRED) (rfl)))))), ?_⟩
  rintro ds R ⟨d, rfl, b, z, q⟩
  walk_at "ev"
  refine ⟨d, 6, rfl, b, z, _, rfl, ?_⟩
  cases hw : isWord d 6 with
  | true =>
    refine iteT ?_
    cases d with
    | str x =>
      walk_at "ev"
      refine ev_cK (d := .tup (barred.map D.str)) (fun H => .tup (T.t_BARRED H) (iss_of_strs barred)) ?_
      refine rvr_inX_t rfl (by decide +kernel) ?_
      have e : isLabel (.str x) = !inD (.str x) (barred.map D.str) := by
        unfold isLabel
        rw [hw, Bool.true_and]
      rw [if_pos rfl, ← e]
      exact q
    | _ => cases hw
  | false =>
    refine iteF ?_
    have e : isLabel d = false := by
      unfold isLabel
      rw [hw, Bool.false_and]
    rw [← e]
    exact q
/-! ### _law_pick: a number below many; the tape stays a tape -/
theorem rix_l {H : Hp} {a : Addr} {xs : List V} {i : Int} {v : V} {Q : VK} (h : H a = some (.lst xs)) (hv : atI xs i = some v) (q : Q v H) : rIx K (.ref a) (.int i) H Q := .inl ⟨a, xs, i, v, rfl, rfl, .inl (.inl h), hv, q⟩
theorem radd_i {H : Hp} {i j : Int} {Q : VK} (q : Q (.int (i + j)) H) : rAddX K (.int i) (.int j) H Q := .inl ⟨i, j, rfl, rfl, q⟩
theorem rmul_i {H : Hp} {i j : Int} {Q : VK} (c : CMul i j) (q : Q (.int (i * j)) H) : rMulX (.int i) (.int j) H Q := .inl ⟨i, j, rfl, rfl, c, q⟩
theorem rlen_l {H : Hp} {a : Addr} {xs : List V} {Q : VK} (h : H a = some (.lst xs)) (q : Q (.int xs.length) H) : rLenA K [.ref a] H Q := .inl ⟨a, xs, rfl, .inl (.inl (.inl h)), q⟩
def F_pick (pc : Addr × Addr) : Fn := ⟨fun ds Q => ∃ m : Int, ds = [.loc pc.1, .int m] ∧ 0 < m ∧ m.natAbs < 2 ^ 8000 ∧ ∀ k : Int, 0 ≤ k → k < m → Q (.int k), fun _ _ _ h ⟨m, e, b, z, q⟩ => ⟨m, e, b, z, fun k h0 h1 => h _ (q k h0 h1)⟩⟩
/-- what the tape's own cells hold -/
structure Tape (p c : Addr) (cells : List Int) (i r s : Int) (H : Hp) : Prop where
  p : H p = some (.lst [.ref c, .int i, .int r, .int s])
  c : H c = some (.lst (cells.map V.int))
  i0 : 0 ≤ i
  r0 : 0 ≤ r
  s0 : 0 ≤ s
  s1 : s < 2147483563
theorem Tape.ne {p c : Addr} {cells : List Int} {i r s : Int} {H : Hp} (t : Tape p c cells i r s H) : c ≠ p := fun e => by
  have h1 := t.p
  have h2 := t.c
  rw [e, h1] at h2
  cases cells with
  | nil => cases h2
  | cons x xs =>
    have h3 := Option.some.inj h2
    injection h3 with h4
    rw [List.map_cons] at h4
    injection h4 with h5 h6
    cases h5
theorem Tape.put {p c : Addr} {cells : List Int} {i r s i' r' s' : Int} {H : Hp} (t : Tape p c cells i r s H) (h1 : 0 ≤ i') (h2 : 0 ≤ r') (h3 : 0 ≤ s') (h4 : s' < 2147483563) : Tape p c cells i' r' s' (upd H p (.lst [.ref c, .int i', .int r', .int s'])) :=
  ⟨upd_same, by rw [upd_ne t.ne]; exact t.c, h1, h2, h3, h4⟩
theorem Tape.at_ {p c : Addr} {cells : List Int} {i r s : Int} {H : Hp} (t : Tape p c cells i r s H) : TapeAt p c H := ⟨⟨cells, i, r, s, t.p, t.c, t.i0, t.r0, t.s0, t.s1⟩⟩
theorem le_put {p c : Addr} {H H' : Hp} {o : HO} (l : Le [p, c] H H') : Le [p, c] H (upd H' p o) := fun a u n e => by
  rw [upd_ne fun z => n (by rw [z]; simp)]
  exact l a u n e
theorem set_l {H : Hp} {a : Addr} {xs : List V} {i : Int} {j : Nat} {v : V} {Q : Hp → Prop} (h : H a = some (.lst xs)) (hj : ixN xs.length i = some j) (q : Q (upd H a (.lst (xs.set j v)))) : rSetL (.ref a) (.int i) v H Q := ⟨a, xs, i, j, rfl, rfl, h, hj, q⟩
theorem cmul_r {i j : Int} (h : -(2 ^ 64) < j) (h' : j < 2 ^ 64) : CMul i j := .inr ⟨h, h'⟩
theorem h__law_pick (T : Hd K mg) : Has P w K mg base "_law_pick" 1 P__law_pick (spT (ST K) F_pick) := by
  refine has_of T.d__law_pick T.g__law_pick sc__law_pick (fun _ _ _ _ _ _ us hl => match us, hl with | [_, _], _ => rfl) (fun vs H Q E ⟨pc, O, ds, _, _, _, i, m, e, _⟩ => by rw [i.length, e]; rfl) fun f cdv A outer s0 H vs Q E hr h => ?_
  refine ⟨_, (C8.pss_cut (ps_if (PW.pt (pw_and (pt_cmpR op_eq (pe_ix (R.ix_seq K) (pv 0) pe_int (fun _ _ => rfl)) pe_int (nomark _)) (pw_and1 (pt_cmpR op_lt (pe_ix (R.ix_seq K) (pv 0) pe_int (fun _ _ => rfl)) (pe_callB (R.cr_len K) rfl T.f_len (by decide +kernel) (pa_cons (pe_ix (R.ix_seq K) (pv 0) pe_int (fun _ _ => rfl)) pa_nil)) (nomark _))))) (pss_cons (ps_set (i := 2) sc__law_pick.nd rfl (Or.inl rfl) (pe_ix (R.ix_seq K) (pe_ix (R.ix_seq K) (pv 0) pe_int (fun _ _ => rfl)) (pe_ix (R.ix_seq K) (pv 0) pe_int (fun _ _ => rfl)) (fun _ _ => rfl)))
        (pss_cons (ps_asg (pe_op (R.op_addX K) (pe_ix (R.ix_seq K) (pv 0) pe_int (fun _ _ => rfl)) pe_int) (pg_sub (pv 0) pe_int set_list))
        (pss_one (ps_if (pt_cmpR op_ge (pv 2) (pe_op op_pow pe_int pe_int) (nomark _)) (pss_one (ps_asg (pv 2) (pg_sub (pv 0) pe_int set_list))) (pss_one (ps_asg (pe_op op_mod (pe_callTy cr_int rfl T.f_int (by decide +kernel) (pa_cons (pe_op (R.op_addX K) (pe_op (R.op_addX K) (pe_op op_mulX (pe_ix (R.ix_seq K) (pv 0) pe_int (fun _ _ => rfl)) pe_int) (pe_op op_mulX (pe_op op_mod (pe_callTy cr_int rfl T.f_int (by decide +kernel) (pa_cons (pv 2) pa_nil)) pe_int) pe_int)) pe_int) pa_nil)) pe_int) (pg_sub (pv 0) pe_int set_list))))))) pss_nil)
      (pss_cons (ps_if (pt_cmpR op_gt (pe_ix (R.ix_seq K) (pv 0) pe_int (fun _ _ => rfl)) pe_int (nomark _)) (pss_cons (ps_set (i := 3) sc__law_pick.nd rfl (Or.inl rfl) (pe_op op_mod (pe_callTy cr_int rfl T.f_int (by decide +kernel) (pa_cons (pe_ix (R.ix_seq K) (pv 0) pe_int (fun _ _ => rfl)) pa_nil)) (pv 1)))
        (pss_cons (ps_asg (pe_op op_fdivW (pe_ix (R.ix_seq K) (pv 0) pe_int (fun _ _ => rfl)) (pv 1)) (pg_sub (pv 0) pe_int set_list))
        (pss_one (ps_ret (pv 3))))) pss_nil)
      (pss_cons (ps_set (i := 4) sc__law_pick.nd rfl (Or.inl rfl) (pe_op op_mod (pe_callTy cr_int rfl T.f_int (by decide +kernel) (pa_cons (pe_op op_mulX (pe_ix (R.ix_seq K) (pv 0) pe_int (fun _ _ => rfl)) (pe_ix (R.ix_seq K) (pv 0) pe_int (fun _ _ => rfl))) pa_nil)) pe_int))
      (pss_cons (ps_asg (pe_op op_mod (pe_callTy cr_int rfl T.f_int (by decide +kernel) (pa_cons (pe_op (R.op_addX K) (pe_op (R.op_addX K) (pe_op op_mulX (pv 4) pe_int) (pe_op op_mulX (pe_ix (R.ix_seq K) (pv 0) pe_int (fun _ _ => rfl)) pe_int)) pe_int) pa_nil)) pe_int) (pg_sub (pv 0) pe_int set_list))
      (pss_one (ps_ret (pe_op op_mod (pe_callTy cr_int rfl T.f_int (by decide +kernel) (pa_cons (pe_op (R.op_addX K) (pe_op op_fdivW (pe_ix (R.ix_seq K) (pv 0) pe_int (fun _ _ => rfl)) pe_int) (pe_op op_mulX (pe_op op_mod (pe_callTy cr_int rfl T.f_int (by decide +kernel) (pa_cons (pe_ix (R.ix_seq K) (pv 0) pe_int (fun _ _ => rfl)) pa_nil)) pe_int) pe_int)) pa_nil)) (pv 1)))))))), ?_⟩
  obtain ⟨⟨p, c⟩, O, ds, ⟨cells, i, r, s, hp, hc, i0, r0, s1, s2⟩, sub, live, is, m, rfl, m0, m1, q⟩ := h
  obtain ⟨v1, v2, rfl, is1, is2⟩ := iss2 is
  obtain rfl := is_loc is1
  obtain rfl := is_int is2
  have T0 : Tape p c cells i r s H := ⟨hp, hc, i0, r0, s1, s2⟩
  -- the end: a digit of the rest, or one of the seed
  have fin : ∀ (k : Int) (i' r' s' : Int) (H' : Hp), Tape p c cells i' r' s' H' → Le [p, c] H H' → 0 ≤ k → k < m → Q (.int k) H' := fun k i' r' s' H' t l h0 h1 => q k h0 h1 _ H' l t.at_ (.int k)
  refine ⟨fun σ' H' => ∃ o i r s, σ' = [some (.ref p), some (.int m), o, none, none] ∧ Tape p c cells i r s H' ∧ Le [p, c] H H', ?first, ?rest⟩
  case first =>
    have none0 : ∃ o i' r' s', L2.start N__law_pick [V.ref p, V.int m] = [some (.ref p), some (.int m), o, none, none] ∧ Tape p c cells i' r' s' H ∧ Le [p, c] H H := ⟨none, i, r, s, rfl, T0, Le.refl _ _⟩
    -- tape[2] == 0
    refine ⟨_, rfl, rix_l T0.p rfl ⟨rfl, ?_⟩⟩
    refine ⟨_, rfl, ?_⟩
    by_cases hr0 : r = 0
    · have e : decide (V.int r = V.int 0) = true := by rw [hr0]; rfl
      rw [e]
      refine iteT ?_
      -- tape[1] < len(tape[0])
      refine ⟨_, rfl, rix_l T0.p rfl ⟨_, rfl, rix_l T0.p rfl (rlen_l T0.c ⟨_, _, rfl, rfl, ?_⟩)⟩⟩
      refine ⟨_, rfl, ?_⟩
      by_cases hl : i < ((cells.map V.int).length : Int)
      · rw [decide_eq_true hl]
        refine iteT ?_
        -- cell = tape[0][tape[1]]
        obtain ⟨j, ej⟩ : ∃ j : Nat, i = (j : Int) := ⟨i.toNat, by omega⟩
        have hj : j < cells.length := by rw [List.length_map] at hl; omega
        have hv : (cells.map V.int)[j]? = some (.int cells[j]) := by rw [List.getElem?_map, List.getElem?_eq_getElem hj] <;> rfl
        refine ⟨_, rfl, rix_l T0.p rfl ⟨_, rfl, rix_l T0.p rfl (rix_l T0.c (atI_of ej hv) ?_)⟩⟩
        -- tape[1] = tape[1] + 1
        refine ⟨_, rfl, rix_l T0.p rfl (radd_i ⟨_, rfl, set_l T0.p rfl ?_⟩)⟩
        have T1 : Tape p c cells (i + 1) r s (upd H p (.lst [.ref c, .int (i + 1), .int r, .int s])) := T0.put (by omega) r0 s1 s2
        have L1 : Le [p, c] H (upd H p (.lst [.ref c, .int (i + 1), .int r, .int s])) := le_put (Le.refl _ _)
        -- cell >= 10 ** 18
        refine ⟨_, rfl, _, _, rfl, rfl, ⟨by decide, by decide, by decide⟩, _, _, rfl, rfl, _, rfl, ?_⟩
        refine iteB (fun hc => ?_) fun hc => ?_
        · refine ⟨_, rfl, _, rfl, set_l T1.p rfl ?_⟩
          have hge : (10 : Int) ^ (18 : Int).toNat ≤ cells[j] := of_decide_eq_true hc
          have hpos : (0 : Int) ≤ cells[j] := Int.le_trans (by decide) hge
          exact ⟨_, _, _, _, rfl, T1.put (by omega) hpos s1 s2, le_put L1⟩
        · refine ⟨_, rfl, rix_l T1.p rfl (rmul_i (cmul_r (by decide) (by decide)) ⟨_, rfl, .inl ⟨_, rfl, _, _, rfl, rfl, (by decide : (0 : Int) < 2147483579), rmul_i (cmul_r (by decide) (by decide)) (radd_i (radd_i (.inl ⟨_, rfl, _, _, rfl, rfl, (by decide : (0 : Int) < 2147483563), _, rfl, set_l T1.p rfl ?_⟩)))⟩⟩)⟩
          exact ⟨_, _, _, _, rfl, T1.put (by omega) r0 (Int.emod_nonneg _ (by decide)) (Int.emod_lt_of_pos _ (by decide)), le_put L1⟩
      · rw [decide_eq_false hl]
        exact iteF none0
    · have e : decide (V.int r = V.int 0) = false := decide_eq_false fun z => hr0 (V.int.inj z)
      rw [e]
      exact iteF (iteF none0)
  case rest =>
    clear hp hc i0 r0 s1 s2 T0 is is1 is2
    rintro σ' H1 ⟨o, i, r, s, rfl, T1, L1⟩
    -- tape[2] > 0
    refine ⟨_, rfl, rix_l T1.p rfl ⟨_, _, rfl, rfl, ?_⟩⟩
    refine ⟨_, rfl, ?_⟩
    refine iteB (fun h => ?_) fun h => ?_
    · have hr1 : 0 < r := of_decide_eq_true h
      refine ⟨_, rfl, rix_l T1.p rfl (.inl ⟨_, rfl, _, rfl, _, _, rfl, rfl, m0, ?_⟩)⟩
      refine ⟨_, rfl, rix_l T1.p rfl ⟨_, rfl, _, _, rfl, rfl, wide_div m0 m1 (by decide) (by decide), _, rfl, set_l T1.p rfl ⟨_, rfl, ?_⟩⟩⟩
      exact fin _ _ _ _ _ (T1.put T1.i0 (Int.ediv_nonneg T1.r0 (Int.le_of_lt m0)) T1.s0 T1.s1) (le_put L1) (Int.emod_nonneg _ (by omega)) (Int.emod_lt_of_pos _ m0)
    · have b0 := T1.s0
      have b1 := T1.s1
      refine ⟨_, rfl, rix_l T1.p rfl ⟨_, rfl, rix_l T1.p rfl (rmul_i (cmul_r (by omega) (by omega)) (.inl ⟨_, rfl, _, _, rfl, rfl, (by decide : (0 : Int) < 2147483563), ?_⟩))⟩⟩
      refine ⟨_, rfl, rmul_i (cmul_r (by decide) (by decide)) ⟨_, rfl, rix_l T1.p rfl (rmul_i (cmul_r (by decide) (by decide)) (radd_i (radd_i (.inl ⟨_, rfl, _, _, rfl, rfl, (by decide : (0 : Int) < 2147483563), _, rfl, set_l T1.p rfl ?_⟩))))⟩⟩
      have T2 := T1.put (i' := i) (r' := r) (s' := (s * s % 2147483563 * 27077 + s * 19391 + 50021) % 2147483563) T1.i0 T1.r0 (Int.emod_nonneg _ (by decide)) (Int.emod_lt_of_pos _ (by decide))
      refine ⟨_, rfl, rix_l T2.p rfl ⟨_, _, rfl, rfl, ⟨by decide, by decide⟩, _, rfl, rix_l T2.p rfl (.inl ⟨_, rfl, _, _, rfl, rfl, (by decide : (0 : Int) < 7793), rmul_i (cmul_r (by decide) (by decide)) (radd_i (.inl ⟨_, rfl, _, rfl, _, _, rfl, rfl, m0, ?_⟩))⟩)⟩⟩
      exact fin _ _ _ _ _ T2 (le_put L1) (Int.emod_nonneg _ (by omega)) (Int.emod_lt_of_pos _ m0)
/-! ### _law_of: an item, a sign -/
def itemsOf (x : D) : Option (List D) := match x with
  | .lst xs => some xs
  | .tup xs => some xs
  | .str z => some (signsD z)
  | _ => none
def F_of (pc : Addr × Addr) : Fn := ⟨fun ds Q => ∃ x xs, ds = [.loc pc.1, x] ∧ itemsOf x = some xs ∧ 0 < xs.length ∧ xs.length ≤ 100000 ∧ ∀ y ∈ xs, Q y, fun _ _ _ h ⟨x, xs, e, b, z, z2, q⟩ => ⟨x, xs, e, b, z, z2, fun y hy => h _ (q y hy)⟩⟩
theorem abs_small {n : Nat} (h : n ≤ 100000) : ((n : Int)).natAbs < 2 ^ 8000 := by
  have h1 : ((n : Int)).natAbs = n := by omega
  rw [h1]
  refine Nat.lt_of_le_of_lt h (Nat.lt_of_lt_of_le (by decide : 100000 < 2 ^ 20) ?_)
  exact Nat.pow_le_pow_right (by decide) (by decide)
theorem size_of_small {n : Nat} (h : n ≤ 100000) : n ≤ sizeLine := Nat.le_trans h (by rw [sizeLine_eq]; decide)
theorem get_int {α : Type} {xs : List α} {k : Int} (h0 : 0 ≤ k) (h1 : k < (xs.length : Int)) : ∃ x, x ∈ xs ∧ atI xs k = some x := by
  obtain ⟨j, ej⟩ : ∃ j : Nat, k = (j : Int) := ⟨k.toNat, by omega⟩
  have hj : j < xs.length := by omega
  exact ⟨xs[j], List.getElem_mem hj, atI_of ej (List.getElem?_eq_getElem hj)⟩
theorem h__law_of (T : Hd K mg) : Has P w K mg base "_law_of" 2 P__law_of (spT (ST K) F_of) := by
  have h__law_pick : Has P w K mg base "_law_pick" 1 P__law_pick (spT (ST K) F_pick) := h__law_pick T
  refine has_ofT T.d__law_of T.g__law_of sc__law_of (fun _ _ _ _ _ _ us hl => match us, hl with | [_, _], _ => rfl) (fun p ds R ⟨x, xs, e, _⟩ => by rw [e]; rfl) fun f cdv A outer s H E hr => ?_
  refine ⟨_, (pss_one (ps_ret (pe_ix (R.ix_seq K) (pv 1) (pe_has h__law_pick hr (pa_cons (pv 0) (pa_cons (pe_callB (R.cr_len K) rfl T.f_len (by decide +kernel) (pa_cons (pv 1) pa_nil)) pa_nil))) (fun _ _ => rfl)))), ?_⟩
  rintro ⟨p, c⟩ ds R ⟨x, xs, rfl, hx, h0, h1, q⟩
  cases x with
  | lst ys =>
    cases hx
    walk_at "ev"
    refine ⟨_, rfl, by omega, abs_small h1, fun k k0 k1 => ?_⟩
    obtain ⟨y, hy, ha⟩ := get_int k0 k1
    exact rvr_ixq_l ha (q y hy)
  | tup ys =>
    cases hx
    walk_at "ev"
    refine ⟨_, rfl, by omega, abs_small h1, fun k k0 k1 => ?_⟩
    obtain ⟨y, hy, ha⟩ := get_int k0 k1
    exact rvr_ixq_t ha (q y hy)
  | str z =>
    cases hx
    have hl : (signsD z).length = z.length := by simp [signsD, Str.length]
    rw [hl] at h0 h1
    walk_at "ev"
    refine rvc_lenS (size_of_small h1) ?_
    walk_at "ev"
    refine ⟨_, rfl, by omega, abs_small h1, fun k k0 k1 => ?_⟩
    have k1' : k < (z.cps.toList.length : Int) := by simpa [Str.length] using k1
    obtain ⟨y, hy, ha⟩ := get_int k0 k1'
    exact rvr_ixq_s (size_of_small h1) ha (q _ (List.mem_map.mpr ⟨y, hy, rfl⟩))
  | _ => cases hx
/-! ### _law_tape: what is made of the script -/
theorem h__law_tape (T : Hd K mg) : Has P w K mg base "_law_tape" 1 P__law_tape (spTape K) := by
  refine has_of T.d__law_tape T.g__law_tape sc__law_tape (fun _ _ _ _ _ _ us hl => match us, hl with | [_], _ => rfl) (fun vs H Q E ⟨a, ns, e, _⟩ => by rw [e]; rfl) fun f cdv A outer s0 H vs Q E hr h => ?_
  refine ⟨_, (pss_one (ps_ret (pe_lst (pa_cons (pe_callTy (R.cr_list K) rfl T.f_list (by decide +kernel) (pa_cons (pe_slice (R.sl_any K) (pv 0) po_none (po_some pe_int)) pa_nil)) (pa_cons pe_int (pa_cons pe_int (pa_cons (pe_op (R.op_addX K) pe_int (pe_op op_mulX pe_int (pe_callB (R.cr_len K) rfl T.f_len (by decide +kernel) (pa_cons (pe_slice (R.sl_any K) (pv 0) po_none (po_some pe_int)) pa_nil)))) pa_nil))))))), ?_⟩
  obtain ⟨a, ns, rfl, hS, q⟩ := h
  have hc : ∃ k, cutV (ns.map V.int) none (some 63) = (ns.take k).map V.int ∧ (ns.take k).length ≤ 63 := by
    refine ⟨min 63 ns.length, ?_, ?_⟩
    · unfold cutV
      rw [sIx_none, sIx_nat (by decide), List.drop_zero, Nat.sub_zero, List.length_map, List.map_take] <;> rfl
    · rw [List.length_take]
      omega
  obtain ⟨k, ek, hk⟩ := hc
  refine ⟨_, rfl, 63, rfl, .inl ⟨a, _, rfl, hS, fun p1 n1 => ⟨p1, _, rfl, .inl (.inl (.inl upd_same)), fun c nc => ?_⟩⟩⟩
  have s1 : Same H (upd H p1 (.lst (cutV (ns.map V.int) none (some 63)))) := NB.Same.upd n1
  have s2 : Same H (upd (upd H p1 (.lst (cutV (ns.map V.int) none (some 63)))) c (.lst (cutV (ns.map V.int) none (some 63)))) := s1.trans (NB.Same.upd nc)
  refine ⟨_, rfl, 63, rfl, .inl ⟨a, _, rfl, s2.seq hS, fun p2 n2 => .inl ⟨p2, _, rfl, .inl (.inl (.inl upd_same)), rmul_i (.inl ⟨by decide, by decide⟩) (radd_i ⟨szr rfl, fun p np => ?_⟩)⟩⟩⟩
  have s3 := s2.trans (NB.Same.upd (o := .lst (cutV (ns.map V.int) none (some 63))) n2)
  refine q p c _ (s3.trans (NB.Same.upd np)) ⟨⟨ns.take k, 0, 0, _, upd_same, ?_, by decide, by decide, ?_, ?_⟩⟩
  · rw [upd_ne (ne_of_none (by rw [upd_ne (ne_of_none upd_same n2)]; exact upd_same) np), upd_ne (ne_of_none upd_same n2), upd_same, ek]
  · rw [ek, List.length_map]
    omega
  · rw [ek, List.length_map]
    omega
/-! ### _law_same, of what is the same -/
mutual
def okD : D → Bool
  | .non => true
  | .bl _ => true
  | .int _ => true
  | .str _ => true
  | .tup xs => decide (xs.length ≤ 100000) && okDs xs
  | .lst xs => decide (xs.length ≤ 100000) && okDs xs
  | _ => false
def okDs : List D → Bool
  | [] => true
  | x :: xs => okD x && okDs xs
end
mutual
def depD : D → Nat
  | .tup xs => depDs xs + 1
  | .lst xs => depDs xs + 1
  | _ => 1
def depDs : List D → Nat
  | [] => 0
  | x :: xs => max (depD x) (depDs xs)
end
theorem okDs_mem : ∀ {xs : List D}, okDs xs = true → ∀ x ∈ xs, okD x = true
  | [], _, _, h => by cases h
  | y :: ys, h, x, m => by
    rw [okDs, Bool.and_eq_true] at h
    rcases List.mem_cons.mp m with rfl | m
    · exact h.1
    · exact okDs_mem h.2 x m
theorem depDs_mem : ∀ {xs : List D} {x : D}, x ∈ xs → depD x ≤ depDs xs
  | [], _, h => by cases h
  | y :: ys, x, m => by
    rw [depDs]
    rcases List.mem_cons.mp m with rfl | m
    · exact Nat.le_max_left _ _
    · exact Nat.le_trans (depDs_mem m) (Nat.le_max_right _ _)
theorem depD_pos (d : D) : 1 ≤ depD d := by cases d <;> simp [depD]
theorem okDs_of : ∀ {xs : List D}, (∀ x ∈ xs, okD x = true) → okDs xs = true
  | [], _ => rfl
  | y :: ys, h => by
    rw [okDs, h y List.mem_cons_self, okDs_of fun x m => h x (List.mem_cons_of_mem _ m)]
    rfl
theorem depDs_of {n : Nat} : ∀ {xs : List D}, (∀ x ∈ xs, depD x ≤ n) → depDs xs ≤ n
  | [], _ => Nat.zero_le _
  | y :: ys, h => by
    rw [depDs]
    exact Nat.max_le.mpr ⟨h y List.mem_cons_self, depDs_of fun x m => h x (List.mem_cons_of_mem _ m)⟩
def F_same (n : Nat) : Fn := ⟨fun ds Q => ∃ d, ds = [d, d] ∧ okD d = true ∧ depD d ≤ n ∧ Q (.bl true), fun _ _ _ h ⟨d, e, b, z, q⟩ => ⟨d, e, b, z, h _ q⟩⟩
theorem zip_self (xs : List D) : zipD xs xs = xs.map fun x => .tup [x, x] := by
  unfold zipD
  induction xs with
  | nil => rfl
  | cons x xs ih => rw [List.zip_cons_cons, List.map_cons, List.map_cons, ih]
theorem h__law_same (T : Hd K mg) : ∀ n : Nat, Has P w K mg base "_law_same" n P__law_same (spF (S0 K) (F_same n))
  | 0 => has_never T.d__law_same T.g__law_same (fun _ _ _ _ _ _ us hl => match us, hl with | [_, _], _ => rfl) (fun vs H Q E ⟨O, ds, _, _, _, _, d, _, _, z, _⟩ => absurd (depD_pos d) (by omega))
  | n + 1 => by
    have h__law_same : Has P w K mg base "_law_same" n P__law_same (spF (S0 K) (F_same n)) := h__law_same T n
    refine has_ofD T.d__law_same T.g__law_same sc__law_same (fun _ _ _ _ _ _ us hl => match us, hl with | [_, _], _ => rfl) (fun ds R ⟨d, e, _⟩ => by rw [e]; rfl) fun f cdv A outer s H E hr => ?_
    refine ⟨_, (pss_cons (ps_if (PW.pt (pw_or (pt_cmpR op_isN0 (pv 1) pe_non (nomark _)) (pw_or1 (pt_cmpR op_isN0 (pv 0) pe_non (nomark _))))) (pss_one (ps_ret (pe_and (pe_cmpR op_isN0 (pv 1) pe_non (nomark _)) (pe_one (pe_cmpR op_isN0 (pv 0) pe_non (nomark _)))))) pss_nil)
      (pss_cons (ps_if (PW.pt (pw_or (pt_val (pe_callB (R.call_isi K) rfl T.f_isinstance (by decide +kernel) (pa_cons (pv 1) (pa_cons (pe_bltn (v := .ty "list") (u := .type "list") rfl T.f_list (by decide +kernel) rfl) pa_nil)))) (pw_or1 (pt_val (pe_callB (R.call_isi K) rfl T.f_isinstance (by decide +kernel) (pa_cons (pv 1) (pa_cons (pe_bltn (v := .ty "tuple") (u := .type "tuple") rfl T.f_tuple (by decide +kernel) rfl) pa_nil))))))) (pss_cons (ps_set (i := 2) sc__law_same.nd rfl (Or.inl rfl) (pe_ifExp (pt_val (pe_callB (R.call_isi K) rfl T.f_isinstance (by decide +kernel) (pa_cons (pv 1) (pa_cons (pe_bltn (v := .ty "list") (u := .type "list") rfl T.f_list (by decide +kernel) rfl) pa_nil)))) (pe_callB (R.call_isi K) rfl T.f_isinstance (by decide +kernel) (pa_cons (pv 0) (pa_cons (pe_bltn (v := .ty "list") (u := .type "list") rfl T.f_list (by decide +kernel) rfl) pa_nil))) (pe_callB (R.call_isi K) rfl T.f_isinstance (by decide +kernel) (pa_cons (pv 0) (pa_cons (pe_bltn (v := .ty "tuple") (u := .type "tuple") rfl T.f_tuple (by decide +kernel) rfl) pa_nil)))))
        (pss_one (ps_ret (pe_and (pv 2) (pe_and (pe_cmpR op_eq (pe_callB (R.cr_len K) rfl T.f_len (by decide +kernel) (pa_cons (pv 0) pa_nil)) (pe_callB (R.cr_len K) rfl T.f_len (by decide +kernel) (pa_cons (pv 1) pa_nil)) (nomark _)) (pe_one (pe_callB (R.cr_all K) rfl T.f_all (by decide +kernel) (pa_cons (pe_lc (own := [("_law_a", 3), ("_law_b", 4)]) rfl sc__law_same.nd (R.pi_zipA K rfl T.f_zip (pa_cons (pv 0) (pa_cons (pv 1) pa_nil))) (blkOk_by (N := N__law_same) (sc := defScope s__law_same) (by decide +kernel)) (fun _ _ _ _ _ => (R.pg_tup K (n := 2) (pgs_cons (pg_name (i := 3) sc__law_same.nd rfl (Or.inl rfl)) (pgs_cons (pg_name (i := 4) sc__law_same.nd rfl (Or.inl rfl)) pgs_nil)))) (fun _ _ _ _ _ => pts_nil) (fun _ _ _ _ _ => (pe_has h__law_same hr (pa_cons (pv 3) (pa_cons (pv 4) pa_nil))))) pa_nil)))))))) pss_nil)
      (pss_cons (ps_if (pt_val (pe_callB (R.call_isi K) rfl T.f_isinstance (by decide +kernel) (pa_cons (pv 1) (pa_cons (pe_bltn (v := .ty "bool") (u := .type "bool") rfl T.f_bool (by decide +kernel) rfl) pa_nil)))) (pss_one (ps_ret (pe_and (pe_callB (R.call_isi K) rfl T.f_isinstance (by decide +kernel) (pa_cons (pv 0) (pa_cons (pe_bltn (v := .ty "bool") (u := .type "bool") rfl T.f_bool (by decide +kernel) rfl) pa_nil))) (pe_one (pe_cmpR op_eq (pv 0) (pv 1) (nomark _)))))) pss_nil)
      (pss_cons (ps_if (pt_val (pe_callB (R.call_isi K) rfl T.f_isinstance (by decide +kernel) (pa_cons (pv 1) (pa_cons (pe_bltn (v := .ty "int") (u := .type "int") rfl T.f_int (by decide +kernel) rfl) pa_nil)))) (pss_one (ps_ret (pe_and (pe_callB (R.call_isi K) rfl T.f_isinstance (by decide +kernel) (pa_cons (pv 0) (pa_cons (pe_bltn (v := .ty "int") (u := .type "int") rfl T.f_int (by decide +kernel) rfl) pa_nil))) (pe_and (pe_not (pe_callB (R.call_isi K) rfl T.f_isinstance (by decide +kernel) (pa_cons (pv 0) (pa_cons (pe_bltn (v := .ty "bool") (u := .type "bool") rfl T.f_bool (by decide +kernel) rfl) pa_nil)))) (pe_one (pe_cmpR op_eq (pv 0) (pv 1) (nomark _))))))) pss_nil)
      (pss_one (ps_ret (pe_and (pe_callB (R.call_isi K) rfl T.f_isinstance (by decide +kernel) (pa_cons (pv 0) (pa_cons (pe_bltn (v := .ty "str") (u := .type "str") rfl T.f_str (by decide +kernel) rfl) pa_nil))) (pe_one (pe_cmpR op_eq (pv 0) (pv 1) (nomark _)))))))))), ?_⟩
    rintro ds R ⟨d, rfl, hd, hn, q⟩
    have elt : ∀ (xs : List D), okDs xs = true → depDs xs ≤ n → ∀ ρ : DEnv, ρ.length = 5 → ∀ x ∈ xs, EvG (S0 K) [3, 4] (gTup K 2 (gCons (gName 3) (gCons (gName 4) gNil))) (wipeD ρ [3, 4]) (.tup [x, x]) fun ρ1 => Ev (S0 K) (tCall (spF (S0 K) (F_same n)) [] E0 (tCons (tVar 3) (tCons (tVar 4) tNil))) ρ1 fun y => y = .bl true := by
      intro xs ho hp ρ hρ x hx
      match ρ, hρ with
      | [r0, r1, r2, r3, r4], _ =>
        refine evg_tup rfl (evgs_cons (evg_name (by decide) (evgs_cons (evg_name (by decide) (evgs_nil ?_)))))
        walk_at "ev"
        exact ⟨x, rfl, okDs_mem ho x hx, Nat.le_trans (depDs_mem hx) hp, rfl⟩
    have all1 : ∀ xs : List D, (xs.all fun _ => true) = true := fun xs => List.all_eq_true.mpr fun _ _ => rfl
    cases d with
    | non =>
      walk_at "ev"
      refine iteT ?_
      walk_at "ev"
      refine iteT ?_
      walk_at "ev"
      exact q
    | lst xs =>
      rw [okD, Bool.and_eq_true] at hd
      have hz : xs.length ≤ 100000 := of_decide_eq_true hd.1
      rw [depD] at hn
      walk_at "ev"
      refine iteF ?_
      walk_at "ev"
      refine iteF ?_
      walk_at "ev"
      refine rvc_isi rfl (r := true) (show kitB "list" "list" = some true by decide +kernel) ⟨_, rfl, iteT ?_⟩
      walk_at "ev"
      refine rvc_isi rfl (r := true) (show kitB "list" "list" = some true by decide +kernel) ⟨_, rfl, iteT ?_⟩
      walk_at "ev"
      refine rvc_isi rfl (r := true) (show kitB "list" "list" = some true by decide +kernel) ?_
      walk_at "ev"
      refine iteD rfl (ev_cb (eva_cons (ev_lcG (evi_zipA ?_))))
      walk_at "ev"
      refine ⟨xs, xs, .inl rfl, ?_⟩
      rw [zip_self]
      refine lc_map _ (fun _ => .bl true) (Nat.le_trans hz (by rw [sizeLine_eq]; decide)) (elt xs hd.2 (by omega) _ rfl) (eva_nil (rvc_allF (p := fun _ => true) ?_))
      rw [all1]
      exact q
    | tup xs =>
      rw [okD, Bool.and_eq_true] at hd
      have hz : xs.length ≤ 100000 := of_decide_eq_true hd.1
      rw [depD] at hn
      walk_at "ev"
      refine iteF ?_
      walk_at "ev"
      refine iteF ?_
      walk_at "ev"
      refine rvc_isi rfl (r := false) (show kitB "tuple" "list" = some false by decide +kernel) ⟨_, rfl, iteF ?_⟩
      walk_at "ev"
      refine rvc_isi rfl (r := true) (show kitB "tuple" "tuple" = some true by decide +kernel) ⟨_, rfl, iteT ?_⟩
      walk_at "ev"
      refine rvc_isi rfl (r := false) (show kitB "tuple" "list" = some false by decide +kernel) ⟨_, rfl, iteF ?_⟩
      walk_at "ev"
      refine rvc_isi rfl (r := true) (show kitB "tuple" "tuple" = some true by decide +kernel) ?_
      walk_at "ev"
      refine iteD rfl (ev_cb (eva_cons (ev_lcG (evi_zipA ?_))))
      walk_at "ev"
      refine ⟨xs, xs, .inr rfl, ?_⟩
      rw [zip_self]
      refine lc_map _ (fun _ => .bl true) (Nat.le_trans hz (by rw [sizeLine_eq]; decide)) (elt xs hd.2 (by omega) _ rfl) (eva_nil (rvc_allF (p := fun _ => true) ?_))
      rw [all1]
      exact q
    | bl b =>
      walk_at "ev"
      refine iteF ?_
      walk_at "ev"
      refine iteF ?_
      walk_at "ev"
      refine rvc_isi rfl (r := false) (show kitB "bool" "list" = some false by decide +kernel) ⟨_, rfl, iteF ?_⟩
      walk_at "ev"
      refine rvc_isi rfl (r := false) (show kitB "bool" "tuple" = some false by decide +kernel) ⟨_, rfl, iteF ?_⟩
      walk_at "ev"
      refine rvc_isi rfl (r := true) (show kitB "bool" "bool" = some true by decide +kernel) ⟨_, rfl, iteT ?_⟩
      walk_at "ev"
      refine rvc_isi rfl (r := true) (show kitB "bool" "bool" = some true by decide +kernel) ⟨_, rfl, iteT ?_⟩
      walk_at "ev"
      rw [decide_eq_true rfl]
      exact q
    | int b =>
      walk_at "ev"
      refine iteF ?_
      walk_at "ev"
      refine iteF ?_
      walk_at "ev"
      refine rvc_isi rfl (r := false) (show kitB "int" "list" = some false by decide +kernel) ⟨_, rfl, iteF ?_⟩
      walk_at "ev"
      refine rvc_isi rfl (r := false) (show kitB "int" "tuple" = some false by decide +kernel) ⟨_, rfl, iteF ?_⟩
      walk_at "ev"
      refine rvc_isi rfl (r := false) (show kitB "int" "bool" = some false by decide +kernel) ⟨_, rfl, iteF ?_⟩
      walk_at "ev"
      refine rvc_isi rfl (r := true) (show kitB "int" "int" = some true by decide +kernel) ⟨_, rfl, iteT ?_⟩
      walk_at "ev"
      refine rvc_isi rfl (r := true) (show kitB "int" "int" = some true by decide +kernel) ⟨_, rfl, iteT ?_⟩
      walk_at "ev"
      refine rvc_isi rfl (r := false) (show kitB "int" "bool" = some false by decide +kernel) ⟨_, rfl, ?_⟩
      refine ⟨_, rfl, iteT ?_⟩
      walk_at "ev"
      rw [decide_eq_true rfl]
      exact q
    | str b =>
      walk_at "ev"
      refine iteF ?_
      walk_at "ev"
      refine iteF ?_
      walk_at "ev"
      refine rvc_isi rfl (r := false) (show kitB "str" "list" = some false by decide +kernel) ⟨_, rfl, iteF ?_⟩
      walk_at "ev"
      refine rvc_isi rfl (r := false) (show kitB "str" "tuple" = some false by decide +kernel) ⟨_, rfl, iteF ?_⟩
      walk_at "ev"
      refine rvc_isi rfl (r := false) (show kitB "str" "bool" = some false by decide +kernel) ⟨_, rfl, iteF ?_⟩
      walk_at "ev"
      refine rvc_isi rfl (r := false) (show kitB "str" "int" = some false by decide +kernel) ⟨_, rfl, iteF ?_⟩
      walk_at "ev"
      refine rvc_isi rfl (r := true) (show kitB "str" "str" = some true by decide +kernel) ⟨_, rfl, iteT ?_⟩
      walk_at "ev"
      rw [decide_eq_true rfl]
      exact q
    | _ => cases hd
/-! ### _law_names -/
def F_names (pc : Addr × Addr) : Fn := ⟨fun ds Q => ∃ n : Nat, ds = [.loc pc.1, .int (n : Int)] ∧ n ≤ 26 ∧ ∀ ws : List Str, ws.length = n → ws.Nodup → (∀ x ∈ ws, GoodL x) → Q (.lst (ws.map D.str)), fun _ _ _ h ⟨n, e, b, q⟩ => ⟨n, e, b, fun ws h1 h2 h3 => h _ (q ws h1 h2 h3)⟩⟩
theorem h__law_names (T : Hd K mg) : Has P w K mg base "_law_names" 3 P__law_names (spT (ST K) F_names) := by
  have h__law_pick : Has P w K mg base "_law_pick" 1 P__law_pick (spT (ST K) F_pick) := h__law_pick T
  have h__law_of : Has P w K mg base "_law_of" 2 P__law_of (spT (ST K) F_of) := h__law_of T
  refine has_ofT T.d__law_names T.g__law_names sc__law_names (fun _ _ _ _ _ _ us hl => match us, hl with | [_, _], _ => rfl) (fun p ds R ⟨n, e, _⟩ => by rw [e]; rfl) fun f cdv A outer s H E hr => ?_
  refine ⟨_, (pss_cons (ps_set (i := 2) sc__law_names.nd rfl (Or.inr rfl) pe_str)
      (pss_cons (ps_set (i := 3) sc__law_names.nd rfl (Or.inr rfl) (pe_m1 PySem.F.slot_str_join PySem.F.type_str_join (R.mt_joinS K) pe_str (pe_lc (own := [("_law_k", 8)]) rfl sc__law_names.nd (pi_range1 rfl T.f_range (pa_cons (pe_has h__law_pick hr (pa_cons (pv 0) (pa_cons pe_int pa_nil))) pa_nil)) (blkOk_by (N := N__law_names) (sc := defScope s__law_names) (by decide +kernel)) (fun _ _ _ _ _ => (pg_name (i := 8) sc__law_names.nd rfl (Or.inl rfl))) (fun _ _ _ _ _ => pts_nil) (fun _ _ _ _ _ => (pe_has h__law_of hr (pa_cons (pv 0) (pa_cons (pv 2) pa_nil)))))))
      (pss_cons (ps_asg (pe_tup (pa_cons (pe_has h__law_pick hr (pa_cons (pv 0) (pa_cons (pe_op (R.op_addX K) (pe_callB (R.cr_len K) rfl T.f_len (by decide +kernel) (pa_cons (pv 3) pa_nil)) pe_int) pa_nil))) (pa_cons (pe_has h__law_pick hr (pa_cons (pv 0) (pa_cons pe_int pa_nil))) pa_nil))) (R.pg_tup K (n := 2) (pgs_cons (pg_name (i := 4) sc__law_names.nd rfl (Or.inr rfl)) (pgs_cons (pg_name (i := 5) sc__law_names.nd rfl (Or.inr rfl)) pgs_nil))))
      (pss_cons (ps_setLc (i := 6) (own := [("_law_k", 8)]) rfl sc__law_names.nd rfl rfl (sw_true rfl rfl rfl (by decide +kernel)) (pi_range1 rfl T.f_range (pa_cons (pv 1) pa_nil)) (blkOk_by (N := N__law_names) (sc := defScope s__law_names) (by decide +kernel)) (fun _ _ _ _ _ => (pg_name (i := 8) sc__law_names.nd rfl (Or.inl rfl))) (fun _ _ _ _ _ => pts_nil) (fun _ _ _ _ _ => (pe_op (R.op_addX K) (pe_op (R.op_addX K) (pe_slice (R.sl_any K) (pv 3) po_none (po_some (pv 4))) (pe_ix (R.ix_seq K) (pv 2) (pe_op op_mod (pe_callTy cr_int rfl T.f_int (by decide +kernel) (pa_cons (pe_op (R.op_addX K) (pv 5) (pe_op op_mulX pe_int (pv 8))) pa_nil)) pe_int) (fun _ _ => rfl))) (pe_slice (R.sl_any K) (pv 3) (po_some (pv 4)) po_none))))
      (pss_cons (ps_set (i := 7) sc__law_names.nd rfl (Or.inr rfl) (pe_tup (pa_cons pe_str (pa_cons pe_str (pa_cons pe_str (pa_cons pe_str (pa_cons pe_str (pa_cons pe_str (pa_cons pe_str (pa_cons pe_str (pa_cons pe_str (pa_cons pe_str (pa_cons pe_str (pa_cons pe_str pa_nil))))))))))))))
      (pss_one (ps_ret (pe_lc (own := [("_law_word", 9)]) rfl sc__law_names.nd (R.pi_list K (pv 6)) (blkOk_by (N := N__law_names) (sc := defScope s__law_names) (by decide +kernel)) (fun _ _ _ _ _ => (pg_name (i := 9) sc__law_names.nd rfl (Or.inl rfl))) (fun _ _ _ _ _ => pts_nil) (fun _ _ _ _ _ => (pe_ifExp (pt_cmpR (R.op_inX K) (pv 9) (pv 7) (rfl)) (pe_slice (R.sl_any K) (pe_op (R.op_addX K) pe_str (pv 9)) po_none (po_some pe_int)) (pv 9))))))))))), ?_⟩
  rintro ⟨p, c⟩ ds R ⟨n, rfl, hn, q⟩
  walk_at "ev"
  refine ⟨6, rfl, by decide, by decide, fun k k0 k1 => ?_⟩
  walk_at "ev"
  refine ⟨k, rfl, by omega, by omega, ?_⟩
  refine lc_any (l := List.range k.toNat) (fun i => .int (0 + (i : Nat))) (fun _ y => ∃ c, c ∈ abcL ∧ y = .str (mkS [c])) (by rw [List.length_range]; exact size_of_small (by omega)) (fun i _ => evg_name (by decide) ?_) fun ys hys => ?_
  · walk_at "ev"
    refine ⟨.str abcS, signsD abcS, rfl, rfl, by decide +kernel, by decide +kernel, fun y hy => ?_⟩
    obtain ⟨c, hc, rfl⟩ := List.mem_map.mp hy
    exact ⟨c, hc, rfl⟩
  obtain ⟨cs, rfl, hl, hm⟩ := all2_ex hys
  rw [List.length_range] at hl
  have hl5 : cs.length ≤ 5 := by omega
  have e1 : (cs.map fun c => D.str (mkS [c])) = (cs.map fun c => mkS [c]).map D.str := by rw [List.map_map] <;> rfl
  rw [e1]
  refine rvm_join (a := mkS []) (by rw [signs_sum, List.length_map, mkS_length]; simp; omega) ?_
  rw [signs_join]
  walk_at "ev"
  refine rvc_lenS (by rw [mkS_length]; exact size_of_small (by omega)) ?_
  walk_at "ev"
  rw [mkS_length]
  refine ⟨_, rfl, by omega, abs_small (n := cs.length + 1) (by omega), fun s0 s1 s2 => ?_⟩
  walk_at "ev"
  refine ⟨26, rfl, by decide, by decide, fun st t0 t1 => ?_⟩
  walk_at "ev"
  refine ⟨n, rfl, by omega, by omega, ?_⟩
  have hz : ∀ l : List Nat, l.length ≤ 100000 → (mkS l).length ≤ sizeLine := fun l h => by rw [mkS_length]; exact szs h
  have hs : s0.toNat ≤ cs.length := by omega
  refine lc_map (l := List.range n) (fun i => .int (0 + (i : Nat))) (fun i : Nat => .str (mkS (wordOf cs s0.toNat (letterAt st (i : Int))))) (by rw [List.length_range]; exact szs (by omega)) (fun i hi => evg_name (by decide) ?_) ?_
  · have hi' : i < n := List.mem_range.mp hi
    walk_at "ev"
    refine rvs_any_s (hz _ (by omega)) ?_
    rw [cutS_take s1]
    walk_at "ev"
    refine rvr_mulX_i (.inl ⟨by decide, by decide⟩) ?_
    walk_at "ev"
    refine rvr_iic (g := fun i j => i % j) (by decide) ?_
    have hg : atI abcS.cps.toList ((st + 5 * (0 + (i : Int))) % 26) = some (letterAt st (i : Int)) := by
      have h := letterAt_get st (i : Int)
      rw [Int.zero_add]
      exact atI_of (by omega) h
    refine rvr_ixq_s (szr rfl) hg ?_
    refine rvr_addX_s (szs ?_) ?_
    · rw [mkS_length, List.length_take]
      show _ + 1 ≤ _
      omega
    walk_at "ev"
    refine rvs_any_s (hz _ (by omega)) ?_
    rw [cutS_drop s1, one_mkS, mkS_app]
    refine rvr_addX_s (szs ?_) ?_
    · rw [mkS_length, mkS_length, List.length_append, List.length_take, List.length_drop, List.length_singleton]
      omega
    rw [mkS_app]
    have e : cs.take s0.toNat ++ [letterAt st (i : Int)] ++ cs.drop s0.toNat = wordOf cs s0.toNat (letterAt st (i : Int)) := by
      unfold wordOf
      rw [List.append_assoc] <;> rfl
    rw [e]
  walk_at "ev"
  refine lc_map (l := List.range n) (fun i : Nat => .str (mkS (wordOf cs s0.toNat (letterAt st (i : Int))))) (fun i : Nat => .str (mkS (fixL (wordOf cs s0.toNat (letterAt st (i : Int)))))) (by rw [List.length_range]; exact szs (by omega)) (fun i hi => evg_name (by decide) ?_) ?_
  · have hw := wordOf_len cs s0.toNat (letterAt st (i : Int))
    revert hw
    generalize wordOf cs s0.toNat (letterAt st (i : Int)) = wd
    intro hw
    walk_at "ev"
    refine rvr_inX_t (ys := barred.map D.str) rfl (by decide +kernel) ?_
    rw [if_neg Bool.false_ne_true, inD_strs]
    walk_at "ev"
    by_cases hb : mkS wd ∈ barred
    · refine iteD hb ?_
      have e : fixL wd = (113 :: wd).take 6 := if_pos (mem_barred.mp hb)
      rw [e]
      walk_at "ev"
      have q1 : Str.ofString "q" = mkS [113] := by decide +kernel
      rw [q1]
      refine rvr_addX_s (szs ?_) ?_
      · rw [mkS_length, mkS_length, List.length_singleton]
        omega
      rw [mkS_app]
      walk_at "ev"
      refine rvs_any_s (hz _ ?_) ?_
      · rw [List.length_append, List.length_singleton]
        omega
      exact congrArg D.str (cutS_take (by decide))
    · refine iteDn hb ?_
      have e : fixL wd = wd := if_neg fun z => hb (mem_barred.mpr z)
      rw [e]
      walk_at "ev"
      rfl
  · have e : ((List.range n).map fun i : Nat => D.str (mkS (fixL (wordOf cs s0.toNat (letterAt st (i : Int)))))) = (NB.namesOf cs s0.toNat st n).map D.str := by
      unfold NB.namesOf
      rw [List.map_map] <;> rfl
    rw [e]
    exact q _ (namesOf_length _ _ _ _) (namesOf_nodup hl5 hs hn) (namesOf_good hl5 hm)
/-! ### the law -/
theorem not_label_mem {l : List Nat} {c : Nat} (h : c ∈ l) (hc : c ∉ abcL) : isLabel (.str (mkS l)) = false := by
  cases e : isLabel (.str (mkS l)) with
  | false => rfl
  | true => exact absurd ((isLabel_mk.mp e).2.2.1 c h) hc
theorem not_label_len {l : List Nat} (h : 6 < l.length) : isLabel (.str (mkS l)) = false := by
  cases e : isLabel (.str (mkS l)) with
  | false => rfl
  | true => exact absurd (isLabel_mk.mp e).2.1 (by omega)
def oddL : List Str := ["A", "_", "1", " ", "-", "~", "\n", "Z"]
theorem oddL_out : ∀ x ∈ oddL, x.cps.size = 1 ∧ ∀ c ∈ x.cps.toList, c ∉ abcL := by decide +kernel
theorem barred_facts : ∀ x ∈ barred, isLabel (.str x) = false ∧ x.length ≤ 6 ∧ ("x" ++ x : Str).length ≤ 7 ∧ isLabel (.str (cutS ("x" ++ x) none (some 6))) = true ∧ isLabel (.str (cutS x (some 1) none)) = true ∧ (cutS ("x" ++ x) none (some 6)).length ≤ 6 ∧ (cutS x (some 1) none).length ≤ 6 := by decide +kernel
theorem h_law (T : Hd K mg) : Has P w K mg base "law" 7 P_law (spLaw K) := by
  have h__law_pick : Has P w K mg base "_law_pick" 1 P__law_pick (spT (ST K) F_pick) := h__law_pick T
  have h__law_of : Has P w K mg base "_law_of" 2 P__law_of (spT (ST K) F_of) := h__law_of T
  have h__law_tape : Has P w K mg base "_law_tape" 1 P__law_tape (spTape K) := h__law_tape T
  have h__law_names : Has P w K mg base "_law_names" 3 P__law_names (spT (ST K) F_names) := h__law_names T
  have h__law_same : Has P w K mg base "_law_same" 5 P__law_same (spF (S0 K) (F_same 5)) := h__law_same T 5
  have h_is_label : Has P w K mg base "is_label" 2 P_is_label (spF (S0 K) F_label) := h_is_label T
  refine has_of T.d_law T.g_law sc_law (fun _ _ _ _ _ _ us hl => match us, hl with | [_], _ => rfl) (fun vs H Q E ⟨a, ns, e, _⟩ => by rw [e]; rfl) fun f cdv A outer s0 H vs Q E hr h => ?_
  refine ⟨_, (pss_cons (ps_set (i := 1) sc_law.nd rfl (Or.inl rfl) (pe_has h__law_tape hr (pa_cons (pv 0) pa_nil)))
      (pss_cons (ps_set (i := 2) sc_law.nd rfl (Or.inl rfl) (pe_has h__law_names hr (pa_cons (pv 1) (pa_cons pe_int pa_nil))))
      (pss_cons (ps_if (PW.pt (pw_or (pt_not (pt_val (pe_has h__law_same hr (pa_cons (pe_lc (own := [("_law_word", 8)]) rfl sc_law.nd (R.pi_list K (pv 2)) (blkOk_by (N := N_law) (sc := defScope s_law) (by decide +kernel)) (fun _ _ _ _ _ => (pg_name (i := 8) sc_law.nd rfl (Or.inl rfl))) (fun _ _ _ _ _ => pts_nil) (fun _ _ _ _ _ => (pe_has h_is_label hr (pa_cons (pv 8) pa_nil)))) (pa_cons (pe_op op_mulX (pe_lst (pa_cons pe_bl pa_nil)) pe_int) pa_nil))))) (pw_or1 (pt_cmpR op_notB0 (pe_hasK0 (ks := ["value"]) h_is_label T.d_is_label hr (fun _ _ _ _ _ _ us ws h1 h2 => match us, h1, ws, h2 with | [], _, [_], _ => rfl) (pk_cons (pe_ix (R.ix_seq K) (pv 2) pe_int (fun _ _ => rfl)) pk_nil)) pe_bl (nomark _))))) (pss_one (ps_ret pe_bl)) pss_nil)
      (pss_cons (ps_set (i := 3) sc_law.nd rfl (Or.inl rfl) (pe_has h__law_pick hr (pa_cons (pv 1) (pa_cons (pe_op (R.op_addX K) (pe_callB (R.cr_len K) rfl T.f_len (by decide +kernel) (pa_cons (pe_ix (R.ix_seq K) (pv 2) pe_int (fun _ _ => rfl)) pa_nil)) pe_int) pa_nil))))
      (pss_cons (ps_set (i := 4) sc_law.nd rfl (Or.inl rfl) (pe_op (R.op_addX K) (pe_op (R.op_addX K) (pe_slice (R.sl_any K) (pe_ix (R.ix_seq K) (pv 2) pe_int (fun _ _ => rfl)) po_none (po_some (pv 3))) (pe_has h__law_of hr (pa_cons (pv 1) (pa_cons (pe_lst (pa_cons pe_str (pa_cons pe_str (pa_cons pe_str (pa_cons pe_str (pa_cons pe_str (pa_cons pe_str (pa_cons pe_str (pa_cons pe_str pa_nil))))))))) pa_nil)))) (pe_slice (R.sl_any K) (pe_ix (R.ix_seq K) (pv 2) pe_int (fun _ _ => rfl)) (po_some (pv 3)) po_none)))
      (pss_cons (ps_set (i := 5) sc_law.nd rfl (Or.inl rfl) (pe_has h__law_of hr (pa_cons (pv 1) (pa_cons (pe_lst (pa_cons pe_str (pa_cons pe_str (pa_cons pe_str (pa_cons pe_str (pa_cons pe_str (pa_cons pe_str (pa_cons pe_str (pa_cons pe_str (pa_cons pe_str (pa_cons pe_str (pa_cons pe_str (pa_cons pe_str pa_nil))))))))))))) pa_nil))))
      (pss_cons (ps_set (i := 6) sc_law.nd rfl (Or.inl rfl) (pe_lst (pa_cons (pv 4) (pa_cons (pv 5) (pa_cons pe_str (pa_cons (pe_op (R.op_addX K) (pe_ix (R.ix_seq K) (pv 2) pe_int (fun _ _ => rfl)) pe_str) (pa_cons pe_str (pa_cons pe_non (pa_cons pe_int (pa_cons pe_bl (pa_cons (pe_tup (pa_cons pe_str pa_nil)) (pa_cons (pe_lst (pa_cons pe_str pa_nil)) (pa_cons (pe_tup pa_nil) (pa_cons (pe_op (R.op_addX K) (pe_ix (R.ix_seq K) (pv 2) pe_int (fun _ _ => rfl)) pe_str) (pa_cons pe_str pa_nil)))))))))))))))
      (pss_cons (ps_set (i := 7) sc_law.nd rfl (Or.inl rfl) (pe_lst (pa_cons pe_str (pa_cons pe_str (pa_cons pe_str (pa_cons (pe_slice (R.sl_any K) (pe_op (R.op_addX K) pe_str (pv 5)) po_none (po_some pe_int)) (pa_cons (pe_slice (R.sl_any K) (pv 5) (po_some pe_int) po_none) (pa_cons pe_str (pa_cons pe_str (pa_cons pe_str (pa_cons pe_str (pa_cons pe_str (pa_cons pe_str (pa_cons pe_str pa_nil))))))))))))))
      (pss_one (ps_ret (pe_and (pe_has h__law_same hr (pa_cons (pe_lc (own := [("_law_thing", 9)]) rfl sc_law.nd (R.pi_list K (pv 6)) (blkOk_by (N := N_law) (sc := defScope s_law) (by decide +kernel)) (fun _ _ _ _ _ => (pg_name (i := 9) sc_law.nd rfl (Or.inl rfl))) (fun _ _ _ _ _ => pts_nil) (fun _ _ _ _ _ => (pe_has h_is_label hr (pa_cons (pv 9) pa_nil)))) (pa_cons (pe_op op_mulX (pe_lst (pa_cons pe_bl pa_nil)) pe_int) pa_nil))) (pe_one (pe_has h__law_same hr (pa_cons (pe_lc (own := [("_law_thing", 9)]) rfl sc_law.nd (R.pi_list K (pv 7)) (blkOk_by (N := N_law) (sc := defScope s_law) (by decide +kernel)) (fun _ _ _ _ _ => (pg_name (i := 9) sc_law.nd rfl (Or.inl rfl))) (fun _ _ _ _ _ => pts_nil) (fun _ _ _ _ _ => (pe_has h_is_label hr (pa_cons (pv 9) pa_nil)))) (pa_cons (pe_op op_mulX (pe_lst (pa_cons pe_bl pa_nil)) pe_int) pa_nil))))))))))))))), ?_⟩
  obtain ⟨a, ns, rfl, hS, q⟩ := h
  refine law_start hS q fun p c => ?_
  walk_at "ev"
  refine ⟨4, rfl, by decide, fun ws h4 hnd hg => ?_⟩
  match ws, h4, hnd, hg with
  | [w0, w1, w2, w3], _, _, hg =>
  have g0 := hg w0 (by simp)
  have g1 := hg w1 (by simp)
  have g2 := hg w2 (by simp)
  have g3 := hg w3 (by simp)
  clear hg
  have sz : ∀ x, GoodL x → x.length ≤ sizeLine := fun x g => szs (by have := g.len; omega)
  walk_at "ev"
  refine lc_map (l := [w0, w1, w2, w3]) D.str (fun _ => .bl true) (szr rfl) (fun x hx => evg_name (by decide) ?_) ?_
  · have gx : GoodL x := by
      simp only [List.mem_cons, List.not_mem_nil, or_false] at hx
      rcases hx with rfl | rfl | rfl | rfl <;> assumption
    walk_at "ev"
    refine ⟨.str x, rfl, rfl, fun y e => by cases e; exact sz x gx, ?_⟩
    exact congrArg D.bl gx
  walk_at "ev"
  refine rvr_mulX_l (by decide) (by decide) (szr rfl) ?_
  walk_at "ev"
  refine ⟨.lst [.bl true, .bl true, .bl true, .bl true], rfl, rfl, by decide, ⟨_, rfl, ?_⟩⟩
  rw [if_neg (by decide)]
  walk_at "ev"
  refine rvr_ixq_l (d := .str w3) rfl ?_
  walk_at "ev"
  refine ⟨rfl, rfl, .str w3, rfl, rfl, fun y e => by cases e; exact sz _ g3, ?_⟩
  rw [show isLabel (.str w3) = true from g3]
  walk_at "ev"
  -- spot
  obtain ⟨l0, e0⟩ : ∃ l0, w0 = mkS l0 := ⟨_, (mkS_of w0).symm⟩
  obtain ⟨l1, e1⟩ : ∃ l1, w1 = mkS l1 := ⟨_, (mkS_of w1).symm⟩
  subst e0 e1
  have n0 := g0.len
  have n1 := g1.len
  rw [mkS_length] at n0 n1
  have hz : ∀ l : List Nat, l.length ≤ 100000 → (mkS l).length ≤ sizeLine := fun l h => by rw [mkS_length]; exact szs h
  rw [if_neg (by decide)]
  walk_at "ev"
  refine rvr_ixq_l (d := .str (mkS l0)) rfl ?_
  walk_at "ev"
  refine rvc_lenS (sz _ g0) ?_
  walk_at "ev"
  rw [mkS_length]
  refine ⟨_, rfl, by omega, abs_small (n := l0.length + 1) (by omega), fun s s0 s1 => ?_⟩
  walk_at "ev"
  -- bent
  refine rvr_ixq_l (d := .str (mkS l0)) rfl ?_
  walk_at "ev"
  refine rvs_any_s (sz _ g0) ?_
  rw [cutS_take s0]
  walk_at "ev"
  refine ⟨.lst (oddL.map D.str), _, rfl, rfl, by decide, by decide, fun y hy => ?_⟩
  obtain ⟨o, ho, rfl⟩ := List.mem_map.mp hy
  obtain ⟨o1, o2⟩ := oddL_out o ho
  obtain ⟨lo, eo⟩ : ∃ lo, o = mkS lo := ⟨_, (mkS_of o).symm⟩
  subst eo
  have o3 : lo.length = 1 := by simpa [mkS] using o1
  rw [mkS_list] at o2
  refine rvr_addX_s (szs ?_) ?_
  · rw [mkS_length, mkS_length, List.length_take]
    omega
  walk_at "ev"
  refine rvr_ixq_l (d := .str (mkS l0)) rfl ?_
  walk_at "ev"
  refine rvs_any_s (sz _ g0) ?_
  rw [cutS_drop s0, mkS_app]
  refine rvr_addX_s (szs ?_) ?_
  · rw [mkS_length, mkS_length, List.length_append, List.length_take, List.length_drop]
    omega
  rw [mkS_app]
  generalize hb : l0.take s.toNat ++ lo ++ l0.drop s.toNat = bent
  have hbl : isLabel (.str (mkS bent)) = false := by
    match lo, o3, o2 with
    | [c], _, o2 => exact not_label_mem (c := c) (by rw [← hb]; simp) (o2 c (by simp))
  have hbn : bent.length ≤ 20 := by
    rw [← hb, List.length_append, List.length_append, List.length_take, List.length_drop]
    omega
  clear hb o1 o2 o3 ho hy
  walk_at "ev"
  -- barred
  refine ⟨.lst (barred.map D.str), _, rfl, rfl, by decide, by decide, fun y hy => ?_⟩
  obtain ⟨b, hb, rfl⟩ := List.mem_map.mp hy
  obtain ⟨b1, b2, b3, b4, b5, b6, b7⟩ := barred_facts b hb
  walk_at "ev"
  -- bad
  refine rvr_ixq_l (d := .str (mkS l0)) rfl ?_
  walk_at "ev"
  refine rvr_addX_s (szs ?_) ?_
  · rw [mkS_length]
    show _ + 6 ≤ _
    omega
  walk_at "ev"
  refine rvr_ixq_l (d := .str (mkS l1)) rfl ?_
  walk_at "ev"
  refine rvr_addX_s (szs ?_) ?_
  · rw [mkS_length]
    show _ + 1 ≤ _
    omega
  walk_at "ev"
  have qx : (Str.ofString "x" : Str).length = 1 := by decide +kernel
  refine rvr_addX_s (szs (by rw [qx]; omega)) ?_
  walk_at "ev"
  refine rvs_any_s (szs (by omega)) ?_
  walk_at "ev"
  refine rvs_any_s (szs (by omega)) ?_
  walk_at "ev"
  -- the bad ones
  have ea : Str.ofString "aaaaaa" = mkS [97, 97, 97, 97, 97, 97] := by decide +kernel
  have en : Str.ofString "\n" = mkS [10] := by decide +kernel
  have x1 : isLabel (.str (mkS l0 ++ Str.ofString "aaaaaa")) = false := by
    rw [ea, mkS_app]
    exact not_label_len (by rw [List.length_append]; show 6 < _ + 6; omega)
  have x2 : isLabel (.str (mkS l1 ++ Str.ofString "\n")) = false := by
    rw [en, mkS_app]
    exact not_label_mem (c := 10) (by simp) (by decide +kernel)
  have x3 : isLabel (.str (Str.ofString "")) = false ∧ isLabel (.str (Str.ofString "abcdefg")) = false ∧ isLabel (.str (Str.ofString " ")) = false := by decide +kernel
  have z1 : (mkS l0 ++ Str.ofString "aaaaaa").length ≤ 100 := by
    rw [ea, mkS_app, mkS_length, List.length_append]
    show _ + 6 ≤ _
    omega
  have z2 : (mkS l1 ++ Str.ofString "\n").length ≤ 100 := by
    rw [en, mkS_app, mkS_length, List.length_append]
    show _ + 1 ≤ _
    omega
  have z3 : (Str.ofString "").length ≤ 100 ∧ (Str.ofString "abcdefg").length ≤ 100 ∧ (Str.ofString " ").length ≤ 100 := by decide +kernel
  have z4 : (mkS bent).length ≤ 100 := by rw [mkS_length]; omega
  have basics : ∀ d ∈ [D.str (mkS bent), D.str b, D.str (Str.ofString ""), D.str (mkS l0 ++ Str.ofString "aaaaaa"), D.str (Str.ofString "abcdefg"), D.non, D.int 3, D.bl true, D.tup [D.str (Str.ofString "a")], D.lst [D.str (Str.ofString "a")], D.tup [], D.str (mkS l1 ++ Str.ofString "\n"), D.str (Str.ofString " ")],
      basic d = true ∧ (∀ x, d = .str x → x.length ≤ sizeLine) ∧ isLabel d = false := by
    intro d hd
    have fin : ∀ x : Str, x.length ≤ 100 → ∀ y, D.str x = D.str y → y.length ≤ sizeLine := fun x h y e => by cases e; exact szs (by omega)
    simp only [List.mem_cons, List.not_mem_nil, or_false] at hd
    rcases hd with rfl | rfl | rfl | rfl | rfl | rfl | rfl | rfl | rfl | rfl | rfl | rfl | rfl
    · exact ⟨rfl, fin _ z4, hbl⟩
    · exact ⟨rfl, fin _ (by omega), b1⟩
    · exact ⟨rfl, fin _ z3.1, x3.1⟩
    · exact ⟨rfl, fin _ z1, x1⟩
    · exact ⟨rfl, fin _ z3.2.1, x3.2.1⟩
    · exact ⟨rfl, fun _ e => (by cases e), rfl⟩
    · exact ⟨rfl, fun _ e => (by cases e), rfl⟩
    · exact ⟨rfl, fun _ e => (by cases e), rfl⟩
    · exact ⟨rfl, fun _ e => (by cases e), rfl⟩
    · exact ⟨rfl, fun _ e => (by cases e), rfl⟩
    · exact ⟨rfl, fun _ e => (by cases e), rfl⟩
    · exact ⟨rfl, fin _ z2, x2⟩
    · exact ⟨rfl, fin _ z3.2.2, x3.2.2⟩
  refine lc_map (l := [D.str (mkS bent), D.str b, D.str (Str.ofString ""), D.str (mkS l0 ++ Str.ofString "aaaaaa"), D.str (Str.ofString "abcdefg"), D.non, D.int 3, D.bl true, D.tup [D.str (Str.ofString "a")], D.lst [D.str (Str.ofString "a")], D.tup [], D.str (mkS l1 ++ Str.ofString "\n"), D.str (Str.ofString " ")]) (fun d => d) (fun _ => .bl false) (szr rfl) (fun d hd => evg_name (by decide) ?_) ?_
  · obtain ⟨h1, h2, h3⟩ := basics d hd
    walk_at "ev"
    exact ⟨d, rfl, h1, h2, congrArg D.bl h3⟩
  walk_at "ev"
  refine rvr_mulX_l (by decide) (by decide) (szr rfl) ?_
  walk_at "ev"
  refine ⟨.lst (List.replicate 13 (.bl false)), rfl, rfl, by decide, ⟨_, rfl, iteT ?_⟩⟩
  walk_at "ev"
  -- the good ones
  have w1 : isLabel (.str (Str.ofString "a")) = true ∧ isLabel (.str (Str.ofString "z")) = true ∧ isLabel (.str (Str.ofString "abcdef")) = true ∧ isLabel (.str (Str.ofString "rule")) = true ∧ isLabel (.str (Str.ofString "tree")) = true ∧ isLabel (.str (Str.ofString "look")) = true ∧ isLabel (.str (Str.ofString "bit")) = true ∧ isLabel (.str (Str.ofString "same")) = true ∧ isLabel (.str (Str.ofString "above")) = true ∧ isLabel (.str (Str.ofString "every")) = true := by decide +kernel
  have goods : ∀ d ∈ [D.str (Str.ofString "a"), D.str (Str.ofString "z"), D.str (Str.ofString "abcdef"), D.str (cutS (Str.ofString "x" ++ b) none (some 6)), D.str (cutS b (some 1) none), D.str (Str.ofString "rule"), D.str (Str.ofString "tree"), D.str (Str.ofString "look"), D.str (Str.ofString "bit"), D.str (Str.ofString "same"), D.str (Str.ofString "above"), D.str (Str.ofString "every")],
      ∃ x, d = .str x ∧ isLabel (.str x) = true := by
    intro d hd
    simp only [List.mem_cons, List.not_mem_nil, or_false] at hd
    obtain ⟨y1, y2, y3, y4, y5, y6, y7, y8, y9, y10⟩ := w1
    rcases hd with rfl | rfl | rfl | rfl | rfl | rfl | rfl | rfl | rfl | rfl | rfl | rfl <;> exact ⟨_, rfl, by assumption⟩
  refine lc_map (l := [D.str (Str.ofString "a"), D.str (Str.ofString "z"), D.str (Str.ofString "abcdef"), D.str (cutS (Str.ofString "x" ++ b) none (some 6)), D.str (cutS b (some 1) none), D.str (Str.ofString "rule"), D.str (Str.ofString "tree"), D.str (Str.ofString "look"), D.str (Str.ofString "bit"), D.str (Str.ofString "same"), D.str (Str.ofString "above"), D.str (Str.ofString "every")]) (fun d => d) (fun _ => .bl true) (szr rfl) (fun d hd => evg_name (by decide) ?_) ?_
  · obtain ⟨x, rfl, hx⟩ := goods d hd
    walk_at "ev"
    exact ⟨_, rfl, rfl, fun y e => by cases e; exact sz _ hx, congrArg D.bl hx⟩
  walk_at "ev"
  refine rvr_mulX_l (by decide) (by decide) (szr rfl) ?_
  walk_at "ev"
  exact ⟨.lst (List.replicate 12 (.bl true)), rfl, rfl, by decide, rfl⟩
end
end K02
namespace K02
open PySem PySem.Spec PyProof.Rows L2 NB
/-! ### the head: the top's run, the facts read off it -/
def loose0 : List PySem.Str := ["LETTERS", "is_word", "BARRED", "MOST_LETTERS", "is_label", "_law_tape", "_law_pick", "_law_of", "_law_same", "_law_names"]
def loose : List PySem.Str := loose0
abbrev R : PySem.W.OpenRow := PySem.W.OpenLaw.row PySem.Challenge.rw_nearboughs_k02_labels_known
abbrev hk : PySem.W.Hook := He.hookX 7 fa fn [] [] exB
def ob (s : PySem.W.SharedT) : He.AlX := He.obsX 7 fa fn [] [] exB (HandSHeadRun.getT s)
theorem ob_eq (s : PySem.W.SharedT) : ob s = hk.obs s.abs := He.obsX_eq (HandSHeadRun.getT_eq s)
theorem run (w : World) : HandSHeadRun.RunEq R (PySem.W.view R.prog [13]) hk ob 100000 loose w := by
  intro os
  kernel_rfl
theorem facts {P : Program} {w : World} {K : PySem.W.Frag} {h : Heap} {mg : Str → Option Value} {f : Addr} (X : K.In h) (G : h.Ns mainGlobals mg) (hfa : mg ("law" : Str) = some (.ref f)) (c : He.SaysX fa fn [] [] exB w h K) :
    ∃ fd : FuncData, (∀ (s : Shared) (v : Value), BindsTo s fd ⟨[v], []⟩ [("_law_script", v)]) ∧ ∀ base : Heap, K.In base → base.Ns mainGlobals mg → FnOk P w K mg base CX0 7 f fd ["_law_script"] (spLaw K) := by
  have T : Hd K mg := ⟨⟨h, X, G⟩, c.t.d, c.more⟩
  have e := hfa.symm.trans T.g_law
  cases e
  obtain ⟨fd, F⟩ := T.d_law
  have b := FunD.bindsA (ps := ["_law_script"]) F fun _ _ _ _ _ _ us hl => match us, hl with | [_], _ => rfl
  refine ⟨fd, fun s v => b s [v] rfl, fun base _ _ => ?_⟩
  obtain ⟨fd', Fo, _, _, _, lk⟩ := h_law (P := P) (w := w) (base := base) T
  obtain rfl := fd_one F.lk lk
  exact Fo
end K02
open PySem PySem.W PySem.Calls PyProof.Rows
set_option maxRecDepth 100000 in
set_option maxHeartbeats 0 in
theorem PySem.Challenge.cw_nearboughs_k02_labels_known_holds : PySem.Challenge.rw_nearboughs_k02_labels_known.Holds := by
  w_on; o_law
  refine HandSHeadRun.head_any (r := OpenLaw.row PySem.Challenge.rw_nearboughs_k02_labels_known) (q := view (OpenLaw.row PySem.Challenge.rw_nearboughs_k02_labels_known).prog [13]) (H := K02.hk) (ob := K02.ob) (M := 100000) (loose := K02.loose) (d := HandSHeadRun.topDef (OpenLaw.row PySem.Challenge.rw_nearboughs_k02_labels_known).prog 13) (kwd := []) K02.ob_eq
    (by kernel_rfl) (fun s => by kernel_rfl) K02.run (by kernel_rfl) (by kernel_rfl) (by kernel_rfl) (by rfl) (by first | assumption | decide +kernel) (by decide +kernel) ⟨rfl, rfl, rfl, rfl, rfl, by decide +kernel⟩ ?hw ?hc
  case hw => w_witness2
  case hc =>
    refine L2.walk_ofE (l := PySem.Challenge.rw_nearboughs_k02_labels_known) (n := 63) (k := 7) (x := "_law_script") (CX := L2.CX0) rfl (by decide) (by kernel_rfl) ⟨rfl, by decide, by decide⟩ ?F (fun _ _ _ _ z => z)
    intro w mg fa h Y G hmg0
    obtain ⟨K, KX, c⟩ := Y
    have hmg : mg ("law" : PySem.Str) = some (.ref fa) := by
      have e : (HandSHeadRun.topDef (OpenLaw.row PySem.Challenge.rw_nearboughs_k02_labels_known).prog 13).name = ("law" : PySem.Str) := by kernel_rfl
      rw [← e]
      exact hmg0
    obtain ⟨fd, hb, hF⟩ := K02.facts (P := (PySem.Challenge.rw_nearboughs_k02_labels_known).prog) (w := w) KX G hmg c
    exact ⟨K, fd, NB.spLaw K, KX, hb, fun H a ns hl _ hS => ⟨a, ns, rfl, hS, fun _ => rfl⟩, hF⟩
#print axioms PySem.Challenge.cw_nearboughs_k02_labels_known_holds

