import PyProof.Rows.All
import Wide.All
import OpenK.AllK
import Wide.FinOn
import HandS.ForMost
import HandS.ForExc
import HandS.Walk
import HandS.Wide
import HandS.Defaults
import PyProof.StrBlock2
import HandS.Style
import HandS.Deep
import HandS.TupAny
import HandS.Dict
import HandS.Text
import HandS.Strs
import HandS.SetFor
import PyProof.ListNew
import PyProof.Rows.SetFrom
import HandS.SortRule
import KE.SortData
import HandS.TupLen
import HandS.Conv
import HandS.SortKw
import HandS.IsInst
import HandS.ExcIs
import HandS.ExcField
import HandS.TryOnly
import KE.KExcIs
import HandS.ExcInit
import HandS.FStr
import HandS.More
import HandS.HeadEnd
import HandS.HeadHook1
import HandS.HeadHook2
import KE.IntTextLaws
import KE.KStateDown
import HandS.Words
import HandS.WordsExc
import HandS.Ends
import HandS.Head0
import HandS.Head1
import HandS.Head2
import PySem.Challenge.RW_selvage_k92_cuttings_there_and_back
set_option Elab.async false
set_option linter.all false
set_option maxRecDepth 100000
set_option maxHeartbeats 2000000
namespace SV
open PySem PySem.Spec PyProof.Rows L2

/-- data, without the heap -/
inductive D where
  | non | bl (b : Bool) | int (i : Int) | str (x : Str) | lst (ds : List D) | tup (ds : List D) | scr (ns : List Int)
  | exo (a dx : Addr) (pay : Option (Str × Int))
  | dik (kvs : List (Key × D)) | dit (kvs : List (List Key × D)) | ob (C : Addr) (fs : List (Str × D)) | hol (a : Addr)

abbrev Fr := PySem.W.Frag
/-- a list that is read (the script): tracked or known where Z holds, or an object of the module -/
def SqZ (K : Fr) (H : Hp) (Z : Addr → Prop) (a : Addr) (xs : List V) : Prop := (Rd H a (.lst xs) ∧ Z a) ∨
  ∃ (o : Obj) (its : Array Value) (n : Nat), K.lookup a = some o ∧ o.cls = .type "list" ∧ o.dict = none ∧ o.data = .seq its n ∧ its.size ≤ sizeLine ∧ Vals xs its.toList
theorem SqZ.l {K : Fr} {H : Hp} {Z : Addr → Prop} {a : Addr} {xs : List V} (h : SqZ K H Z a xs) : SqL K H a xs := by
  rcases h with h | h
  · exact .inl h.1
  · exact .inr h
/-- v is the value of the datum at H; every list within stands where Z holds -/
inductive Rp (K : Fr) (H : Hp) (Z : Addr → Prop) : V → D → Prop
  | non : Rp K H Z .non .non
  | bl (b : Bool) : Rp K H Z (.bl b) (.bl b)
  | int (i : Int) : Rp K H Z (.int i) (.int i)
  | str (x : Str) : Rp K H Z (.str x) (.str x)
  | lst {a : Addr} {vs : List V} {ds : List D} (h : H a = some (.lst vs)) (z : Z a) (hl : vs.length = ds.length) (r : ∀ (j : Nat) v d, vs[j]? = some v → ds[j]? = some d → Rp K H Z v d) : Rp K H Z (.ref a) (.lst ds)
  | tup {a : Addr} {vs : List V} {ds : List D} (h : H a = some (.tup vs)) (hl : vs.length = ds.length) (r : ∀ (j : Nat) v d, vs[j]? = some v → ds[j]? = some d → Rp K H Z v d) : Rp K H Z (.ref a) (.tup ds)
  | scr {a : Addr} {ns : List Int} (h : SqZ K H Z a (ns.map V.int)) : Rp K H Z (.ref a) (.scr ns)
  | exo {a dx : Addr} {pay : Option (Str × Int)} (h : ∀ f n, pay = some (f, n) → H dx = some (.xd [(f, .int n)])) : Rp K H Z (.ref a) (.exo a dx pay)
  | dik {a : Addr} {kvs : List (Key × V)} {ds : List (Key × D)} (h : Rd H a (.dK kvs)) (z : Z a) (hk : kvs.map (·.1) = ds.map (·.1)) (r : ∀ (j : Nat) v d, kvs[j]? = some v → ds[j]? = some d → Rp K H Z v.2 d.2) : Rp K H Z (.ref a) (.dik ds)
  | dit {a : Addr} {kvs : List (List Key × V)} {ds : List (List Key × D)} (h : Rd H a (.dT kvs)) (z : Z a) (hk : kvs.map (·.1) = ds.map (·.1)) (r : ∀ (j : Nat) v d, kvs[j]? = some v → ds[j]? = some d → Rp K H Z v.2 d.2) : Rp K H Z (.ref a) (.dit ds)
  | ob {a C dx : Addr} {fs : List (Str × V)} {ds : List (Str × D)} (h : H a = some (.ins C dx fs)) (z : Z a) (hk : fs.map (·.1) = ds.map (·.1)) (r : ∀ (j : Nat) v d, fs[j]? = some v → ds[j]? = some d → Rp K H Z v.2 d.2) : Rp K H Z (.ref a) (.ob C ds)
  | hol (a : Addr) : Rp K H Z (.ref a) (.hol a)

theorem mut_ex {H H' : Hp} {a : Addr} (e : ∀ b o, H b = some o → H' b = some o) (h : Mut (H a)) : Mut (H' a) := by
  cases q : H a with
  | none => rw [q] at h; exact h.elim
  | some o => rw [e a o q]; rw [q] at h; exact h
theorem mut_ne {H : Hp} {a : Addr} (h : Mut (H a)) : H a ≠ none := fun q => by rw [q] at h; exact h
theorem mut_lst {H : Hp} {a : Addr} {xs : List V} (h : H a = some (.lst xs)) : Mut (H a) := by rw [h]; trivial
/-- what must stay: where Z holds, and what can't be written -/
def Mo (Z : Addr → Prop) (H H' : Hp) : Prop := ∀ a o, H a = some o → (Z a ∨ ¬ Mut (some o)) → H' a = some o
theorem Mo.ex {Z : Addr → Prop} {H H' : Hp} (e : Same H H') : Mo Z H H' := fun a o h _ => e a o h
theorem Mo.rd {Z : Addr → Prop} {H H' : Hp} (m : Mo Z H H') {a : Addr} {u : HO} (h : Rd H a u) (z : Z a ∨ ¬ Mut (some u)) : Rd H' a u := by
  rcases h with h | ⟨o, h⟩
  · exact .inl (m a _ h z)
  · exact .inr ⟨o, m a _ h (.inr fun q => q)⟩
theorem Mo.t {K : Fr} {Z : Addr → Prop} {H H' : Hp} (m : Mo Z H H') {a : Addr} {vs : List V} (h : SqT K H a vs) : SqT K H' a vs := by
  rcases h with h | h
  · exact .inl (m.rd h (.inr fun q => q))
  · exact .inr h
theorem Mo.l {K : Fr} {Z : Addr → Prop} {H H' : Hp} (m : Mo Z H H') {a : Addr} {vs : List V} (h : SqL K H a vs) (z : Z a) : SqL K H' a vs := by
  rcases h with h | h
  · exact .inl (m.rd h (.inl z))
  · exact .inr h
theorem Rp.mo {K : Fr} {Z Z' : Addr → Prop} {H H' : Hp} {v : V} {d : D} (h : Rp K H Z v d) (m : Mo Z H H') (hz : ∀ a, Z a → Z' a) : Rp K H' Z' v d := by
  induction h with
  | non => exact .non
  | bl b => exact .bl b
  | int i => exact .int i
  | str x => exact .str x
  | lst h z hl r ih => exact .lst (m _ _ h (.inl z)) (hz _ z) hl fun j v d e1 e2 => ih j v d e1 e2
  | tup h hl r ih => exact .tup (m _ _ h (.inr fun q => q)) hl fun j v d e1 e2 => ih j v d e1 e2
  | scr h =>
    rcases h with ⟨h, z⟩ | h
    · exact .scr (.inl ⟨m.rd h (.inl z), hz _ z⟩)
    · exact .scr (.inr h)
  | exo h => exact .exo fun f n e => m _ _ (h f n e) (.inr fun q => q)
  | dik h z hk r ih => exact .dik (m.rd h (.inl z)) (hz _ z) hk fun j v d e1 e2 => ih j v d e1 e2
  | dit h z hk r ih => exact .dit (m.rd h (.inl z)) (hz _ z) hk fun j v d e1 e2 => ih j v d e1 e2
  | ob h z hk r ih => exact .ob (m _ _ h (.inl z)) (hz _ z) hk fun j v d e1 e2 => ih j v d e1 e2
  | hol v => exact .hol v
theorem Rp.ex {K : Fr} {Z : Addr → Prop} {H H' : Hp} {v : V} {d : D} (h : Rp K H Z v d) (e : Same H H') : Rp K H' Z v d := h.mo (Mo.ex e) fun _ z => z
theorem Rp.z {K : Fr} {Z Z' : Addr → Prop} {H : Hp} {v : V} {d : D} (h : Rp K H Z v d) (hz : ∀ a, Z a → Z' a) : Rp K H Z' v d := h.mo (Mo.ex (Same.refl H)) hz

/-- .. where it stands at all -/
theorem Rp.dom {K : Fr} {Z : Addr → Prop} {H : Hp} {v : V} {d : D} (h : Rp K H Z v d) : Rp K H (fun a => Z a ∧ H a ≠ none) v d := by
  induction h with
  | non => exact .non
  | bl b => exact .bl b
  | int i => exact .int i
  | str x => exact .str x
  | lst h z hl r ih => exact .lst h ⟨z, by rw [h]; exact fun e => nomatch e⟩ hl fun j v d e1 e2 => ih j v d e1 e2
  | tup h hl r ih => exact .tup h hl fun j v d e1 e2 => ih j v d e1 e2
  | scr h =>
    rcases h with ⟨h, z⟩ | h
    · refine .scr (.inl ⟨h, z, ?_⟩)
      rcases h with h | ⟨o, h⟩ <;> (rw [h]; exact fun e => nomatch e)
    · exact .scr (.inr h)
  | exo h => exact .exo h
  | dik h z hk r ih => exact .dik h ⟨z, by rcases h with h | ⟨o, h⟩ <;> (rw [h]; exact fun e => nomatch e)⟩ hk fun j v d e1 e2 => ih j v d e1 e2
  | dit h z hk r ih => exact .dit h ⟨z, by rcases h with h | ⟨o, h⟩ <;> (rw [h]; exact fun e => nomatch e)⟩ hk fun j v d e1 e2 => ih j v d e1 e2
  | ob h z hk r ih => exact .ob h ⟨z, by rw [h]; exact fun e => nomatch e⟩ hk fun j v d e1 e2 => ih j v d e1 e2
  | hol v => exact .hol v
/-- all of a list -/
def Rps (K : Fr) (H : Hp) (Z : Addr → Prop) (vs : List V) (ds : List D) : Prop := vs.length = ds.length ∧ ∀ (j : Nat) v d, vs[j]? = some v → ds[j]? = some d → Rp K H Z v d
theorem Rps.nil {K : Fr} {H : Hp} {Z : Addr → Prop} : Rps K H Z [] [] := ⟨rfl, fun j v d h => by simp at h⟩
theorem Rps.cons {K : Fr} {H : Hp} {Z : Addr → Prop} {v : V} {d : D} {vs : List V} {ds : List D} (h : Rp K H Z v d) (t : Rps K H Z vs ds) : Rps K H Z (v :: vs) (d :: ds) := by
  refine ⟨by simp [t.1], fun j v' d' h1 h2 => ?_⟩
  cases j with
  | zero => simp at h1 h2; subst h1; subst h2; exact h
  | succ j => exact t.2 j v' d' (by simpa using h1) (by simpa using h2)
theorem Rps.mo {K : Fr} {Z Z' : Addr → Prop} {H H' : Hp} {vs : List V} {ds : List D} (h : Rps K H Z vs ds) (m : Mo Z H H') (hz : ∀ a, Z a → Z' a) : Rps K H' Z' vs ds := ⟨h.1, fun j v d a b => (h.2 j v d a b).mo m hz⟩
theorem Rps.ex {K : Fr} {Z : Addr → Prop} {H H' : Hp} {vs : List V} {ds : List D} (h : Rps K H Z vs ds) (e : Same H H') : Rps K H' Z vs ds := h.mo (Mo.ex e) fun _ z => z
theorem Rps.dom {K : Fr} {Z : Addr → Prop} {H : Hp} {vs : List V} {ds : List D} (h : Rps K H Z vs ds) : Rps K H (fun a => Z a ∧ H a ≠ none) vs ds := ⟨h.1, fun j v d a b => (h.2 j v d a b).dom⟩
theorem Rps.at {K : Fr} {Z : Addr → Prop} {H : Hp} {vs : List V} {ds : List D} (h : Rps K H Z vs ds) {j : Nat} {d : D} (e : ds[j]? = some d) : ∃ v, vs[j]? = some v ∧ Rp K H Z v d := by
  obtain ⟨hj, _⟩ := List.getElem?_eq_some_iff.mp e
  have hj' : j < vs.length := by rw [h.1]; exact hj
  exact ⟨vs[j], by simp [hj'], h.2 j _ d (by simp [hj']) e⟩
theorem Rps.app {K : Fr} {H : Hp} {Z : Addr → Prop} {vs ws : List V} {ds es : List D} (a : Rps K H Z vs ds) (b : Rps K H Z ws es) : Rps K H Z (vs ++ ws) (ds ++ es) := by
  refine ⟨by simp [a.1, b.1], fun j v d h1 h2 => ?_⟩
  by_cases hj : j < vs.length
  · have hj2 : j < ds.length := by rw [← a.1]; exact hj
    rw [List.getElem?_append_left hj] at h1
    rw [List.getElem?_append_left hj2] at h2
    exact a.2 j v d h1 h2
  · rw [List.getElem?_append_right (by omega)] at h1
    rw [List.getElem?_append_right (by have := a.1; omega)] at h2
    rw [← a.1] at h2
    exact b.2 _ v d h1 h2
theorem Rps.sub {K : Fr} {H : Hp} {Z : Addr → Prop} {vs : List V} {ds : List D} (a : Rps K H Z vs ds) (n m : Nat) : Rps K H Z ((vs.drop n).take m) ((ds.drop n).take m) := by
  refine ⟨by simp [a.1], fun j v d h1 h2 => ?_⟩
  rw [List.getElem?_take] at h1 h2
  split at h1
  · rename_i hj
    rw [if_pos hj] at h2
    rw [List.getElem?_drop] at h1 h2
    exact a.2 _ v d h1 h2
  · cases h1
theorem Rps.rev {K : Fr} {H : Hp} {Z : Addr → Prop} {vs : List V} {ds : List D} (a : Rps K H Z vs ds) : Rps K H Z vs.reverse ds.reverse := by
  refine ⟨by simp [a.1], fun j v d h1 h2 => ?_⟩
  by_cases hj : j < vs.length
  · rw [List.getElem?_reverse hj] at h1
    rw [List.getElem?_reverse (by rw [← a.1]; exact hj)] at h2
    rw [← a.1] at h2
    exact a.2 _ v d h1 h2
  · rw [List.getElem?_eq_none (by simpa using hj)] at h1; cases h1

/-- kinds of what a slot holds: sh (nothing of it is one's own), an own list of such, an own pair or triple's parts -/
inductive Kd where
  | sh | ls (k : Kd) | t2 (a b : Kd) | t3 (a b c : Kd) | lk (p : Addr) (vs : List V)
  | bw (p : Addr) (k : Kd) | dc (k : Kd) | dt | ob (ks : Str → Kd) | lh (p : Addr) (vs : List V) (n : Nat) (k : Kd)
/-- whose an address is: none: nobody's; some pos: the place in a slot's datum, innermost first, the slot last -/
abbrev Co := Addr → Option (List Nat)
def Rk (K : Fr) (H : Hp) (Z : Addr → Prop) (c : Co) : Kd → List Nat → V → D → Prop
  | .sh, _, v, d => Rp K H (fun a => Z a ∧ c a = none) v d
  | .ls k, pos, v, d => ∃ p vs ds, v = .ref p ∧ d = .lst ds ∧ c p = some pos ∧ H p = some (.lst vs) ∧ vs.length = ds.length ∧ ∀ (j : Nat) v' d', vs[j]? = some v' → ds[j]? = some d' → Rk K H Z c k (j :: pos) v' d'
  | .t2 k1 k2, pos, v, d => ∃ p v1 v2 d1 d2, v = .ref p ∧ d = .tup [d1, d2] ∧ H p = some (.tup [v1, v2]) ∧ Rk K H Z c k1 (0 :: pos) v1 d1 ∧ Rk K H Z c k2 (1 :: pos) v2 d2
  | .t3 k1 k2 k3, pos, v, d => ∃ p v1 v2 v3 d1 d2 d3, v = .ref p ∧ d = .tup [d1, d2, d3] ∧ H p = some (.tup [v1, v2, v3]) ∧ Rk K H Z c k1 (0 :: pos) v1 d1 ∧ Rk K H Z c k2 (1 :: pos) v2 d2 ∧ Rk K H Z c k3 (2 :: pos) v3 d3
  | .lk p vs, pos, v, d => ∃ ds, v = .ref p ∧ d = .lst ds ∧ c p = some pos ∧ H p = some (.lst vs) ∧ Rps K H (fun a => Z a ∧ c a = none) vs ds
  | .bw p k, pos, v, d => v = .ref p ∧ Rk K H Z c k pos v d
  | .dc k, pos, v, d => ∃ p kvs ds, v = .ref p ∧ d = .dik ds ∧ c p = some pos ∧ H p = some (.dK kvs) ∧ kvs.map (·.1) = ds.map (·.1) ∧ ∀ (j : Nat) v' d', kvs[j]? = some v' → ds[j]? = some d' → Rk K H Z c k (j :: pos) v'.2 d'.2
  | .dt, pos, v, d => ∃ p kvs ds, v = .ref p ∧ d = .dit ds ∧ c p = some pos ∧ H p = some (.dT kvs) ∧ kvs.map (·.1) = ds.map (·.1) ∧ ∀ (j : Nat) v' d', kvs[j]? = some v' → ds[j]? = some d' → Rp K H (fun a => Z a ∧ c a = none) v'.2 d'.2
  | .ob ks, pos, v, d => ∃ p C dx fs ds, v = .ref p ∧ d = .ob C ds ∧ c p = some pos ∧ H p = some (.ins C dx fs) ∧ fs.map (·.1) = ds.map (·.1) ∧ ∀ (j : Nat) v' d', fs[j]? = some v' → ds[j]? = some d' → Rk K H Z c (ks d'.1) (j :: pos) v'.2 d'.2
  | .lh p vs n k, pos, v, d => ∃ ds, v = .ref p ∧ d = .lst ds ∧ c p = some pos ∧ H p = some (.lst vs) ∧ vs.length = ds.length ∧ (∀ (j : Nat) v' d', j ≠ n → vs[j]? = some v' → ds[j]? = some d' → Rk K H Z c k (j :: pos) v' d') ∧ ∀ v' d', vs[n]? = some v' → ds[n]? = some d' → ∃ a, v' = .ref a ∧ d' = .hol a

/-- below a place -/
def Und (pos q : List Nat) : Prop := ∃ s, q = s ++ pos
theorem Und.refl (pos : List Nat) : Und pos pos := ⟨[], rfl⟩
theorem Und.cons {pos q : List Nat} {j : Nat} (h : Und (j :: pos) q) : Und pos q := by
  obtain ⟨s, rfl⟩ := h
  exact ⟨s ++ [j], by simp⟩
/-- a kind's datum under another heap, colouring: what stands below pos keeps its object and is recoloured from pos to pos' -/
theorem Rk.mv {K : Fr} {H H' : Hp} {Z Z' : Addr → Prop} {c c' : Co} : ∀ {k : Kd} {pos pos' : List Nat} {v : V} {d : D}, Rk K H Z c k pos v d →
    (∀ a o, H a = some o → ((Z a ∧ c a = none) ∨ (∃ s, c a = some (s ++ pos)) ∨ ¬ Mut (some o)) → H' a = some o) → (∀ a, Z a ∧ c a = none → Z' a ∧ c' a = none) → (∀ a s, c a = some (s ++ pos) → c' a = some (s ++ pos')) → Rk K H' Z' c' k pos' v d
  | .sh, pos, pos', v, d, h, hm, hz, hc => by
    refine Rp.mo (Z := fun a => Z a ∧ c a = none) h (fun a o e z => hm a o e ?_) hz
    rcases z with z | z
    · exact .inl z
    · exact .inr (.inr z)
  | .ls k, pos, pos', v, d, h, hm, hz, hc => by
    obtain ⟨p, vs, ds, rfl, rfl, hp, hH, hl, r⟩ := h
    refine ⟨p, vs, ds, rfl, rfl, hc p [] hp, hm p _ hH (.inr (.inl ⟨[], hp⟩)), hl, fun j v' d' e1 e2 => ?_⟩
    refine Rk.mv (r j v' d' e1 e2) (fun a o e z => hm a o e ?_) hz (fun a s e => ?_)
    · rcases z with z | ⟨s, z⟩ | z
      · exact .inl z
      · exact .inr (.inl ⟨s ++ [j], by simpa using z⟩)
      · exact .inr (.inr z)
    · have := hc a (s ++ [j]) (by simpa using e)
      simpa using this
  | .lk p vs, pos, pos', v, d, h, hm, hz, hc => by
    obtain ⟨ds, rfl, rfl, hp, hH, r⟩ := h
    refine ⟨ds, rfl, rfl, hc p [] hp, hm p _ hH (.inr (.inl ⟨[], hp⟩)), r.mo (fun a o e z => hm a o e ?_) hz⟩
    rcases z with z | z
    · exact .inl z
    · exact .inr (.inr z)
  | .bw p k, pos, pos', v, d, h, hm, hz, hc => ⟨h.1, Rk.mv h.2 hm hz hc⟩
  | .dc k, pos, pos', v, d, h, hm, hz, hc => by
    obtain ⟨p, vs, ds, rfl, rfl, hp, hH, hl, r⟩ := h
    refine ⟨p, vs, ds, rfl, rfl, hc p [] hp, hm p _ hH (.inr (.inl ⟨[], hp⟩)), hl, fun j v' d' e1 e2 => ?_⟩
    refine Rk.mv (r j v' d' e1 e2) (fun a o e z => hm a o e ?_) hz (fun a s e => ?_)
    · rcases z with z | ⟨s, z⟩ | z
      · exact .inl z
      · exact .inr (.inl ⟨s ++ [j], by simpa using z⟩)
      · exact .inr (.inr z)
    · have := hc a (s ++ [j]) (by simpa using e)
      simpa using this
  | .dt, pos, pos', v, d, h, hm, hz, hc => by
    obtain ⟨p, vs, ds, rfl, rfl, hp, hH, hl, r⟩ := h
    refine ⟨p, vs, ds, rfl, rfl, hc p [] hp, hm p _ hH (.inr (.inl ⟨[], hp⟩)), hl, fun j v' d' e1 e2 => ?_⟩
    refine Rp.mo (Z := fun a => Z a ∧ c a = none) (r j v' d' e1 e2) (fun a o e z => hm a o e ?_) hz
    rcases z with z | z
    · exact .inl z
    · exact .inr (.inr z)
  | .ob ks, pos, pos', v, d, h, hm, hz, hc => by
    obtain ⟨p, C, dx, vs, ds, rfl, rfl, hp, hH, hl, r⟩ := h
    refine ⟨p, C, dx, vs, ds, rfl, rfl, hc p [] hp, hm p _ hH (.inr (.inl ⟨[], hp⟩)), hl, fun j v' d' e1 e2 => ?_⟩
    refine Rk.mv (r j v' d' e1 e2) (fun a o e z => hm a o e ?_) hz (fun a s e => ?_)
    · rcases z with z | ⟨s, z⟩ | z
      · exact .inl z
      · exact .inr (.inl ⟨s ++ [j], by simpa using z⟩)
      · exact .inr (.inr z)
    · have := hc a (s ++ [j]) (by simpa using e)
      simpa using this
  | .lh p vs n k, pos, pos', v, d, h, hm, hz, hc => by
    obtain ⟨ds, rfl, rfl, hp, hH, hl, r, r0⟩ := h
    refine ⟨ds, rfl, rfl, hc p [] hp, hm p _ hH (.inr (.inl ⟨[], hp⟩)), hl, fun j v' d' hn e1 e2 => ?_, r0⟩
    refine Rk.mv (r j v' d' hn e1 e2) (fun a o e z => hm a o e ?_) hz (fun a s e => ?_)
    · rcases z with z | ⟨s, z⟩ | z
      · exact .inl z
      · exact .inr (.inl ⟨s ++ [j], by simpa using z⟩)
      · exact .inr (.inr z)
    · have := hc a (s ++ [j]) (by simpa using e)
      simpa using this
  | .t2 k1 k2, pos, pos', v, d, h, hm, hz, hc => by
    obtain ⟨p, v1, v2, d1, d2, rfl, rfl, hT, r1, r2⟩ := h
    have up : ∀ (j : Nat) a o, H a = some o → ((Z a ∧ c a = none) ∨ (∃ s, c a = some (s ++ (j :: pos))) ∨ ¬ Mut (some o)) → H' a = some o := fun j a o e z => hm a o e (by
      rcases z with z | ⟨s, z⟩ | z
      · exact .inl z
      · exact .inr (.inl ⟨s ++ [j], by simpa using z⟩)
      · exact .inr (.inr z))
    have uc : ∀ (j : Nat) a s, c a = some (s ++ (j :: pos)) → c' a = some (s ++ (j :: pos')) := fun j a s e => by
      have := hc a (s ++ [j]) (by simpa using e)
      simpa using this
    refine ⟨p, v1, v2, d1, d2, rfl, rfl, ?_, Rk.mv r1 (up 0) hz (uc 0), Rk.mv r2 (up 1) hz (uc 1)⟩
    exact hm p _ hT (.inr (.inr fun q => q))
  | .t3 k1 k2 k3, pos, pos', v, d, h, hm, hz, hc => by
    obtain ⟨p, v1, v2, v3, d1, d2, d3, rfl, rfl, hT, r1, r2, r3⟩ := h
    have up : ∀ (j : Nat) a o, H a = some o → ((Z a ∧ c a = none) ∨ (∃ s, c a = some (s ++ (j :: pos))) ∨ ¬ Mut (some o)) → H' a = some o := fun j a o e z => hm a o e (by
      rcases z with z | ⟨s, z⟩ | z
      · exact .inl z
      · exact .inr (.inl ⟨s ++ [j], by simpa using z⟩)
      · exact .inr (.inr z))
    have uc : ∀ (j : Nat) a s, c a = some (s ++ (j :: pos)) → c' a = some (s ++ (j :: pos')) := fun j a s e => by
      have := hc a (s ++ [j]) (by simpa using e)
      simpa using this
    refine ⟨p, v1, v2, v3, d1, d2, d3, rfl, rfl, ?_, Rk.mv r1 (up 0) hz (uc 0), Rk.mv r2 (up 1) hz (uc 1), Rk.mv r3 (up 2) hz (uc 2)⟩
    exact hm p _ hT (.inr (.inr fun q => q))
/-- nothing of it is one's own any longer -/
theorem Rk.drop {K : Fr} {H H' : Hp} {Z Z' : Addr → Prop} {c : Co} : ∀ {k : Kd} {pos : List Nat} {v : V} {d : D}, Rk K H Z c k pos v d →
    (∀ a o, H a = some o → ((Z a ∧ c a = none) ∨ (∃ s, c a = some (s ++ pos)) ∨ ¬ Mut (some o)) → H' a = some o) → (∀ a, Z a ∧ c a = none → Z' a) → (∀ a s, c a = some (s ++ pos) → Z' a) → Rp K H' Z' v d
  | .sh, pos, v, d, h, hm, hz, hc => by
    refine Rp.mo (Z := fun a => Z a ∧ c a = none) h (fun a o e z => hm a o e ?_) hz
    rcases z with z | z
    · exact .inl z
    · exact .inr (.inr z)
  | .ls k, pos, v, d, h, hm, hz, hc => by
    obtain ⟨p, vs, ds, rfl, rfl, hp, hH, hl, r⟩ := h
    refine .lst (hm p _ hH (.inr (.inl ⟨[], hp⟩))) (hc p [] hp) hl fun j v' d' e1 e2 => ?_
    refine Rk.drop (r j v' d' e1 e2) (fun a o e z => hm a o e ?_) hz (fun a s e => hc a (s ++ [j]) (by simpa using e))
    rcases z with z | ⟨s, z⟩ | z
    · exact .inl z
    · exact .inr (.inl ⟨s ++ [j], by simpa using z⟩)
    · exact .inr (.inr z)
  | .lk p vs, pos, v, d, h, hm, hz, hc => by
    obtain ⟨ds, rfl, rfl, hp, hH, r⟩ := h
    have r2 : Rps K H' Z' vs ds := r.mo (fun a o e z => hm a o e (by
      rcases z with z | z
      · exact .inl z
      · exact .inr (.inr z))) hz
    exact .lst (hm p _ hH (.inr (.inl ⟨[], hp⟩))) (hc p [] hp) r2.1 r2.2
  | .bw p k, pos, v, d, h, hm, hz, hc => Rk.drop h.2 hm hz hc
  | .dc k, pos, v, d, h, hm, hz, hc => by
    obtain ⟨p, vs, ds, rfl, rfl, hp, hH, hl, r⟩ := h
    refine .dik (.inl (hm p _ hH (.inr (.inl ⟨[], hp⟩)))) (hc p [] hp) hl fun j v' d' e1 e2 => ?_
    refine Rk.drop (r j v' d' e1 e2) (fun a o e z => hm a o e ?_) hz (fun a s e => hc a (s ++ [j]) (by simpa using e))
    rcases z with z | ⟨s, z⟩ | z
    · exact .inl z
    · exact .inr (.inl ⟨s ++ [j], by simpa using z⟩)
    · exact .inr (.inr z)
  | .dt, pos, v, d, h, hm, hz, hc => by
    obtain ⟨p, vs, ds, rfl, rfl, hp, hH, hl, r⟩ := h
    refine .dit (.inl (hm p _ hH (.inr (.inl ⟨[], hp⟩)))) (hc p [] hp) hl fun j v' d' e1 e2 => ?_
    refine Rp.mo (Z := fun a => Z a ∧ c a = none) (r j v' d' e1 e2) (fun a o e z => hm a o e ?_) hz
    rcases z with z | z
    · exact .inl z
    · exact .inr (.inr z)
  | .ob ks, pos, v, d, h, hm, hz, hc => by
    obtain ⟨p, C, dx, vs, ds, rfl, rfl, hp, hH, hl, r⟩ := h
    refine .ob (hm p _ hH (.inr (.inl ⟨[], hp⟩))) (hc p [] hp) hl fun j v' d' e1 e2 => ?_
    refine Rk.drop (r j v' d' e1 e2) (fun a o e z => hm a o e ?_) hz (fun a s e => hc a (s ++ [j]) (by simpa using e))
    rcases z with z | ⟨s, z⟩ | z
    · exact .inl z
    · exact .inr (.inl ⟨s ++ [j], by simpa using z⟩)
    · exact .inr (.inr z)
  | .lh p vs n k, pos, v, d, h, hm, hz, hc => by
    obtain ⟨ds, rfl, rfl, hp, hH, hl, r, r0⟩ := h
    refine .lst (hm p _ hH (.inr (.inl ⟨[], hp⟩))) (hc p [] hp) hl fun j v' d' e1 e2 => ?_
    by_cases hj : j = n
    · subst hj
      obtain ⟨a, rfl, rfl⟩ := r0 v' d' e1 e2
      exact .hol a
    · refine Rk.drop (r j v' d' hj e1 e2) (fun a o e z => hm a o e ?_) hz (fun a s e => hc a (s ++ [j]) (by simpa using e))
      rcases z with z | ⟨s, z⟩ | z
      · exact .inl z
      · exact .inr (.inl ⟨s ++ [j], by simpa using z⟩)
      · exact .inr (.inr z)
  | .t2 k1 k2, pos, v, d, h, hm, hz, hc => by
    obtain ⟨p, v1, v2, d1, d2, rfl, rfl, hT, r1, r2⟩ := h
    have up : ∀ (j : Nat) a o, H a = some o → ((Z a ∧ c a = none) ∨ (∃ s, c a = some (s ++ (j :: pos))) ∨ ¬ Mut (some o)) → H' a = some o := fun j a o e z => hm a o e (by
      rcases z with z | ⟨s, z⟩ | z
      · exact .inl z
      · exact .inr (.inl ⟨s ++ [j], by simpa using z⟩)
      · exact .inr (.inr z))
    have t : H' p = some (.tup [v1, v2]) := hm p _ hT (.inr (.inr fun q => q))
    have q1 := Rk.drop r1 (up 0) hz (fun a s e => hc a (s ++ [0]) (by simpa using e))
    have q2 := Rk.drop r2 (up 1) hz (fun a s e => hc a (s ++ [1]) (by simpa using e))
    have q : Rps K H' Z' [v1, v2] [d1, d2] := .cons q1 (.cons q2 .nil)
    exact .tup t q.1 q.2
  | .t3 k1 k2 k3, pos, v, d, h, hm, hz, hc => by
    obtain ⟨p, v1, v2, v3, d1, d2, d3, rfl, rfl, hT, r1, r2, r3⟩ := h
    have up : ∀ (j : Nat) a o, H a = some o → ((Z a ∧ c a = none) ∨ (∃ s, c a = some (s ++ (j :: pos))) ∨ ¬ Mut (some o)) → H' a = some o := fun j a o e z => hm a o e (by
      rcases z with z | ⟨s, z⟩ | z
      · exact .inl z
      · exact .inr (.inl ⟨s ++ [j], by simpa using z⟩)
      · exact .inr (.inr z))
    have t : H' p = some (.tup [v1, v2, v3]) := hm p _ hT (.inr (.inr fun q => q))
    have q1 := Rk.drop r1 (up 0) hz (fun a s e => hc a (s ++ [0]) (by simpa using e))
    have q2 := Rk.drop r2 (up 1) hz (fun a s e => hc a (s ++ [1]) (by simpa using e))
    have q3 := Rk.drop r3 (up 2) hz (fun a s e => hc a (s ++ [2]) (by simpa using e))
    have q : Rps K H' Z' [v1, v2, v3] [d1, d2, d3] := .cons q1 (.cons q2 (.cons q3 .nil))
    exact .tup t q.1 q.2
/-- read, whoever's it is -/
theorem Rk.rp {K : Fr} {H : Hp} {Z : Addr → Prop} {c : Co} {k : Kd} {pos : List Nat} {v : V} {d : D} (h : Rk K H Z c k pos v d) : Rp K H (fun a => (Z a ∧ c a = none) ∨ ∃ s, c a = some (s ++ pos)) v d :=
  h.drop (fun _ _ e _ => e) (fun a z => .inl z) fun a s e => .inr ⟨s, e⟩
end SV

set_option Elab.async false
set_option linter.all false
set_option maxRecDepth 100000
set_option maxHeartbeats 4000000
namespace SV
open PySem PySem.Spec PyProof.Rows L2

/-! ### operations on data: what they ask, what they give -/
inductive Bop where
  | add | sub | mul | fdiv | mod | pow
  deriving DecidableEq
inductive Cop where
  | lt | le | gt | ge | eq | ne | isIn | notIn | is_ | isNot
  deriving DecidableEq
inductive Bi where
  | len | sum | list | max2 | min2 | max1 | min1 | tuple | int1 | str1 | all | any | sorted
  deriving DecidableEq

mutual
def toP : D → PyData
  | .non => .none
  | .bl b => .bool b
  | .int i => .int i
  | .str x => .str x
  | .lst ds => .list (toPs ds)
  | .tup ds => .tuple (toPs ds)
  | .scr ns => .list (ns.map .int)
  | .exo _ _ _ => .str ⟨#[1114112]⟩
  | .dik _ => .str ⟨#[1114112]⟩
  | .dit _ => .str ⟨#[1114112]⟩
  | .ob _ _ => .str ⟨#[1114112]⟩
  | .hol _ => .str ⟨#[1114112]⟩
def toPs : List D → List PyData
  | [] => []
  | d :: ds => toP d :: toPs ds
end
def ints? : List D → Option (List Int)
  | [] => some []
  | .int i :: ds => (ints? ds).map (i :: ·)
  | _ => none
theorem toPs_length : ∀ ds, (toPs ds).length = ds.length
  | [] => rfl
  | d :: ds => by simp [toPs, toPs_length ds]

abbrev DK := D → Prop
def addW : D → D → DK → Prop
  | .int i, .int j, Q => Q (.int (i + j))
  | .str x, .str y, Q => x.length + y.length ≤ sizeLine ∧ Q (.str (x ++ y))
  | .lst a, .lst b, Q => a.length + b.length ≤ sizeLine ∧ Q (.lst (a ++ b))
  | .tup a, .tup b, Q => a.length + b.length ≤ sizeLine ∧ Q (.tup (a ++ b))
  | _, _, _ => False
def subW : D → D → DK → Prop
  | .int i, .int j, Q => Q (.int (i - j))
  | _, _, _ => False
def mulW : D → D → DK → Prop
  | .int i, .int j, Q => (CMul i j ∨ CMulW i j) ∧ Q (.int (i * j))
  | .str x, .int k, Q => MulOk x k ∧ Q (.str (Txt.mul x k))
  | .lst a, .int k, Q => -(2 ^ 63) ≤ k ∧ k < 2 ^ 63 ∧ a.length * k.toNat ≤ sizeLine ∧ Q (.lst (List.replicate k.toNat a).flatten)
  | _, _, _ => False
def fdivW : D → D → DK → Prop
  | .int i, .int j, Q => CDivW i j ∧ Q (.int (i / j))
  | _, _, _ => False
def modW : D → D → DK → Prop
  | .int i, .int j, Q => 0 < j ∧ Q (.int (i % j))
  | _, _, _ => False
def powW : D → D → DK → Prop
  | .int i, .int j, Q => CPow i j ∧ Q (.int (i ^ j.toNat))
  | _, _, _ => False
def binW : Bop → D → D → DK → Prop
  | .add => addW
  | .sub => subW
  | .mul => mulW
  | .fdiv => fdivW
  | .mod => modW
  | .pow => powW
def iiW (p : Int → Int → Bool) : D → D → DK → Prop
  | .int i, .int j, Q => Q (.bl (p i j))
  | _, _, _ => False
def eqB (x y : D) : Bool := PyData.eqv (toP x) (toP y)
def eqW (neg : Bool) (x y : D) (Q : DK) : Prop := SeqAt.shaped (toP x) = true ∧ SeqAt.shaped (toP y) = true ∧ Q (.bl (if neg then !eqB x y else eqB x y))
/-- x in the list ds -/
def memB (x : D) (ds : List D) : Bool := ds.any fun z => eqB z x
/-- one sign -/
def signW (x : D) (Q : Nat → Prop) : Prop := match x with
  | .str z => ∃ c, z = ⟨#[c]⟩ ∧ Q c
  | _ => False
theorem signW.mono {x : D} {Q Q' : Nat → Prop} (q : ∀ c, Q c → Q' c) : signW x Q → signW x Q' := by
  unfold signW
  split
  · rintro ⟨c, e, h⟩
    exact ⟨c, e, q _ h⟩
  · exact fun h => h
def inW (neg : Bool) (x y : D) (Q : DK) : Prop := match y with
  | .str z => signW x fun c => Q (.bl (if neg then !decide (c ∈ z.cps.toList) else decide (c ∈ z.cps.toList)))
  | .lst ds => SeqAt.shaped (toP x) = true ∧ SeqAt.shaped (toP (.lst ds)) = true ∧ Q (.bl (if neg then !memB x ds else memB x ds))
  | _ => False
def isBW (neg : Bool) : D → D → DK → Prop
  | .bl a, .bl b, Q => Q (.bl (if neg then !decide (a = b) else decide (a = b)))
  | _, _, _ => False
def cmpW : Cop → D → D → DK → Prop
  | .lt => iiW fun i j => decide (i < j)
  | .le => iiW fun i j => decide (i ≤ j)
  | .gt => iiW fun i j => decide (j < i)
  | .ge => iiW fun i j => decide (j ≤ i)
  | .eq => eqW false
  | .ne => eqW true
  | .isIn => inW false
  | .notIn => inW true
  | .is_ => isBW false
  | .isNot => isBW true
def idxW : D → D → DK → Prop
  | .lst ds, .int i, Q => ∃ d, atI ds i = some d ∧ Q d
  | .tup ds, .int i, Q => ∃ d, atI ds i = some d ∧ Q d
  | .str z, .int i, Q => z.length ≤ sizeLine ∧ ∃ c, atI z.cps.toList i = some c ∧ Q (.str ⟨#[c]⟩)
  | .scr ns, .int i, Q => ∃ n, atI ns i = some n ∧ Q (.int n)
  | _, _, _ => False
def cutD {α : Type} (xs : List α) (lo hi : Option Int) : List α := (xs.drop (HT.sIx xs.length 0 lo)).take (HT.sIx xs.length xs.length hi - HT.sIx xs.length 0 lo)
def slcW : D → Option Int → Option Int → DK → Prop
  | .lst ds, lo, hi, Q => Q (.lst (cutD ds lo hi))
  | .tup ds, lo, hi, Q => Q (.tup (cutD ds lo hi))
  | .str z, lo, hi, Q => z.length ≤ sizeLine ∧ Q (.str (cutS z lo hi))
  | .scr ns, lo, hi, Q => Q (.lst ((cutD ns lo hi).map D.int))
  | _, _, _, _ => False
def revW : D → DK → Prop
  | .lst ds, Q => Q (.lst ds.reverse)
  | _, _ => False
/-- the numbers, rising -/
def sortI (ns : List Int) : List Int := ns.mergeSort fun a b => decide (a ≤ b)
theorem sortI_perm (ns : List Int) : (sortI ns).Perm ns := List.mergeSort_perm ns _
theorem sortI_pw (ns : List Int) : (sortI ns).Pairwise (· ≤ ·) := by
  have h := List.pairwise_mergeSort (le := fun a b : Int => decide (a ≤ b)) (fun a b c h1 h2 => by simp at *; omega) (fun a b => by simp; omega) ns
  exact h.imp fun {a b} h => by simpa using h
theorem sortI_uniq : ∀ {l m : List Int}, l.Pairwise (· ≤ ·) → m.Pairwise (· ≤ ·) → l.Perm m → l = m
  | [], m, _, _, p => (List.nil_perm.mp p).symm
  | a :: l, [], _, _, p => absurd p.length_eq (by simp)
  | a :: l, b :: m, h1, h2, p => by
    have ha : a ∈ b :: m := p.mem_iff.mp (by simp)
    have hb : b ∈ a :: l := p.mem_iff.mpr (by simp)
    have e : a = b := by
      rcases List.mem_cons.mp ha with rfl | ha
      · rfl
      · rcases List.mem_cons.mp hb with rfl | hb
        · rfl
        · have := (List.pairwise_cons.mp h1).1 b hb
          have := (List.pairwise_cons.mp h2).1 a ha
          omega
    subst e
    rw [sortI_uniq (List.pairwise_cons.mp h1).2 (List.pairwise_cons.mp h2).2 ((List.perm_cons a).mp p)]
theorem sortI_eq {ns ns' : List Int} (p : ns'.Perm ns) (s : ns'.Pairwise (· ≤ ·)) : ns' = sortI ns := sortI_uniq s (sortI_pw ns) (p.trans (sortI_perm ns).symm)
theorem sortI_eqR {ns ns' : List Int} (p : ns'.Perm ns) (s : ns'.Pairwise (· ≥ ·)) : ns' = (sortI ns).reverse := by
  have h : ns'.reverse = sortI ns := sortI_eq ((List.reverse_perm ns').trans p) (List.pairwise_reverse.mpr s)
  rw [← h, List.reverse_reverse]
def srtRW : D → DK → Prop
  | .lst ds, Q => ∃ ns : List Int, ds = ns.map D.int ∧ Q (.lst ((sortI ns).reverse.map D.int))
  | _, _ => False
def negW : D → DK → Prop
  | .int i, Q => Q (.int (-i))
  | _, _ => False
def biW : Bi → List D → DK → Prop
  | .len, [.lst ds], Q => Q (.int ds.length)
  | .len, [.tup ds], Q => Q (.int ds.length)
  | .len, [.scr ns], Q => Q (.int ns.length)
  | .len, [.str z], Q => z.length ≤ sizeLine ∧ Q (.int z.length)
  | .len, [.dik kvs], Q => Q (.int kvs.length)
  | .len, [.dit kvs], Q => Q (.int kvs.length)
  | .sum, [.lst ds], Q => ∃ ns : List Int, ds = ns.map D.int ∧ Q (.int ns.sum)
  | .list, [.lst ds], Q => Q (.lst ds)
  | .list, [.tup ds], Q => Q (.lst ds)
  | .max2, [.int i, .int j], Q => Q (.int (if j > i then j else i))
  | .min2, [.int i, .int j], Q => Q (.int (if j < i then j else i))
  | .max1, [.lst ds], Q => ∃ ns : List Int, ds = ns.map D.int ∧ 0 < ns.length ∧ ∀ m, m ∈ ns → (∀ y, y ∈ ns → y ≤ m) → Q (.int m)
  | .min1, [.lst ds], Q => ∃ ns : List Int, ds = ns.map D.int ∧ 0 < ns.length ∧ ∀ m, m ∈ ns → (∀ y, y ∈ ns → m ≤ y) → Q (.int m)
  | .tuple, [.lst ds], Q => Q (.tup ds)
  | .tuple, [.tup ds], Q => Q (.tup ds)
  | .int1, [.int i], Q => Q (.int i)
  | .int1, [.bl k], Q => Q (.int (if k then 1 else 0))
  | .int1, [.str x], Q => ∃ n, PySem.intText? x = some n ∧ x.length ≤ 640 ∧ Q (.int n)
  | .all, [.lst ds], Q => ∃ bs : List Bool, ds = bs.map D.bl ∧ Q (.bl (bs.all id))
  | .any, [.lst ds], Q => ∃ bs : List Bool, ds = bs.map D.bl ∧ Q (.bl (bs.any id))
  | .str1, [.int i], Q => i.natAbs.log2 < 1920 ∧ Q (.str (toString i))
  | .sorted, [.lst ds], Q => ∃ ns : List Int, ds = ns.map D.int ∧ Q (.lst ((sortI ns).map D.int))
  | _, _, _ => False

/-! ### dicts -/
def keyD : D → Option Key
  | .int i => some (.inl i)
  | .str x => some (.inr x)
  | _ => none
def keysD : List D → Option (List Key)
  | [] => some []
  | d :: ds => match keyD d with
    | some k => (keysD ds).map (k :: ·)
    | none => none
section
variable {κ : Type} [DecidableEq κ]
def valD (kvs : List (κ × D)) (k : κ) : Option D := (kvs.find? fun e => decide (e.1 = k)).map (·.2)
def putKD (kvs : List (κ × D)) (k : κ) (d : D) : List (κ × D) := if (kvs.any fun e => decide (e.1 = k)) = true then kvs.map (fun e => if e.1 = k then (e.1, d) else e) else kvs ++ [(k, d)]
end
/-- what the dict holds at a key -/
def dgetW (d y : D) (R : Option D → Prop) : Prop := match d with
  | .dik kvs => match keyD y with
    | some k => R (valD kvs k)
    | none => False
  | .dit kvs => match y with
    | .tup ys => match keysD ys with
      | some k => R (valD kvs k)
      | none => False
    | _ => False
  | _ => False
def isDW (d : D) (R : Prop) : Prop := match d with
  | .dik _ => R
  | .dit _ => R
  | _ => False
theorem dgetW.mono {d y : D} {R R' : Option D → Prop} (q : ∀ o, R o → R' o) : dgetW d y R → dgetW d y R' := by
  unfold dgetW
  split <;> (try split) <;> (try split) <;> first | exact fun h => q _ h | exact fun h => h
theorem isDW.mono {d : D} {R R' : Prop} (q : R → R') : isDW d R → isDW d R' := by
  unfold isDW
  split <;> first | exact q | exact fun h => h
theorem rps_keys {K : Fr} {H : Hp} {Z : Addr → Prop} : ∀ {vs : List V} {ds : List D} {ks : List Key}, Rps K H Z vs ds → keysD ds = some ks → vs = ks.map kV
  | [], [], ks, _, e => by cases e; rfl
  | [], _ :: _, ks, r, _ => absurd r.1 (by simp)
  | _ :: _, [], ks, r, _ => absurd r.1 (by simp)
  | v :: vs, d :: ds, ks, r, e => by
    unfold keysD at e
    cases hk : keyD d with
    | none => rw [hk] at e; cases e
    | some k =>
      rw [hk] at e
      cases hks : keysD ds with
      | none => rw [hks] at e; cases e
      | some ks' =>
        rw [hks] at e
        cases e
        have t : Rps K H Z vs ds := ⟨by simpa using r.1, fun j v' d' a b => r.2 (j + 1) v' d' (by simpa using a) (by simpa using b)⟩
        rw [List.map_cons, ← rps_keys t hks]
        have h := r.2 0 v d rfl rfl
        congr 1
        cases d <;> simp only [keyD] at hk <;> first | cases hk | skip
        all_goals (cases h; rfl)
theorem rp_key {K : Fr} {H : Hp} {Z : Addr → Prop} {v : V} {d : D} {k : Key} (r : Rp K H Z v d) (e : keyD d = some k) : v = kV k := by
  cases d <;> simp only [keyD] at e <;> first | cases e | skip
  all_goals (cases r; rfl)
section
variable {κ : Type} [DecidableEq κ] {K : Fr} {H : Hp} {Z : Addr → Prop}
/-- two tables, key by key -/
def KR (P : V → D → Prop) (kvs : List (κ × V)) (ds : List (κ × D)) : Prop := kvs.map (·.1) = ds.map (·.1) ∧ ∀ (j : Nat) v d, kvs[j]? = some v → ds[j]? = some d → P v.2 d.2
theorem KR.tl {P : V → D → Prop} {v : κ × V} {d : κ × D} {kvs : List (κ × V)} {ds : List (κ × D)} (h : KR P (v :: kvs) (d :: ds)) : v.1 = d.1 ∧ P v.2 d.2 ∧ KR P kvs ds := by
  have h1 := h.1
  simp at h1
  exact ⟨h1.1, h.2 0 v d rfl rfl, h1.2, fun j v' d' a b => h.2 (j + 1) v' d' (by simpa using a) (by simpa using b)⟩
theorem KR.cons {P : V → D → Prop} {v : κ × V} {d : κ × D} {kvs : List (κ × V)} {ds : List (κ × D)} (e : v.1 = d.1) (p : P v.2 d.2) (h : KR P kvs ds) : KR P (v :: kvs) (d :: ds) := by
  refine ⟨by simp [e, h.1], fun j v' d' a b => ?_⟩
  cases j with
  | zero => simp at a b; subst a; subst b; exact p
  | succ j => exact h.2 j v' d' (by simpa using a) (by simpa using b)
theorem KR.len {P : V → D → Prop} {kvs : List (κ × V)} {ds : List (κ × D)} (h : KR P kvs ds) : kvs.length = ds.length := by
  have := congrArg List.length h.1
  simpa using this
theorem KR.nil {P : V → D → Prop} : KR P ([] : List (κ × V)) [] := ⟨rfl, fun j v d h => by simp at h⟩
theorem KR.imp {P P' : V → D → Prop} {kvs : List (κ × V)} {ds : List (κ × D)} (h : KR P kvs ds) (i : ∀ v d, P v d → P' v d) : KR P' kvs ds := ⟨h.1, fun j v d a b => i _ _ (h.2 j v d a b)⟩
theorem KR.val {P : V → D → Prop} : ∀ {kvs : List (κ × V)} {ds : List (κ × D)} (h : KR P kvs ds) (k : κ), (valD ds k = none ∧ valV kvs k = none) ∨ ∃ d v, valD ds k = some d ∧ valV kvs k = some v ∧ P v d
  | [], [], _, _ => .inl ⟨rfl, rfl⟩
  | [], _ :: _, h, _ => absurd h.1 (by simp)
  | _ :: _, [], h, _ => absurd h.1 (by simp)
  | v :: kvs, d :: ds, h, k => by
    obtain ⟨e, p, t⟩ := h.tl
    by_cases hk : d.1 = k
    · have hk2 : v.1 = k := by rw [e]; exact hk
      exact .inr ⟨d.2, v.2, by simp [valD, List.find?_cons, hk], valV_pos hk2, p⟩
    · have hk2 : ¬ v.1 = k := by rw [e]; exact hk
      have h1 : valD (d :: ds) k = valD ds k := by simp [valD, List.find?_cons, hk]
      rw [h1, valV_neg hk2]
      exact t.val k
theorem KR.any {P : V → D → Prop} {kvs : List (κ × V)} {ds : List (κ × D)} (h : KR P kvs ds) (k : κ) : (kvs.any fun e => decide (e.1 = k)) = ds.any fun e => decide (e.1 = k) := by
  have e1 : (kvs.any fun e => decide (e.1 = k)) = (kvs.map (·.1)).any fun x => decide (x = k) := by rw [List.any_map]; rfl
  have e2 : (ds.any fun e => decide (e.1 = k)) = (ds.map (·.1)).any fun x => decide (x = k) := by rw [List.any_map]; rfl
  rw [e1, e2, h.1]
theorem KR.snoc {P : V → D → Prop} : ∀ {kvs : List (κ × V)} {ds : List (κ × D)} (h : KR P kvs ds) {k : κ} {v : V} {d : D}, P v d → KR P (kvs ++ [(k, v)]) (ds ++ [(k, d)])
  | [], [], _, k, v, d, p => .cons rfl p .nil
  | [], _ :: _, h, _, _, _, _ => absurd h.1 (by simp)
  | _ :: _, [], h, _, _, _, _ => absurd h.1 (by simp)
  | v0 :: kvs, d0 :: ds, h, k, v, d, p => by
    obtain ⟨e, p0, t⟩ := h.tl
    exact .cons e p0 (t.snoc p)
theorem KR.mapP {P : V → D → Prop} : ∀ {kvs : List (κ × V)} {ds : List (κ × D)} (h : KR P kvs ds) {k : κ} {v : V} {d : D}, P v d → KR P (kvs.map fun e => if e.1 = k then (e.1, v) else e) (ds.map fun e => if e.1 = k then (e.1, d) else e)
  | [], [], _, k, v, d, p => .nil
  | [], _ :: _, h, _, _, _, _ => absurd h.1 (by simp)
  | _ :: _, [], h, _, _, _, _ => absurd h.1 (by simp)
  | v0 :: kvs, d0 :: ds, h, k, v, d, p => by
    obtain ⟨e, p0, t⟩ := h.tl
    rw [List.map_cons, List.map_cons]
    by_cases hk : d0.1 = k
    · have hk2 : v0.1 = k := by rw [e]; exact hk
      rw [if_pos hk, if_pos hk2]
      exact .cons e p (t.mapP p)
    · have hk2 : ¬ v0.1 = k := by rw [e]; exact hk
      rw [if_neg hk, if_neg hk2]
      exact .cons e p0 (t.mapP p)
theorem KR.put {P : V → D → Prop} {kvs : List (κ × V)} {ds : List (κ × D)} (h : KR P kvs ds) {k : κ} {v : V} {d : D} (p : P v d) : KR P (putK kvs k v) (putKD ds k d) := by
  unfold putK putKD
  rw [h.any k]
  split
  · exact h.mapP p
  · exact h.snoc p
end
/-! ### monotone -/
theorem addW.mono {x y : D} {Q Q' : DK} (q : ∀ d, Q d → Q' d) : addW x y Q → addW x y Q' := by
  cases x <;> cases y <;> simp only [addW] <;> first | exact fun h => q _ h | exact fun h => ⟨h.1, q _ h.2⟩ | exact fun h => h
theorem binW.mono {o : Bop} {x y : D} {Q Q' : DK} (q : ∀ d, Q d → Q' d) : binW o x y Q → binW o x y Q' := by
  cases o <;> cases x <;> cases y <;> simp only [binW, addW, subW, mulW, fdivW, modW, powW] <;> first | exact fun h => q _ h | exact fun h => ⟨h.1, q _ h.2⟩ | exact fun h => h | exact fun h => ⟨h.1, h.2.1, h.2.2.1, q _ h.2.2.2⟩
theorem inW.mono {n : Bool} {x y : D} {Q Q' : DK} (q : ∀ d, Q d → Q' d) : inW n x y Q → inW n x y Q' := by
  unfold inW
  split
  · exact signW.mono fun c h => q _ h
  · exact fun h => ⟨h.1, h.2.1, q _ h.2.2⟩
  · exact fun h => h
theorem cmpW.mono {o : Cop} {x y : D} {Q Q' : DK} (q : ∀ d, Q d → Q' d) : cmpW o x y Q → cmpW o x y Q' := by
  cases o <;> first | exact inW.mono q | exact fun h => ⟨h.1, h.2.1, q _ h.2.2⟩ | (cases x <;> cases y <;> simp only [cmpW, iiW, inW, isBW] <;> first | exact fun h => q _ h | exact fun h => ⟨h.1, h.2.1, q _ h.2.2⟩ | exact fun h => h)
theorem idxW.mono {x y : D} {Q Q' : DK} (q : ∀ d, Q d → Q' d) : idxW x y Q → idxW x y Q' := by
  cases x <;> cases y <;> simp only [idxW] <;> first | exact fun h => h | exact fun ⟨d, e, h⟩ => ⟨d, e, q _ h⟩ | exact fun ⟨z, d, e, h⟩ => ⟨z, d, e, q _ h⟩
theorem slcW.mono {x : D} {lo hi : Option Int} {Q Q' : DK} (q : ∀ d, Q d → Q' d) : slcW x lo hi Q → slcW x lo hi Q' := by
  cases x <;> simp only [slcW] <;> first | exact fun h => q _ h | exact fun h => ⟨h.1, q _ h.2⟩ | exact fun h => h
theorem revW.mono {x : D} {Q Q' : DK} (q : ∀ d, Q d → Q' d) : revW x Q → revW x Q' := by
  cases x <;> simp only [revW] <;> first | exact fun h => q _ h | exact fun h => h
theorem srtRW.mono {x : D} {Q Q' : DK} (q : ∀ d, Q d → Q' d) : srtRW x Q → srtRW x Q' := by
  cases x <;> simp only [srtRW] <;> first | exact fun h => h | exact fun ⟨ns, e, h⟩ => ⟨ns, e, q _ h⟩
theorem negW.mono {x : D} {Q Q' : DK} (q : ∀ d, Q d → Q' d) : negW x Q → negW x Q' := by
  cases x <;> simp only [negW] <;> first | exact fun h => q _ h | exact fun h => h
theorem biW.mono {b : Bi} {ds : List D} {Q Q' : DK} (q : ∀ d, Q d → Q' d) : biW b ds Q → biW b ds Q' := by
  unfold biW
  split <;> first | exact fun h => q _ h | exact fun h => ⟨h.1, q _ h.2⟩ | exact fun h => h | exact fun ⟨ns, e, h⟩ => ⟨ns, e, q _ h⟩ | exact fun ⟨ns, e, l, h⟩ => ⟨ns, e, l, q _ h⟩ | exact fun ⟨ns, e, l, h⟩ => ⟨ns, e, l, fun m a b => q _ (h m a b)⟩

/-! ### the same by values: what HandS's rules ask -/
/-- a list that stands anew -/
def TF (K : Fr) (Z : Addr → Prop) (H H' : Hp) (v : V) (d : D) : Prop := ∀ ds, d = .lst ds → ∃ p vs, v = .ref p ∧ H p = none ∧ H' p = some (.lst vs) ∧ Rps K H' (fun a => Z a ∧ a ≠ p) vs ds
/-- the answer v of d: the heap grew; lists of it stand where Z holds; t: a list is a new one -/
def Bk (K : Fr) (Z : Addr → Prop) (H : Hp) (t : Bool) (Q : VK) : DK := fun d => ∀ v H', Same H H' → Rp K H' Z v d → (t = true → TF K Z H H' v d) → Q v H'
theorem Bk.at {K : Fr} {Z : Addr → Prop} {H : Hp} {t : Bool} {Q : VK} {d : D} (h : Bk K Z H t Q d) {v : V} (r : Rp K H Z v d) (n : t = true → ∀ ds, d ≠ .lst ds := by first | (intro _ _ e; cases e; done) | (intro e; cases e; done)) : Q v H := h v H (Same.refl H) r fun e ds q => absurd q (n e ds)
abbrev Fsh (H : Hp) (Z : Addr → Prop) : Prop := ∀ a, H a = none → Z a
theorem same_new {H : Hp} {p : Addr} {o : HO} (h : H p = none) : Same H (upd H p o) := fun a u e => by
  rw [upd_ne (ne_of_none e h)]; exact e
theorem Bk.new {K : Fr} {Z : Addr → Prop} {H : Hp} {t : Bool} {Q : VK} {ds : List D} {vs : List V} (h : Bk K Z H t Q (.lst ds)) (f : Fsh H Z) (r : Rps K H Z vs ds) {p : Addr} (hp : H p = none) : Q (.ref p) (upd H p (.lst vs)) := by
  have e := same_new (o := HO.lst vs) hp
  have r' := r.ex e
  refine h _ _ e (.lst upd_same (f p hp) r'.1 r'.2) fun _ ds' q => ?_
  cases q
  exact ⟨p, vs, rfl, hp, upd_same, (r.dom.ex e).mo (Mo.ex (Same.refl _)) fun a z => ⟨z.1, fun h => z.2 (by rw [h]; exact hp)⟩⟩
theorem Bk.newT {K : Fr} {Z : Addr → Prop} {H : Hp} {t : Bool} {Q : VK} {ds : List D} {vs : List V} (h : Bk K Z H t Q (.tup ds)) (r : Rps K H Z vs ds) {p : Addr} (hp : H p = none) : Q (.ref p) (upd H p (.tup vs)) := by
  have e := same_new (o := HO.tup vs) hp
  have r' := r.ex e
  exact h _ _ e (.tup upd_same r'.1 r'.2) fun _ ds' q => nomatch q
section
variable {X : Cx} {Z : Addr → Prop}
/-- a binary operation by data -/
def OpD (X : Cx) (f : Value → Value → Sem Value) (w : D → D → DK → Prop) : Prop :=
  OpR X f fun x y H Q => ∃ (Z : Addr → Prop) (dx dy : D), Fsh H Z ∧ Rp X.K H Z x dx ∧ Rp X.K H Z y dy ∧ w dx dy (Bk X.K Z H true Q)
theorem OpR.imp {f : Value → Value → Sem Value} {r r' : R2} (h : OpR X f r) (i : ∀ x y H Q, r' x y H Q → r x y H Q) : OpR X f r' := fun pins s σ H x y v u Q I rx ry q => h pins s σ H x y v u Q I rx ry (i _ _ _ _ q)
theorem OpR.or {f : Value → Value → Sem Value} {r r' : R2} (h : OpR X f r) (h' : OpR X f r') : OpR X f (fun x y H Q => r x y H Q ∨ r' x y H Q) := fun pins s σ H x y v u Q I rx ry q => by
  rcases q with q | q
  · exact h pins s σ H x y v u Q I rx ry q
  · exact h' pins s σ H x y v u Q I rx ry q
theorem Rp.lstE {K : Fr} {H : Hp} {v : V} {ds : List D} (r : Rp K H Z v (.lst ds)) : ∃ a vs, v = .ref a ∧ H a = some (.lst vs) ∧ Rps K H Z vs ds := by
  cases r with
  | lst h z hl r => exact ⟨_, _, rfl, h, hl, r⟩
theorem Rp.tupH {K : Fr} {H : Hp} {v : V} {ds : List D} (r : Rp K H Z v (.tup ds)) : ∃ a vs, v = .ref a ∧ H a = some (.tup vs) ∧ Rps K H Z vs ds := by
  cases r with
  | tup h hl r => exact ⟨_, _, rfl, h, hl, r⟩
theorem Rp.tupE {K : Fr} {H : Hp} {v : V} {ds : List D} (r : Rp K H Z v (.tup ds)) : ∃ a vs, v = .ref a ∧ SqT K H a vs ∧ Rps K H Z vs ds := by
  cases r with
  | tup h hl r => exact ⟨_, _, rfl, SqT.of h, hl, r⟩
theorem op_addD : OpD X (binaryOp .Add) addW := by
  refine OpR.imp (op_add.or (op_add_str.or (op_cat.or op_catA))) ?_
  rintro x y H Q ⟨Z, dx, dy, f, rx, ry, w⟩
  cases dx <;> cases dy <;> simp only [addW] at w
  · cases rx; cases ry; exact .inl ⟨_, _, rfl, rfl, w.at (.int _)⟩
  · cases rx; cases ry; exact .inr (.inl ⟨_, _, rfl, rfl, w.1, w.2.at (.str _)⟩)
  · obtain ⟨a, vs, rfl, ha, ra⟩ := rx.lstE
    obtain ⟨b, ws, rfl, hb, rb⟩ := ry.lstE
    exact .inr (.inr (.inl ⟨a, b, vs, ws, rfl, rfl, ha, hb, by rw [ra.1, rb.1]; exact w.1, fun p hp => w.2.new f (ra.app rb) hp⟩))
  · obtain ⟨a, vs, rfl, ha, ra⟩ := rx.tupH
    obtain ⟨b, ws, rfl, hb, rb⟩ := ry.tupH
    refine .inr (.inr (.inr ⟨a, b, vs, ws, rfl, rfl, SqT.of ha, SqT.of hb, by rw [ra.1, rb.1]; exact w.1, fun e => ?_, fun _ e => ?_, fun _ _ p hp => w.2.newT (ra.app rb) hp⟩))
    · subst e
      have e3 := List.length_eq_zero_iff.mp ra.1.symm
      subst e3
      exact w.2.at (.tup hb rb.1 rb.2)
    · subst e
      have e3 := List.length_eq_zero_iff.mp rb.1.symm
      subst e3
      rw [List.append_nil] at w
      exact w.2.at (.tup ha ra.1 ra.2)
theorem op_subD : OpD X (binaryOp .Sub) subW := by
  refine OpR.imp op_sub ?_
  rintro x y H Q ⟨Z, dx, dy, f, rx, ry, w⟩
  cases dx <;> cases dy <;> simp only [subW] at w
  cases rx; cases ry; exact ⟨_, _, rfl, rfl, w.at (.int _)⟩
theorem Rps.rep {K : Fr} {H : Hp} {vs : List V} {ds : List D} (r : Rps K H Z vs ds) : ∀ n, Rps K H Z (List.replicate n vs).flatten (List.replicate n ds).flatten
  | 0 => .nil
  | n + 1 => by
    rw [List.replicate_succ, List.replicate_succ, List.flatten_cons, List.flatten_cons]
    exact r.app (Rps.rep r n)
/-- a text, some times over -/
theorem op_mul_str : OpR X (binaryOp .Mult) (fun x y H Q => ∃ i n, x = .str i ∧ y = .int n ∧ MulOk i n ∧ Q (.str (Txt.mul i n)) H) := fun pins s σ H x y v u Q I rx ry h => by
  obtain ⟨i, n, rfl, rfl, hz, q⟩ := h
  obtain ⟨t, rfl⟩ := rx
  obtain ⟨t2, rfl⟩ := ry
  exact SB.mul hz fun _ _ => ⟨.str (Txt.mul i n), H, I.tok _, ⟨_, rfl⟩, q⟩
theorem op_mulD : OpD X (binaryOp .Mult) mulW := by
  refine OpR.imp (op_mul.or (op_mulW.or (op_rep.or op_mul_str))) ?_
  rintro x y H Q ⟨Z, dx, dy, f, rx, ry, w⟩
  cases dx <;> cases dy <;> simp only [mulW] at w
  · cases rx; cases ry
    rcases w.1 with c | c
    · exact .inl ⟨_, _, rfl, rfl, c, w.2.at (.int _)⟩
    · exact .inr (.inl ⟨_, _, rfl, rfl, c, w.2.at (.int _)⟩)
  · cases rx; cases ry
    exact .inr (.inr (.inr ⟨_, _, rfl, rfl, w.1, w.2.at (.str _)⟩))
  · obtain ⟨a, vs, rfl, ha, ra⟩ := rx.lstE
    cases ry
    exact .inr (.inr (.inl ⟨a, _, vs, rfl, rfl, ha, w.1, w.2.1, by rw [ra.1]; exact w.2.2.1, fun p hp => w.2.2.2.new f (ra.rep _) hp⟩))
theorem op_fdivD : OpD X (binaryOp .FloorDiv) fdivW := by
  refine OpR.imp op_fdivW ?_
  rintro x y H Q ⟨Z, dx, dy, f, rx, ry, w⟩
  cases dx <;> cases dy <;> simp only [fdivW] at w
  cases rx; cases ry; exact ⟨_, _, rfl, rfl, w.1, w.2.at (.int _)⟩
theorem op_modD : OpD X (binaryOp .Mod) modW := by
  refine OpR.imp op_mod ?_
  rintro x y H Q ⟨Z, dx, dy, f, rx, ry, w⟩
  cases dx <;> cases dy <;> simp only [modW] at w
  cases rx; cases ry; exact ⟨_, _, rfl, rfl, w.1, w.2.at (.int _)⟩
theorem op_powD : OpD X (binaryOp .Pow) powW := by
  refine OpR.imp op_pow ?_
  rintro x y H Q ⟨Z, dx, dy, f, rx, ry, w⟩
  cases dx <;> cases dy <;> simp only [powW] at w
  cases rx; cases ry; exact ⟨_, _, rfl, rfl, w.1, w.2.at (.int _)⟩
def bopOf : Bop → Operator
  | .add => .Add
  | .sub => .Sub
  | .mul => .Mult
  | .fdiv => .FloorDiv
  | .mod => .Mod
  | .pow => .Pow
theorem op_binD (o : Bop) : OpD X (binaryOp (bopOf o)) (binW o) := by
  cases o
  · exact op_addD
  · exact op_subD
  · exact op_mulD
  · exact op_fdivD
  · exact op_modD
  · exact op_powD
/-- comparisons -/
def copOf : Cop → CmpOp
  | .lt => .Lt
  | .le => .LtE
  | .gt => .Gt
  | .ge => .GtE
  | .eq => .Eq
  | .ne => .NotEq
  | .isIn => .In
  | .notIn => .NotIn
  | .is_ => .Is
  | .isNot => .IsNot
theorem scr_dp {K : Fr} {H : Hp} : ∀ ns : List Int, DpAll K H (ns.map V.int) (ns.map PyData.int)
  | [] => .nil
  | n :: ns => .cons (.int n) (scr_dp ns)
theorem dps_of {K : Fr} {H : Hp} : ∀ {vs : List V} {ds : List D}, vs.length = ds.length → PyData.canLayAll0 (toPs ds) = true → (∀ (j : Nat) v d, vs[j]? = some v → ds[j]? = some d → (toP d).canLay0 = true → Dp K H v (toP d)) → DpAll K H vs (toPs ds)
  | [], [], _, _, _ => .nil
  | [], _ :: _, e, _, _ => nomatch e
  | _ :: _, [], e, _, _ => nomatch e
  | v :: vs, d :: ds, e, c, h => by
    unfold toPs PyData.canLayAll0 at c
    obtain ⟨c1, c2⟩ := Bool.and_eq_true_iff.mp c
    exact .cons (h 0 v d rfl rfl c1) (dps_of (by simpa using e) c2 fun j v' d' e1 e2 => h (j + 1) v' d' (by simpa using e1) (by simpa using e2))
theorem Rp.dp {K : Fr} {H : Hp} {v : V} {d : D} (r : Rp K H Z v d) : (toP d).canLay0 = true → Dp K H v (toP d) := by
  induction r with
  | non => exact fun _ => .non
  | bl b => exact fun _ => .bl b
  | int i => exact fun _ => .int i
  | str x => exact fun _ => .str x
  | lst h z hl r ih => exact fun c => .lst (SqL.of h) (dps_of hl (by unfold toP PyData.canLay0 at c; exact c) ih)
  | tup h hl r ih => exact fun c => .tup (SqT.of h) (dps_of hl (by unfold toP PyData.canLay0 at c; exact c) ih)
  | scr h => exact fun _ => .lst h.l (scr_dp _)
  | exo h =>
    intro c
    unfold toP PyData.canLay0 at c
    exact absurd c (by decide +kernel)
  | dik h z hk r ih =>
    intro c
    unfold toP PyData.canLay0 at c
    exact absurd c (by decide +kernel)
  | dit h z hk r ih =>
    intro c
    unfold toP PyData.canLay0 at c
    exact absurd c (by decide +kernel)
  | ob h z hk r ih =>
    intro c
    unfold toP PyData.canLay0 at c
    exact absurd c (by decide +kernel)
  | hol v =>
    intro c
    unfold toP PyData.canLay0 at c
    exact absurd c (by decide +kernel)
theorem iiW.un {p : Int → Int → Bool} {K : Fr} {H : Hp} {x y : V} {dx dy : D} {Q : DK} (w : iiW p dx dy Q) (rx : Rp K H Z x dx) (ry : Rp K H Z y dy) : ∃ i j, x = .int i ∧ y = .int j ∧ Q (.bl (p i j)) := by
  cases dx <;> cases dy <;> simp only [iiW] at w
  cases rx; cases ry; exact ⟨_, _, rfl, rfl, w⟩
theorem toPs_any {x : D} : ∀ ds : List D, ((toPs ds).any fun z => PyData.eqv z (toP x)) = memB x ds
  | [] => rfl
  | d :: ds => by
    have := toPs_any (x := x) ds
    unfold memB at this ⊢
    simp only [toPs, List.any_cons, this, eqB]
theorem op_cmpD (hu : X.A.units + 65 < cLine) (o : Cop) : OpD X (compareOp (copOf o)) (cmpW o) := by
  cases o
  · refine OpR.imp op_lt ?_
    rintro x y H Q ⟨Z, dx, dy, f, rx, ry, w⟩
    obtain ⟨i, j, rfl, rfl, q⟩ := w.un rx ry
    exact ⟨_, _, rfl, rfl, q.at (.bl _)⟩
  · refine OpR.imp op_le ?_
    rintro x y H Q ⟨Z, dx, dy, f, rx, ry, w⟩
    obtain ⟨i, j, rfl, rfl, q⟩ := w.un rx ry
    exact ⟨_, _, rfl, rfl, q.at (.bl _)⟩
  · refine OpR.imp op_gt ?_
    rintro x y H Q ⟨Z, dx, dy, f, rx, ry, w⟩
    obtain ⟨i, j, rfl, rfl, q⟩ := w.un rx ry
    exact ⟨_, _, rfl, rfl, q.at (.bl _)⟩
  · refine OpR.imp op_ge ?_
    rintro x y H Q ⟨Z, dx, dy, f, rx, ry, w⟩
    obtain ⟨i, j, rfl, rfl, q⟩ := w.un rx ry
    exact ⟨_, _, rfl, rfl, q.at (.bl _)⟩
  · refine OpR.imp (op_eqD (by omega)) ?_
    rintro x y H Q ⟨Z, dx, dy, f, rx, ry, w⟩
    exact ⟨_, _, rx.dp (SeqAt.canLay_of_shaped w.1), ry.dp (SeqAt.canLay_of_shaped w.2.1), w.1, w.2.1, w.2.2.at (.bl _)⟩
  · refine OpR.imp (op_neD (by omega)) ?_
    rintro x y H Q ⟨Z, dx, dy, f, rx, ry, w⟩
    exact ⟨_, _, rx.dp (SeqAt.canLay_of_shaped w.1), ry.dp (SeqAt.canLay_of_shaped w.2.1), w.1, w.2.1, w.2.2.at (.bl _)⟩
  · refine OpR.imp ((op_inD hu).or op_in_sign) ?_
    rintro x y H Q ⟨Z, dx, dy, f, rx, ry, w⟩
    cases dy <;> simp only [cmpW, inW] at w
    · unfold signW at w
      cases dx <;> simp only at w
      obtain ⟨c, rfl, w⟩ := w
      cases rx; cases ry
      exact .inr ⟨c, _, rfl, rfl, Bk.at w (.bl _)⟩
    rename_i ds
    exact .inl ⟨toP dx, toPs ds, rx.dp (SeqAt.canLay_of_shaped w.1), ry.dp (SeqAt.canLay_of_shaped w.2.1), w.1, w.2.1, by rw [toPs_any]; exact Bk.at w.2.2 (.bl _)⟩
  · refine OpR.imp ((op_notInD hu).or op_notIn_sign) ?_
    rintro x y H Q ⟨Z, dx, dy, f, rx, ry, w⟩
    cases dy <;> simp only [cmpW, inW] at w
    · unfold signW at w
      cases dx <;> simp only at w
      obtain ⟨c, rfl, w⟩ := w
      cases rx; cases ry
      exact .inr ⟨c, _, rfl, rfl, Bk.at w (.bl _)⟩
    rename_i ds
    exact .inl ⟨toP dx, toPs ds, rx.dp (SeqAt.canLay_of_shaped w.1), ry.dp (SeqAt.canLay_of_shaped w.2.1), w.1, w.2.1, by rw [toPs_any]; exact Bk.at w.2.2 (.bl _)⟩
  · refine OpR.imp op_isBl ?_
    rintro x y H Q ⟨Z, dx, dy, f, rx, ry, w⟩
    cases dx <;> cases dy <;> simp only [cmpW, isBW] at w
    cases rx; cases ry
    exact ⟨_, _, rfl, rfl, Bk.at w (.bl _)⟩
  · refine OpR.imp op_notBl ?_
    rintro x y H Q ⟨Z, dx, dy, f, rx, ry, w⟩
    cases dx <;> cases dy <;> simp only [cmpW, isBW] at w
    cases rx; cases ry
    exact ⟨_, _, rfl, rfl, Bk.at w (.bl _)⟩
theorem IxR.imp {r r' : R2} (h : IxR X r) (i : ∀ x y H Q, r' x y H Q → r x y H Q) : IxR X r' := fun pins s σ H x y v u a b Q I rx ry q => h pins s σ H x y v u a b Q I rx ry (i _ _ _ _ q)
theorem atI_rps {K : Fr} {H : Hp} {vs : List V} {ds : List D} (r : Rps K H Z vs ds) {i : Int} {d : D} (e : atI ds i = some d) : ∃ v, atI vs i = some v ∧ Rp K H Z v d := by
  unfold atI at e ⊢
  rw [r.1]
  cases q : ixN ds.length i with
  | none => rw [q] at e; cases e
  | some j =>
    rw [q] at e
    exact r.at e
theorem atI_map {α β : Type} {f : α → β} {xs : List α} {i : Int} {x : α} (e : atI xs i = some x) : atI (xs.map f) i = some (f x) := by
  unfold atI at e ⊢
  rw [List.length_map]
  cases q : ixN xs.length i with
  | none => rw [q] at e; cases e
  | some j =>
    rw [q] at e
    show (xs.map f)[j]? = _
    rw [List.getElem?_map, show xs[j]? = some x from e] <;> rfl
def IxD (X : Cx) : Prop := IxR X fun x y H Q => ∃ (Z : Addr → Prop) (dx dy : D), Fsh H Z ∧ Rp X.K H Z x dx ∧ Rp X.K H Z y dy ∧ idxW dx dy (Bk X.K Z H false Q)
theorem ix_D : IxD X := by
  refine IxR.imp ix_seq ?_
  rintro x y H Q ⟨Z, dx, dy, f, rx, ry, w⟩
  cases dx <;> cases dy <;> simp only [idxW] at w
  · cases rx; cases ry
    obtain ⟨hz, c, e, q⟩ := w
    exact .inr (.inr ⟨_, _, c, rfl, rfl, hz, e, q.at (.str _)⟩)
  · obtain ⟨a, vs, rfl, ha, ra⟩ := rx.lstE
    cases ry
    obtain ⟨d, e, q⟩ := w
    obtain ⟨v, e2, rv⟩ := atI_rps ra e
    exact .inl ⟨a, vs, _, v, rfl, rfl, SqL.of ha, e2, q.at rv⟩
  · obtain ⟨a, vs, rfl, ha, ra⟩ := rx.tupE
    cases ry
    obtain ⟨d, e, q⟩ := w
    obtain ⟨v, e2, rv⟩ := atI_rps ra e
    exact .inr (.inl ⟨a, vs, _, v, rfl, rfl, ha, e2, q.at rv⟩)
  · cases rx with
    | scr h =>
      cases ry
      obtain ⟨n, e, q⟩ := w
      exact .inl ⟨_, _, _, _, rfl, rfl, h.l, atI_map e, q.at (.int n)⟩
/-! slices -/
def SlD (X : Cx) : Prop := SlR X fun x lo hi H Q => ∃ (Z : Addr → Prop) (dx : D), Fsh H Z ∧ Rp X.K H Z x dx ∧ slcW dx lo hi (Bk X.K Z H true Q)
theorem SlR.imp {r r' : V → Option Int → Option Int → Hp → VK → Prop} (h : SlR X r) (i : ∀ x lo hi H Q, r' x lo hi H Q → r x lo hi H Q) : SlR X r' := fun pins s σ H x v vl vu lo hi sl Q I rx hs pl pu q => h pins s σ H x v vl vu lo hi sl Q I rx hs pl pu (i _ _ _ _ _ q)
theorem SlR.or {r r' : V → Option Int → Option Int → Hp → VK → Prop} (h : SlR X r) (h' : SlR X r') : SlR X (fun x lo hi H Q => r x lo hi H Q ∨ r' x lo hi H Q) := fun pins s σ H x v vl vu lo hi sl Q I rx hs pl pu q => by
  rcases q with q | q
  · exact h pins s σ H x v vl vu lo hi sl Q I rx hs pl pu q
  · exact h' pins s σ H x v vl vu lo hi sl Q I rx hs pl pu q
theorem cut_rps {K : Fr} {H : Hp} {vs : List V} {ds : List D} (r : Rps K H Z vs ds) (lo hi : Option Int) : Rps K H Z (cutV vs lo hi) (cutD ds lo hi) := by
  unfold cutV cutD
  rw [r.1]
  exact r.sub _ _
theorem ints_rps {K : Fr} {H : Hp} : ∀ ns : List Int, Rps K H Z (ns.map V.int) (ns.map D.int)
  | [] => .nil
  | n :: ns => .cons (.int n) (ints_rps ns)
theorem cut_map {α β : Type} {f : α → β} {xs : List α} {lo hi : Option Int} : cutD (xs.map f) lo hi = (cutD xs lo hi).map f := by
  unfold cutD
  rw [List.length_map, List.map_take, List.map_drop]
theorem sl_D : SlD X := by
  refine SlR.imp (sl_list.or (sl_tupA.or sl_str)) ?_
  rintro x lo hi H Q ⟨Z, dx, f, rx, w⟩
  cases dx <;> simp only [slcW] at w
  · cases rx
    exact .inr (.inr ⟨_, rfl, w.1, w.2.at (.str _)⟩)
  · obtain ⟨a, vs, rfl, ha, ra⟩ := rx.lstE
    exact .inl ⟨a, vs, rfl, SqL.of ha, fun p hp => w.new f (cut_rps ra _ _) hp⟩
  · obtain ⟨a, vs, rfl, ha, ra⟩ := rx.tupH
    refine .inr (.inl ⟨a, vs, rfl, SqT.of ha, fun e => ?_, fun _ p hp => w.newT (cut_rps ra _ _) hp⟩)
    rename_i ds
    have e2 : cutD ds lo hi = ds := by
      unfold cutD
      rw [← ra.1, e.1, e.2, ra.1]
      simp
    rw [e2] at w
    exact w.at (.tup ha ra.1 ra.2)
  · cases rx with
    | scr h =>
      refine .inl ⟨_, _, rfl, h.l, fun p hp => ?_⟩
      have := w.new f (ints_rps _) hp
      rw [show cutV _ lo hi = (cutD _ lo hi).map V.int from cut_map]
      exact this
end
end SV

set_option Elab.async false
set_option linter.all false
set_option maxRecDepth 100000
set_option maxHeartbeats 4000000
namespace SV
open PySem PySem.Spec PyProof.Rows L2
/-! ### set(a list of ints) -/
/-- a new set, nothing in it -/
abbrev sO (w : World) : Obj := { cls := .type "set", dict := none, data := .set #[] 0 (.fresh 0 0 (!w.params.followText "set-order")) }
section
variable {P : Program} {w : World} {A : Around} {E : Value → Shared → Prop} {s : Shared}
/-- what the initializer of a new set does with a list of ints: all of them stand in it -/
theorem set_fill {l : Addr} {its : Array Value} (ns : List Int) (hh : A.handled = none) (hl : s.heap.IsList l its) (hi : IntsAre its.toList ns) (hb : ns.length + 1 < scanBound) :
    codeAny (model P w) A (.call (.builtin "set.__init__") ⟨[.ref s.heap.objs.size, .ref l], []⟩) (wants (fun r t => r = .none ∧ ∃ g tk c, t = { s with heap := g, toks := tk } ∧ SetR w g s.heap.objs.size (fun j => decide (j ∈ ns)) c ∧ c ≤ ns.length ∧ ∀ b o, s.heap.get? b = some o → g.get? b = some o) E) { s with heap := s.heap.push (sO w) } := by
  have sz : its.size = ns.length := by
    have z := IntsAre.length hi
    rwa [Array.length_toList] at z
  have g0 : (s.heap.push (sO w)).get? s.heap.objs.size = some (sO w) := Heap.get?_push_size _ rfl
  have hl1 : (s.heap.push (sO w)).IsList l its := hl.push _
  obtain ⟨⟨oc, od, oda, os⟩, ho, hc, n, hd⟩ := hl
  simp only at hc hd
  subst hc; subst hd
  have ty : Shared.TypeIs { s with heap := s.heap.push (sO w) } (.ref s.heap.objs.size) "set" := ⟨_, g0, rfl⟩
  apply codeAny_call_builtin F.called_set.init.plain F.entry_set_init
  refine check_set_init_1 ty ?_
  have ho1 : (s.heap.push (sO w)).get? l = some { cls := .type "list", dict := od, data := .seq its n, slots := os } := Heap.get?_push_of_some _ ho
  have b1 := F.sub_list_set
  have b2 := F.sub_list_frozenset
  have b3 : (Value.type "list" == Value.type "dict") = false := by decide
  unfold Builtin.«set.__init__» noKeywords Builtin.Frozenset.updateFrom
  generalize hI : pyIter = I
  wp_walk
  subst hI
  refine wpAny_pyIter_list hl1 ?_
  refine wpAny_bind (wpAny_runValue ?_)
  have ls : l < s.heap.objs.size := Heap.lt_size ho
  have hz : (s.heap.push (sO w)).objs.size = s.heap.objs.size + 1 := Heap.size_push ..
  have n1 : l ≠ (s.heap.push (sO w)).objs.size := Nat.ne_of_lt (by rw [hz]; exact Nat.lt_succ_of_lt ls)
  have n2 : s.heap.objs.size ∉ [(s.heap.push (sO w)).objs.size, l] := by
    rw [hz]
    intro m
    rcases List.mem_cons.mp m with m | m
    · exact Nat.ne_of_lt (Nat.lt_succ_self _) m
    · exact Nat.ne_of_lt ls (List.mem_singleton.mp m).symm
  have hv : ∀ (i : Nat) (v : Value), its[i]? = some v → ∃ k t, ns[i]? = some k ∧ v = .int k t := fun i v e => by
    obtain ⟨h1, _⟩ := Array.getElem?_eq_some_iff.mp e
    obtain ⟨t, q⟩ := IntsAre.int_at hi i v (by rw [Array.getElem?_toList]; exact e)
    have h2 : i < ns.length := by omega
    exact ⟨ns[i], t, List.getElem?_eq_getElem h2, by rw [q]; simp [List.getD, h2]⟩
  have hn3 : A.in1.in1.handled = none := by simp [hh]
  refine set_update_ints ((Walks.list hn3 _ l n1 its).toS) s.heap.objs.size n2 ns sz hb hv its.size 0 _ rfl (Nat.zero_le _) ?_ ?_ ?_
  · exact ⟨⟨_, Heap.get?_push_size _ rfl, rfl, rfl⟩, hl1.push _⟩
  · exact ⟨0, Nat.le_refl 0, setR_new_at (Heap.get?_push_of_some _ g0)⟩
  rintro ⟨g, gg, dd, tk, oo⟩ c mv hc hS
  have e1 : gg = s.gens := mv.gens
  have e2 : dd = s.drawn := mv.drawn
  have e3 : oo = s.os := mv.os
  subst e1; subst e2; subst e3
  show wpAny _ _ _ _ _ _
  refine wpAny_pure (show wpAny _ _ (ret Value.none) _ _ _ from wpAny_pure ⟨rfl, g, tk, c, rfl, hS, by rw [← sz]; exact hc, fun b o e => ?_⟩)
  have lb : b < s.heap.objs.size := Heap.lt_size e
  refine mv.heap b o (fun m => ?_) (Heap.get?_push_of_some _ (Heap.get?_push_of_some _ e))
  rcases List.mem_cons.mp m with m | m
  · exact Nat.ne_of_lt lb m
  · have m2 := List.mem_singleton.mp m
    rw [m2, hz] at lb
    exact absurd lb (Nat.not_lt.mpr (Nat.le_succ _))
/-- set(l) of a list of ints, fewer than some thousands -/
theorem set_ints {l : Addr} {its : Array Value} (ns : List Int) {Q : Value → Shared → Prop} (hh : A.handled = none) (hl : s.heap.IsList l its) (hi : IntsAre its.toList ns) (hb : ns.length + 1 < scanBound)
    (q : ∀ (g : Heap) (tk c : Nat), SetR w g s.heap.objs.size (fun j => decide (j ∈ ns)) c → c ≤ ns.length → (∀ b o, s.heap.get? b = some o → g.get? b = some o) → Q (.ref s.heap.objs.size) { s with heap := g, toks := tk }) :
    wpAny (model P w) A (call (.type "set") [.ref l]) Q E s := by
  have cs := F.called_set
  obtain ⟨top, up, f1⟩ := cs.mro
  have f2 := cs.made
  have f3 := cs.sub
  have f4 := cs.notType
  have f5 := cs.canCreate
  have f6 := cs.init.lookup
  have f7 := cs.init.bind (.ref s.heap.objs.size)
  have f8 := F.typeCall_set_1 (.ref l)
  have g0 : (s.heap.push (sO w)).get? s.heap.objs.size = some (sO w) := Heap.get?_push_size _ rfl
  have ty : Shared.TypeIs { s with heap := s.heap.push (sO w) } (.ref s.heap.objs.size) "set" := ⟨_, g0, rfl⟩
  have qt : Code.quiet (.builtin "type.__call__" ⟨[.type "set", .ref l], []⟩) = true := Code.quiet_builtin _ (by decide +kernel)
  apply wpAny_call
  apply codeAny_of_tree
  show wpAny _ _ (callAny (.type "set") _) _ _ _
  refine wpAny_pure ⟨qt, codeAny_builtin F.entry_type_call ?_⟩
  rw [Around.under_plain (weight_type_call_type "set" _ _) rfl]
  repeat (any_goals (first | wp_step | assumption))
  apply codeAny_mono (code_set_led1 (.ref l) (E := E) (Q₁ := fun v t => v = .ref s.heap.objs.size ∧ t = { s with heap := s.heap.push (sO w) }) ⟨rfl, rfl⟩)
  intro r t h
  match r, h with
  | .error _, h => exact h
  | .ok (.ret v), ⟨e1, e2⟩ =>
    subst e1; subst e2
    repeat (any_goals (first | wp_step | assumption))
    refine codeAny_mono (set_fill (E := E) ns (by simp [hh]) hl hi hb) fun r2 t2 h2 => ?_
    match r2, h2 with
    | .error _, h2 => exact h2
    | .ok (.ret u), ⟨e3, g, tk, c, e4, k1, k2, k3⟩ =>
      subst e3; subst e4
      repeat (any_goals (first | wp_step | assumption))
      exact q g tk c k1 k2 k3
end
/-- set(l) by the heap: a list of ints, fewer than 64 -/
def rSetOfI (K : PySem.W.Frag) (w : World) : List V → Hp → VK → Prop := fun xs H Q => ∃ (l : Addr) (ns : List Int), xs = [V.ref l] ∧ SqL K H l (ns.map V.int) ∧ ns.length < 64 ∧ ∀ a n, H a = none → n ≤ ns.length → Q (.ref a) (upd H a (SetO w a (fun j => decide (j ∈ ns)) n))
theorem cr_setL {X : Cx} (hc : X.calm = true) : CallR X (.type "set") (rSetOfI X.K X.w) := by
  intro pins s σ H xs us Q I r h
  obtain ⟨l, ns, rfl, hl, hb, q⟩ := h
  rw [Vals.ref1 r]
  obtain ⟨its, rv, pl, _⟩ := I.list hl
  refine set_ints (P := X.prog) (w := X.w) ns (I.ok.hd hc) pl.isList (ints_of_vals (by simpa using rv)) (by unfold scanBound; omega) fun g tk c R hn k => ?_
  exact ⟨.ref _, upd H _ (SetO X.w _ _ c), I.laid (t' := tk) k (Nat.le_refl _) (setO_new R), rfl, q _ c (I.hok.fresh (Nat.le_refl _)) hn⟩
/-! sorted(set(l)) by data -/
def ddI : List Int → List Int
  | [] => []
  | x :: xs => if x ∈ ddI xs then ddI xs else x :: ddI xs
theorem ddI_mem {k : Int} : ∀ xs : List Int, k ∈ ddI xs ↔ k ∈ xs
  | [] => Iff.rfl
  | x :: xs => by
    unfold ddI
    have ih := ddI_mem (k := k) xs
    split
    · rename_i h
      rw [ih, List.mem_cons]
      refine ⟨.inr, fun z => ?_⟩
      rcases z with rfl | z
      · exact (ddI_mem xs).mp h
      · exact z
    · rw [List.mem_cons, List.mem_cons, ih]
theorem ddI_nd : ∀ xs : List Int, (ddI xs).Nodup
  | [] => List.Pairwise.nil
  | x :: xs => by
    unfold ddI
    split
    · exact ddI_nd xs
    · rename_i h
      exact List.nodup_cons.mpr ⟨h, ddI_nd xs⟩
def setI (ns : List Int) : List Int := sortI (ddI ns)
theorem setI_mem {k : Int} {ns : List Int} : k ∈ setI ns ↔ k ∈ ns := ((sortI_perm (ddI ns)).mem_iff).trans (ddI_mem ns)
theorem nodup_perm : ∀ {a b : List Int}, a.Nodup → b.Nodup → (∀ k, k ∈ a ↔ k ∈ b) → a.Perm b
  | [], b, _, _, h => by
    have : b = [] := List.eq_nil_iff_forall_not_mem.mpr fun k hk => by simpa using (h k).mpr hk
    rw [this]
  | x :: a, b, ha, hb, h => by
    have hx : x ∈ b := (h x).mp (by simp)
    have h1 := List.nodup_cons.mp ha
    refine ((nodup_perm h1.2 (hb.erase x) fun k => ?_).cons x).trans (List.perm_cons_erase hx).symm
    rw [hb.mem_erase_iff, ← h k, List.mem_cons]
    refine ⟨fun z => ⟨fun e => h1.1 (e ▸ z), .inr z⟩, fun z => ?_⟩
    rcases z.2 with e | e
    · exact absurd e z.1
    · exact e
theorem setI_eq {rs ns : List Int} (s : rs.Pairwise (· < ·)) (m : ∀ k, k ∈ rs ↔ k ∈ ns) : rs = setI ns := by
  have nd : rs.Nodup := s.imp fun h e => by omega
  exact sortI_eq (nodup_perm nd (ddI_nd ns) fun k => (m k).trans (ddI_mem ns).symm) (s.imp fun h => Int.le_of_lt h)
def srsW : D → DK → Prop
  | .lst ds, Q => ∃ ns : List Int, ds = ns.map D.int ∧ ns.length < 64 ∧ Q (.lst ((setI ns).map D.int))
  | _, _ => False
theorem srsW.mono {x : D} {Q Q' : DK} (q : ∀ d, Q d → Q' d) : srsW x Q → srsW x Q' := by
  cases x <;> simp only [srsW] <;> first | exact fun h => h | exact fun ⟨ns, e, l, h⟩ => ⟨ns, e, l, q _ h⟩
end SV

set_option Elab.async false
set_option linter.all false
set_option maxRecDepth 100000
set_option maxHeartbeats 4000000
namespace SV
open PySem PySem.Spec PyProof.Rows L2
/-! ### sorted(a list of pairs of ints) -/
def pD (p : Int × Int) : D := .tup [.int p.1, .int p.2]
theorem srt_uniq {α : Type} {R : α → α → Prop} (anti : ∀ a b, R a b → R b a → a = b) : ∀ {l m : List α}, l.Pairwise R → m.Pairwise R → l.Perm m → l = m
  | [], m, _, _, p => (List.nil_perm.mp p).symm
  | a :: l, [], _, _, p => absurd p.length_eq (by simp)
  | a :: l, b :: m, h1, h2, p => by
    have p1 := List.pairwise_cons.mp h1
    have p2 := List.pairwise_cons.mp h2
    have e : a = b := by
      rcases List.mem_cons.mp (p.mem_iff.mp (by simp : a ∈ a :: l)) with e | ha
      · exact e
      · rcases List.mem_cons.mp (p.mem_iff.mpr (by simp : b ∈ b :: m)) with e | hb
        · exact e.symm
        · exact anti a b (p1.1 b hb) (p2.1 a ha)
    subst e
    rw [srt_uniq anti p1.2 p2.2 ((List.perm_cons a).mp p)]
/-- p not behind q -/
def leP (p q : Int × Int) : Prop := p.1 < q.1 ∨ (p.1 = q.1 ∧ p.2 ≤ q.2)
def leB (p q : Int × Int) : Bool := decide (p.1 < q.1) || (decide (p.1 = q.1) && decide (p.2 ≤ q.2))
theorem leB_iff {p q : Int × Int} : leB p q = true ↔ leP p q := by
  unfold leB leP
  simp
def sortP (ps : List (Int × Int)) : List (Int × Int) := ps.mergeSort leB
theorem sortP_perm (ps : List (Int × Int)) : (sortP ps).Perm ps := List.mergeSort_perm ps _
theorem sortP_pw (ps : List (Int × Int)) : (sortP ps).Pairwise leP := by
  have h := List.pairwise_mergeSort (le := leB) (fun a b c h1 h2 => by
    rw [leB_iff] at *
    unfold leP at *
    omega) (fun a b => by
    rw [Bool.or_eq_true, leB_iff, leB_iff]
    unfold leP
    omega) ps
  exact h.imp fun h => leB_iff.mp h
theorem leP_anti (p q : Int × Int) (h1 : leP p q) (h2 : leP q p) : p = q := by
  unfold leP at h1 h2
  exact Prod.ext (by omega) (by omega)
theorem sortP_eq {rs ps : List (Int × Int)} (p : rs.Perm ps) (s : rs.Pairwise leP) : rs = sortP ps := srt_uniq leP_anti s (sortP_pw ps) (p.trans (sortP_perm ps).symm)
theorem lexB_le {p q : Int × Int} (h : SrtO.lexB q p = false) : leP p q := by
  have := SrtO.lexB_no.mp h
  unfold leP
  omega
def kH (H : Hp) (x : V) : Int × Int := match x with
  | .ref t => match H t with
    | some (.tup [.int i, .int j]) => (i, j)
    | _ => (0, 0)
  | _ => (0, 0)
theorem kH_at {H : Hp} {t : Addr} {i j : Int} (h : H t = some (.tup [.int i, .int j])) : kH H (.ref t) = (i, j) := by
  unfold kH
  simp only [h]
theorem rp_pair {K : Fr} {H : Hp} {Z : Addr → Prop} {x : V} {p : Int × Int} (r : Rp K H Z x (pD p)) : ∃ t, x = .ref t ∧ H t = some (.tup [.int p.1, .int p.2]) := by
  unfold pD at r
  cases r with
  | @tup a vs ds h hl r =>
    match vs, hl with
    | [u, v], _ =>
      have h0 := r 0 u _ rfl rfl
      have h1 := r 1 v _ rfl rfl
      cases h0
      cases h1
      exact ⟨a, rfl, h⟩
theorem rp_of_pair {K : Fr} {H : Hp} {Z : Addr → Prop} {t : Addr} {p : Int × Int} (h : H t = some (.tup [.int p.1, .int p.2])) : Rp K H Z (.ref t) (pD p) := by
  refine .tup h rfl fun j v d h1 h2 => ?_
  match j, h1, h2 with
  | 0, h1, h2 => cases h1; cases h2; exact .int _
  | 1, h1, h2 => cases h1; cases h2; exact .int _
  | j + 2, h1, h2 => simp at h1
theorem rps_pairs {K : Fr} {H : Hp} {Z : Addr → Prop} {vs : List V} {ps : List (Int × Int)} (r : Rps K H Z vs (ps.map pD)) : (∀ x ∈ vs, ∃ t, x = .ref t ∧ H t = some (.tup [.int (kH H x).1, .int (kH H x).2])) ∧ vs.map (kH H) = ps := by
  have hl : vs.length = ps.length := by have := r.1; simpa using this
  have at_ : ∀ (j : Nat) (x : V), vs[j]? = some x → ∃ p, ps[j]? = some p ∧ ∃ t, x = .ref t ∧ H t = some (.tup [.int p.1, .int p.2]) := fun j x hx => by
    have hj : j < ps.length := by have := (List.getElem?_eq_some_iff.mp hx).1; omega
    exact ⟨ps[j], List.getElem?_eq_getElem hj, rp_pair (r.2 j x _ hx (by simp [hj]))⟩
  refine ⟨fun x hx => ?_, List.ext_getElem? fun j => ?_⟩
  · obtain ⟨j, hj⟩ := List.getElem?_of_mem hx
    obtain ⟨p, _, t, rfl, ht⟩ := at_ j x hj
    exact ⟨t, rfl, by rw [kH_at ht]; exact ht⟩
  · rw [List.getElem?_map]
    cases hx : vs[j]? with
    | none =>
      have : vs.length ≤ j := List.getElem?_eq_none_iff.mp hx
      rw [List.getElem?_eq_none (by omega : ps.length ≤ j)]
      rfl
    | some x =>
      obtain ⟨p, hp, t, rfl, ht⟩ := at_ j x hx
      rw [hp]
      show some (kH H (.ref t)) = some p
      rw [kH_at ht]
/-- what a sorted list of the same stands for -/
theorem rps_sorted {K : Fr} {H : Hp} {Z : Addr → Prop} {vs ys : List V} {ps : List (Int × Int)} (r : Rps K H Z vs (ps.map pD)) (s : SrtO.Srtd (ltP (kH H)) ys) (b : ys.Perm vs) : Rps K H Z ys ((sortP ps).map pD) := by
  obtain ⟨k1, k2⟩ := rps_pairs r
  have e : ys.map (kH H) = sortP ps := sortP_eq (by rw [← k2]; exact b.map _) (List.pairwise_map.mpr (List.Pairwise.imp (fun h => lexB_le h) s))
  rw [← e, List.map_map]
  refine ⟨by simp, fun j v d hv hd => ?_⟩
  rw [List.getElem?_map, hv] at hd
  cases hd
  obtain ⟨t, rfl, ht⟩ := k1 v (b.mem_iff.mp (List.mem_of_getElem? hv))
  exact rp_of_pair ht
def srpW : D → DK → Prop
  | .lst ds, Q => ∃ ps : List (Int × Int), ds = ps.map pD ∧ Q (.lst ((sortP ps).map pD))
  | _, _ => False
theorem srpW.mono {x : D} {Q Q' : DK} (q : ∀ d, Q d → Q' d) : srpW x Q → srpW x Q' := by
  cases x <;> simp only [srpW] <;> first | exact fun h => h | exact fun ⟨ns, e, h⟩ => ⟨ns, e, q _ h⟩
end SV

set_option Elab.async false
set_option linter.all false
set_option maxRecDepth 100000
set_option maxHeartbeats 4000000
namespace SV
open PySem PySem.Spec PyProof.Rows L2
/-! ### sorted(a list of data of one shape) -/
abbrev keyV (q : V × D) : PyData := toP q.2
def sortD (ds : List D) : List D := ds.mergeSort (PySem.W.dataLe false toP)
theorem sortD_perm (ds : List D) : (sortD ds).Perm ds := List.mergeSort_perm ds _
theorem each_of {X : Cx} {pins : List (Addr × Obj)} {σ : List (Option V)} {H : Hp} {s : Shared} (I : Inv X pins σ H s) : ∀ (ds : List D) {xs : List V} {us : List Value}, Vals xs us → DpAll X.K H xs (toPs ds) →
    PySem.W.EachIs (fun v (p : V × D) => RelV p.1 v ∧ ∃ as, Reads s.heap v (keyV p) as) us (xs.zip ds)
  | [], xs, us, r, h => by
    have h' : DpAll X.K H xs [] := by simpa only [toPs] using h
    cases h'
    cases r
    exact .nil
  | d :: ds, xs, us, r, h => by
    have h' : DpAll X.K H xs (toP d :: toPs ds) := by simpa only [toPs] using h
    cases h' with
    | cons h1 h2 =>
      cases r with
      | cons r1 r2 => exact .cons ⟨r1, Dp.reads I _ _ _ h1 r1⟩ (each_of I ds r2 h2)
theorem vals_each : ∀ {us : List Value} {bs : List (V × D)}, PySem.W.EachIs (fun v p => RelV p.1 v) us bs → Vals (bs.map (·.1)) us
  | _, _, .nil => .nil
  | _, _, .cons h t => .cons h (vals_each t)
def rSrd (K : Fr) : List V → Hp → VK → Prop := fun vs H Q => ∃ (a : Addr) (xs : List V) (ds : List D), vs = [.ref a] ∧ SqL K H a xs ∧ DpAll K H xs (toPs ds) ∧ xs.length = ds.length ∧ PySem.W.AllAlike (ds.map toP) ∧ PySem.W.Sortable (ds.map toP) ∧ (∀ d ∈ ds, (toP d).depth ≤ 2) ∧
  ∀ p, H p = none → Q (.ref p) (upd H p (.lst (((xs.zip ds).mergeSort (PySem.W.dataLe false keyV)).map (·.1))))
theorem cr_srd {X : Cx} (hu : X.A.units + 65 < cLine) : CallR X (.builtin "sorted") (rSrd X.K) := by
  intro pins s σ H vs us Q I r h
  obtain ⟨a, xs, ds, rfl, hs, hd, hl, al, so, dep, q⟩ := h
  obtain ⟨its, rv, hli, hz⟩ := I.list hs
  obtain ⟨u, rfl, ru⟩ := vals1 r
  obtain rfl : u = Value.ref a := ru
  have e := each_of I ds rv hd
  have hm : (xs.zip ds).map keyV = ds.map toP := by
    have : (xs.zip ds).map keyV = ((xs.zip ds).map Prod.snd).map toP := by rw [List.map_map]; rfl
    rw [this, List.map_snd_zip (by omega)]
  have hlz : (xs.zip ds).length = xs.length := by rw [List.length_zip]; omega
  refine PySem.W.sorted_data (enc := keyV) (R := fun v p => RelV p.1 v) hli.isList (e.mono fun _ _ h => h.1) (e.mono fun _ _ h => h.2) (by rw [hm]; exact al) (by rw [hm]; exact so) (by omega) (fun b hb => ?_) fun out ho eo => ?_
  · have := dep b.2 (List.of_mem_zip (show (b.1, b.2) ∈ xs.zip ds from hb)).2
    show _ + (toP b.2).depth < _
    omega
  · obtain ⟨n, hn⟩ := sortedAll_at s.heap its out.toArray
    refine ⟨.ref _, upd H _ (.lst _), I.laid (t' := s.toks) (fun b o e => sortedAll_old e) (Nat.le_succ _) ⟨?_, out, n, vals_each eo, hn⟩, rfl, q _ (I.hok.fresh (Nat.le_succ _))⟩
    rw [List.length_map, List.length_mergeSort, hlz]
    exact hz
theorem rps_srd {K : Fr} {H : Hp} {Z : Addr → Prop} {xs : List V} {ds : List D} (r : Rps K H Z xs ds) : Rps K H Z (((xs.zip ds).mergeSort (PySem.W.dataLe false keyV)).map (·.1)) (sortD ds) := by
  have hl := r.1
  have e : sortD ds = ((xs.zip ds).mergeSort (PySem.W.dataLe false keyV)).map Prod.snd := by
    have := List.map_mergeSort (r := PySem.W.dataLe false keyV) (s := PySem.W.dataLe false toP) (f := Prod.snd) (l := xs.zip ds) (fun a _ b _ => rfl)
    rw [List.map_snd_zip (by omega)] at this
    exact this.symm
  rw [e]
  refine ⟨by simp, fun j v d hv hd => ?_⟩
  rw [List.getElem?_map] at hv hd
  cases hz : ((xs.zip ds).mergeSort (PySem.W.dataLe false keyV))[j]? with
  | none => rw [hz] at hv; cases hv
  | some p =>
    rw [hz] at hv hd
    cases hv
    cases hd
    have hm : p ∈ xs.zip ds := (List.mergeSort_perm (xs.zip ds) _).mem_iff.mp (List.mem_of_getElem? hz)
    obtain ⟨i, hi⟩ := List.getElem?_of_mem hm
    rw [List.getElem?_zip_eq_some] at hi
    exact r.2 i _ _ hi.1 hi.2
def srdW : D → DK → Prop
  | .lst ds, Q => (∀ d ∈ ds, (toP d).canLay0 = true ∧ (toP d).depth ≤ 2) ∧ PySem.W.AllAlike (ds.map toP) ∧ PySem.W.Sortable (ds.map toP) ∧ Q (.lst (sortD ds))
  | _, _ => False
theorem srdW.mono {x : D} {Q Q' : DK} (q : ∀ d, Q d → Q' d) : srdW x Q → srdW x Q' := by
  cases x <;> simp only [srdW] <;> first | exact fun h => h | exact fun ⟨n, e, f, h⟩ => ⟨n, e, f, q _ h⟩
theorem lay_all : ∀ {ds : List D}, (∀ d ∈ ds, (toP d).canLay0 = true ∧ (toP d).depth ≤ 2) → PyData.canLayAll0 (toPs ds) = true
  | [], _ => by simp [toPs, PyData.canLayAll0]
  | x :: ds, h => by
    simp only [toPs, PyData.canLayAll0, (h x (by simp)).1, lay_all fun d hd => h d (List.mem_cons_of_mem _ hd), Bool.and_self]
end SV

set_option Elab.async false
set_option linter.all false
set_option maxRecDepth 100000
set_option maxHeartbeats 4000000
namespace SV
open PySem PySem.Spec PyProof.Rows L2

/-! ### built-ins by data -/
section
variable {X : Cx} {Z : Addr → Prop}
theorem CallR.imp {f : Value} {r r' : List V → Hp → VK → Prop} (h : CallR X f r) (i : ∀ xs H Q, r' xs H Q → r xs H Q) : CallR X f r' := fun pins s σ H xs us Q I rx q => h pins s σ H xs us Q I rx (i _ _ _ q)
theorem CallR.or {f : Value} {r r' : List V → Hp → VK → Prop} (h : CallR X f r) (h' : CallR X f r') : CallR X f (fun xs H Q => r xs H Q ∨ r' xs H Q) := fun pins s σ H xs us Q I rx q => by
  rcases q with q | q
  · exact h pins s σ H xs us Q I rx q
  · exact h' pins s σ H xs us Q I rx q
def biVal : Bi → Value
  | .len => .builtin "len"
  | .sum => .builtin "sum"
  | .list => .type "list"
  | .max2 => .builtin "max"
  | .min2 => .builtin "min"
  | .max1 => .builtin "max"
  | .min1 => .builtin "min"
  | .tuple => .type "tuple"
  | .int1 => .type "int"
  | .str1 => .type "str"
  | .all => .builtin "all"
  | .any => .builtin "any"
  | .sorted => .builtin "sorted"
def biName : Bi → Str
  | .len => "len"
  | .sum => "sum"
  | .list => "list"
  | .max2 => "max"
  | .min2 => "min"
  | .max1 => "max"
  | .min1 => "min"
  | .tuple => "tuple"
  | .int1 => "int"
  | .str1 => "str"
  | .all => "all"
  | .any => "any"
  | .sorted => "sorted"
theorem Rps.one {K : Fr} {H : Hp} {xs : List V} {d : D} (r : Rps K H Z xs [d]) : ∃ x, xs = [x] ∧ Rp K H Z x d := by
  match xs, r with
  | [x], r => exact ⟨x, rfl, r.2 0 x d rfl rfl⟩
  | [], r => exact nomatch r.1
  | _ :: _ :: _, r => exact absurd r.1 (by simp)
theorem Rps.two {K : Fr} {H : Hp} {xs : List V} {d e : D} (r : Rps K H Z xs [d, e]) : ∃ x y, xs = [x, y] ∧ Rp K H Z x d ∧ Rp K H Z y e := by
  match xs, r with
  | [x, y], r => exact ⟨x, y, rfl, r.2 0 x d rfl rfl, r.2 1 y e rfl rfl⟩
  | [], r => exact nomatch r.1
  | [_], r => exact absurd r.1 (by simp)
  | _ :: _ :: _ :: _, r => exact absurd r.1 (by simp)
theorem rps_ints {K : Fr} {H : Hp} : ∀ {vs : List V} {ns : List Int}, Rps K H Z vs (ns.map D.int) → vs = ns.map V.int
  | [], [], _ => rfl
  | [], _ :: _, r => absurd r.1 (by simp)
  | _ :: _, [], r => absurd r.1 (by simp)
  | v :: vs, n :: ns, r => by
    have h := r.2 0 v (.int n) rfl rfl
    cases h
    have t : Rps K H Z vs (ns.map D.int) := ⟨by simpa using r.1, fun j v' d' a b => r.2 (j + 1) v' d' (by simpa using a) (by simpa using b)⟩
    rw [rps_ints t] <;> rfl
theorem rps_bls {K : Fr} {H : Hp} : ∀ {vs : List V} {bs : List Bool}, Rps K H Z vs (bs.map D.bl) → vs = bs.map V.bl
  | [], [], _ => rfl
  | [], _ :: _, r => absurd r.1 (by simp)
  | _ :: _, [], r => absurd r.1 (by simp)
  | v :: vs, n :: ns, r => by
    have h := r.2 0 v (.bl n) rfl rfl
    cases h
    have t : Rps K H Z vs (ns.map D.bl) := ⟨by simpa using r.1, fun j v' d' a b => r.2 (j + 1) v' d' (by simpa using a) (by simpa using b)⟩
    rw [rps_bls t] <;> rfl
theorem rps_strs {K : Fr} {H : Hp} : ∀ {vs : List V} {ns : List Str}, Rps K H Z vs (ns.map D.str) → vs = ns.map V.str
  | [], [], _ => rfl
  | [], _ :: _, r => absurd r.1 (by simp)
  | _ :: _, [], r => absurd r.1 (by simp)
  | v :: vs, n :: ns, r => by
    have h := r.2 0 v (.str n) rfl rfl
    cases h
    have t : Rps K H Z vs (ns.map D.str) := ⟨by simpa using r.1, fun j v' d' a b => r.2 (j + 1) v' d' (by simpa using a) (by simpa using b)⟩
    rw [rps_strs t] <;> rfl
theorem strs_rps {K : Fr} {H : Hp} : ∀ ns : List Str, Rps K H Z (ns.map V.str) (ns.map D.str)
  | [] => .nil
  | n :: ns => .cons (.str n) (strs_rps ns)
theorem crl_K : CallR X (.builtin "len") (fun xs H Q => ∃ (a : Addr) (kvs : List (Key × V)), xs = [.ref a] ∧ Rd H a (.dK kvs) ∧ Q (.int ((kvs.length : Nat) : Int)) H) := by
  intro pins s σ H xs us Q I r h
  obtain ⟨a, kvs, rfl, ha, q⟩ := h
  obtain ⟨u, rfl, ru⟩ := vals1 r
  cases ru
  exact d_len I ha fun t s' I' => ⟨.int kvs.length, H, I', ⟨t, rfl⟩, q⟩
theorem crl_T : CallR X (.builtin "len") (fun xs H Q => ∃ (a : Addr) (kvs : List (List Key × V)), xs = [.ref a] ∧ Rd H a (.dT kvs) ∧ Q (.int ((kvs.length : Nat) : Int)) H) := by
  intro pins s σ H xs us Q I r h
  obtain ⟨a, kvs, rfl, ha, q⟩ := h
  obtain ⟨u, rfl, ru⟩ := vals1 r
  cases ru
  obtain ⟨z, hd, ys, rel, dd⟩ := dt_rd I.hok ha
  have hl : kvs.length = ys.length := Paired.length rel
  refine call_len_dictH hd dd (by rw [← hl]; rw [sizeLine_eq] at z; omega) ?_
  rw [← hl]
  exact ⟨.int ((kvs.length : Nat) : Int), H, I.tok _, ⟨_, rfl⟩, q⟩
theorem bi_D (hc : X.calm = true) (b : Bi) : CallR X (biVal b) fun xs H Q => ∃ (Z : Addr → Prop) (ds : List D), Fsh H Z ∧ Rps X.K H Z xs ds ∧ biW b ds (Bk X.K Z H true Q) := by
  cases b
  · refine CallR.imp (call_len.or (crl_K.or crl_T)) ?_
    rintro xs H Q ⟨Z, ds, f, r, w⟩
    unfold biW at w
    split at w <;> first | cases ‹Bi.len = _› | skip
    · obtain ⟨x, rfl, rx⟩ := r.one
      obtain ⟨a, vs, rfl, ha, ra⟩ := rx.lstE
      exact .inl ⟨_, _, rfl, .inl ⟨vs, SqL.of ha, ra.1.symm⟩, w.at (.int _)⟩
    · obtain ⟨x, rfl, rx⟩ := r.one
      obtain ⟨a, vs, rfl, ha, ra⟩ := rx.tupE
      exact .inl ⟨_, _, rfl, .inr ⟨vs, ha, ra.1.symm⟩, w.at (.int _)⟩
    · obtain ⟨x, rfl, rx⟩ := r.one
      cases rx with
      | scr h => exact .inl ⟨_, _, rfl, .inl ⟨_, h.l, by rw [List.length_map]⟩, w.at (.int _)⟩
    · obtain ⟨x, rfl, rx⟩ := r.one
      cases rx
      exact .inl ⟨_, _, rfl, ⟨w.1, rfl⟩, w.2.at (.int _)⟩
    · obtain ⟨x, rfl, rx⟩ := r.one
      cases rx with
      | dik h z hk r =>
        have e := congrArg List.length hk
        simp at e
        exact .inr (.inl ⟨_, _, rfl, h, by rw [e]; exact Bk.at w (.int _)⟩)
    · obtain ⟨x, rfl, rx⟩ := r.one
      cases rx with
      | dit h z hk r =>
        have e := congrArg List.length hk
        simp at e
        exact .inr (.inr ⟨_, _, rfl, h, by rw [e]; exact Bk.at w (.int _)⟩)
    · exact w.elim
  · refine CallR.imp (cr_sum hc) ?_
    rintro xs H Q ⟨Z, ds, f, r, w⟩
    unfold biW at w
    split at w <;> first | cases ‹Bi.sum = _› | skip
    · obtain ⟨x, rfl, rx⟩ := r.one
      obtain ⟨a, vs, rfl, ha, ra⟩ := rx.lstE
      obtain ⟨ns, rfl, w⟩ := w
      rw [rps_ints ra] at ha
      exact ⟨a, ns, rfl, SqL.of ha, w.at (.int _)⟩
    · exact w.elim
  · refine CallR.imp call_list_of ?_
    rintro xs H Q ⟨Z, ds, f, r, w⟩
    unfold biW at w
    split at w <;> first | cases ‹Bi.list = _› | skip
    · obtain ⟨x, rfl, rx⟩ := r.one
      obtain ⟨a, vs, rfl, ha, ra⟩ := rx.lstE
      exact ⟨a, vs, rfl, .inl (SqL.of ha), fun l hl => w.new f ra hl⟩
    · obtain ⟨x, rfl, rx⟩ := r.one
      obtain ⟨a, vs, rfl, ha, ra⟩ := rx.tupE
      exact ⟨a, vs, rfl, .inr ha, fun l hl => w.new f ra hl⟩
    · exact w.elim
  · refine CallR.imp (call_max2 hc) ?_
    rintro xs H Q ⟨Z, ds, f, r, w⟩
    unfold biW at w
    split at w <;> first | cases ‹Bi.max2 = _› | skip
    · obtain ⟨x, y, rfl, rx, ry⟩ := r.two
      cases rx; cases ry
      exact ⟨_, _, rfl, w.at (.int _)⟩
    · exact w.elim
  · refine CallR.imp (call_min2 hc) ?_
    rintro xs H Q ⟨Z, ds, f, r, w⟩
    unfold biW at w
    split at w <;> first | cases ‹Bi.min2 = _› | skip
    · obtain ⟨x, y, rfl, rx, ry⟩ := r.two
      cases rx; cases ry
      exact ⟨_, _, rfl, w.at (.int _)⟩
    · exact w.elim
  · refine CallR.imp (cr_max hc) ?_
    rintro xs H Q ⟨Z, ds, f, r, w⟩
    unfold biW at w
    split at w <;> first | cases ‹Bi.max1 = _› | skip
    · obtain ⟨x, rfl, rx⟩ := r.one
      obtain ⟨a, vs, rfl, ha, ra⟩ := rx.lstE
      obtain ⟨ns, rfl, l, w⟩ := w
      rw [rps_ints ra] at ha
      exact ⟨a, ns, rfl, SqL.of ha, l, fun m h1 h2 => (w m h1 h2).at (.int _)⟩
    · exact w.elim
  · refine CallR.imp (cr_min hc) ?_
    rintro xs H Q ⟨Z, ds, f, r, w⟩
    unfold biW at w
    split at w <;> first | cases ‹Bi.min1 = _› | skip
    · obtain ⟨x, rfl, rx⟩ := r.one
      obtain ⟨a, vs, rfl, ha, ra⟩ := rx.lstE
      obtain ⟨ns, rfl, l, w⟩ := w
      rw [rps_ints ra] at ha
      exact ⟨a, ns, rfl, SqL.of ha, l, fun m h1 h2 => (w m h1 h2).at (.int _)⟩
    · exact w.elim
  · refine CallR.imp call_tuple_of ?_
    rintro xs H Q ⟨Z, ds, f, r, w⟩
    unfold biW at w
    split at w <;> first | cases ‹Bi.tuple = _› | skip
    · obtain ⟨x, rfl, rx⟩ := r.one
      obtain ⟨a, vs, rfl, ha, ra⟩ := rx.lstE
      exact ⟨a, vs, rfl, .inl ⟨SqL.of ha, fun l hl => w.newT ra hl⟩⟩
    · obtain ⟨x, rfl, rx⟩ := r.one
      obtain ⟨a, vs, rfl, ha, ra⟩ := rx.tupH
      exact ⟨a, vs, rfl, .inr ⟨SqT.of ha, w.at (.tup ha ra.1 ra.2)⟩⟩
    · exact w.elim
  · refine CallR.imp (call_int1.or call_int_str) ?_
    rintro xs H Q ⟨Z, ds, f, r, w⟩
    unfold biW at w
    split at w <;> first | cases ‹Bi.int1 = _› | skip
    · obtain ⟨x, rfl, rx⟩ := r.one
      cases rx
      exact .inl (.inl ⟨_, rfl, w.at (.int _)⟩)
    · obtain ⟨x, rfl, rx⟩ := r.one
      cases rx
      exact .inl (.inr ⟨_, rfl, w.at (.int _)⟩)
    · obtain ⟨x, rfl, rx⟩ := r.one
      cases rx
      obtain ⟨n, e, l, w⟩ := w
      exact .inr ⟨_, n, rfl, e, l, w.at (.int _)⟩
    · exact w.elim
  · refine CallR.imp call_str_int ?_
    rintro xs H Q ⟨Z, ds, f, r, w⟩
    unfold biW at w
    split at w <;> first | cases ‹Bi.str1 = _› | skip
    · obtain ⟨x, rfl, rx⟩ := r.one
      cases rx
      exact ⟨_, rfl, w.1, w.2.at (.str _)⟩
    · exact w.elim
  · refine CallR.imp (cr_all hc) ?_
    rintro xs H Q ⟨Z, ds, f, r, w⟩
    unfold biW at w
    split at w <;> first | cases ‹Bi.all = _› | skip
    · obtain ⟨x, rfl, rx⟩ := r.one
      obtain ⟨a, vs, rfl, ha, ra⟩ := rx.lstE
      obtain ⟨ns, rfl, w⟩ := w
      rw [rps_bls ra] at ha
      exact ⟨a, ns, rfl, SqL.of ha, w.at (.bl _)⟩
    · exact w.elim
  · refine CallR.imp (cr_any hc) ?_
    rintro xs H Q ⟨Z, ds, f, r, w⟩
    unfold biW at w
    split at w <;> first | cases ‹Bi.any = _› | skip
    · obtain ⟨x, rfl, rx⟩ := r.one
      obtain ⟨a, vs, rfl, ha, ra⟩ := rx.lstE
      obtain ⟨ns, rfl, w⟩ := w
      rw [rps_bls ra] at ha
      exact ⟨a, ns, rfl, SqL.of ha, w.at (.bl _)⟩
    · exact w.elim
  · refine CallR.imp cr_sortedI ?_
    rintro xs H Q ⟨Z, ds, f, r, w⟩
    unfold biW at w
    split at w <;> first | cases ‹Bi.sorted = _› | skip
    · obtain ⟨x, rfl, rx⟩ := r.one
      obtain ⟨a, vs, rfl, ha, ra⟩ := rx.lstE
      obtain ⟨ns, rfl, w⟩ := w
      rw [rps_ints ra] at ha
      refine ⟨a, ns, rfl, SqL.of ha, fun ns' p hp hs hf => ?_⟩
      obtain rfl := sortI_eq hp hs
      exact w.new f (ints_rps _) hf
    · exact w.elim
end

/-! ### expressions, as they are written here -/
inductive Tg where
  | nm (i : Nat) | tp (ts : List Tg)
inductive Ik where
  | seq | rng | zip | enum | rn3 | rnp
  deriving DecidableEq
/-- built-in classes that isinstance asks of -/
inductive Ty where
  | int | bool | list | str | tuple
  deriving DecidableEq
inductive E where
  | var (i : Nat) | int (n : Int) | str (x : Str) | bl (b : Bool) | non
  | glo (x : Str)
  | bin (o : Bop) (a b : E) | neg (a : E) | cmp (o : Cop) (a b : E) | chain (o o' : Cop) (a b c : E)
  | isN (a : E) | notN (a : E)
  | and (es : List E) | or (es : List E) | not (a : E)
  | ite (c a b : E)
  | idx (a i : E) | slc (a : E) (lo hi : List E) | rev (a : E)
  | lst (es : List E) | tup (es : List E)
  | bi (b : Bi) (es : List E)
  | call (f : Str) (es : List E)
  | comp (own : List (Str × Nat)) (tg : Tg) (ik : Ik) (ies : List E) (ifs : List E) (elt : E)
  | isi (a : E) (T : Ty)
  | lrg (a b : E)
  | els (i : Nat) (e : E)
  | upp (a : E)
  | sorR (a : E) | srs (a : E) | srp (a : E) | srd (a : E) | lix (a b : E)
  | chain3 (o1 o2 o3 : Cop) (a b c d : E)
  | jn (z : Str) (a : E) | spl (a : E) (z : Str) | fj (ps : List (Str ⊕ Nat))
  | xis (i : Nat) (C : Str) | xat (i : Nat) (f : Str)
  | dgt (o i : E) | dg1 (o i : E) | dg2 (o i f : E) | din (neg : Bool) (i o : E)

abbrev Env := List (Option (Kd × D))
structure Exc where
  name : Str
  pay : Option (Str × D)
inductive Out where
  | ret (k : Kd) (d : D)
  | exc (x : Exc)
  | any (P : Kd → D → Prop) (E : Exc → Prop)
abbrev Spec1 := List D → Out → Prop
structure Sg where
  T : Str → Option Spec1
  G : Str → Option D
  X : Str → Bool
  sub : Str → Str → Option Bool := fun _ _ => none
  x : Option (Addr × Str × Option Addr) := none
  fld : Str → Str → Bool := fun _ _ => false
  mi : Str → Option Str := fun _ => none

/-! a name's store -/
mutual
def bindT : Tg → D → Env → (Env → Prop) → Prop
  | .nm i, d, ρ, Q => Q (ρ.set i (some (.sh, d)))
  | .tp ts, d, ρ, Q => match d with
    | .tup ds => bindTs ts ds ρ Q
    | _ => False
def bindTs : List Tg → List D → Env → (Env → Prop) → Prop
  | [], ds, ρ, Q => match ds with
    | [] => Q ρ
    | _ :: _ => False
  | t :: ts, ds, ρ, Q => match ds with
    | [] => False
    | d :: ds => bindT t d ρ fun ρ' => bindTs ts ds ρ' Q
end
def wipeE (ρ : Env) : List Nat → Env
  | [] => ρ
  | v :: vs => (wipeE ρ vs).set v none
/-- what is walked -/
def itW : Ik → List D → (List D → Prop) → Prop
  | .seq, [.lst ds], Q => Q ds
  | .seq, [.tup ds], Q => Q ds
  | .seq, [.str z], Q => Q (z.cps.toList.map fun c => .str ⟨#[c]⟩)
  | .rng, [.int j], Q => -(2 ^ 62) ≤ j ∧ j < 2 ^ 62 ∧ Q ((List.range j.toNat).map fun i => .int (0 + (i : Nat)))
  | .rng, [.int i, .int j], Q => (-(2 ^ 62) ≤ i ∧ i < 2 ^ 62 ∧ -(2 ^ 62) ≤ j ∧ j < 2 ^ 62) ∧ Q ((List.range (j - i).toNat).map fun k => .int (i + (k : Nat)))
  | .rn3, [.int i, .int j, .int c], Q => (-(2 ^ 62) ≤ i ∧ i < 2 ^ 62 ∧ -(2 ^ 62) ≤ j ∧ j < 2 ^ 62 ∧ c = -1) ∧ Q ((List.range (i - j).toNat).map fun k => .int (i - (k : Nat)))
  | .rnp, [.int i, .int j, .int c], Q => ∃ n : Nat, RgC i j c n ∧ Q ((List.range n).map fun k => .int (i + (k : Nat) * c))
  | .zip, [.lst a, .lst b], Q => Q ((a.zip b).map fun p => .tup [p.1, p.2])
  | .enum, [.lst a], Q => Q ((List.range a.length).zip a |>.map fun p => .tup [.int (p.1 : Nat), p.2])
  | _, _, _ => False
/-- a comprehension: step x k hands k the item made of x, or none -/
def lcW (step : D → (Option D → Prop) → Prop) : List D → List D → (List D → Prop) → Prop
  | [], acc, Q => Q acc
  | x :: xs, acc, Q => step x fun o => match o with
    | some d => acc.length < sizeLine ∧ lcW step xs (acc ++ [d]) Q
    | none => lcW step xs acc Q
def bW (d : D) (Q : Bool → Prop) : Prop := match d with
  | .bl b => Q b
  | _ => False
def ifW : List D → Prop → Prop → Prop
  | [], t, _ => t
  | [.bl true], t, _ => t
  | [.bl false], _, f => f
  | _, _, _ => False
def ints1 : List D → (Option Int → Prop) → Prop
  | [], Q => Q none
  | [.int i], Q => Q (some i)
  | _, _ => False

def isTy : Ty → D → Bool
  | .int, .int _ => true
  | .int, .bl _ => true
  | .bool, .bl _ => true
  | .list, .lst _ => true
  | .str, .str _ => true
  | .tuple, .tup _ => true
  | _, _ => false
def isiW (T : Ty) (d : D) (Q : DK) : Prop := match d with
  | .scr _ => False
  | .exo _ _ _ => False
  | .dik _ => False
  | .dit _ => False
  | .ob _ _ => False
  | .hol _ => False
  | d => Q (.bl (isTy T d))
/-- a comparison of ints -/
def cI : Cop → Int → Int → Bool
  | .lt, i, j => decide (i < j)
  | .le, i, j => decide (i ≤ j)
  | .gt, i, j => decide (j < i)
  | .ge, i, j => decide (j ≤ i)
  | _, _, _ => false
def intC (d : D) (Q : Int → Prop) : Prop := match d with
  | .int i => Q i
  | _ => False
/-- z.join(a list of texts), a text's parts -/
def jnW (z : Str) (d : D) (Q : DK) : Prop := match d with
  | .lst ds => ∃ ys : List Str, ds = ys.map D.str ∧ (ys.map (·.length)).sum + ys.length * z.length ≤ 16777216 ∧ Q (.str (Txt.join z ys))
  | _ => False
def splW (z : Str) (d : D) (Q : DK) : Prop := match d with
  | .str x => (z.length == 0) = false ∧ x.length + 2 ≤ sizeLine ∧ Q (.lst ((Txt.split x z).map D.str))
  | _ => False
/-- x.index(y), x a list -/
def lixW (d y : D) (Q : DK) : Prop := match d with
  | .lst ds => SeqAt.shaped (toP (.lst ds)) = true ∧ SeqAt.shaped (toP y) = true ∧ ∃ (j : Nat) (z : D), ds[j]? = some z ∧ eqB z y = true ∧ (∀ (m : Nat) (z' : D), m < j → ds[m]? = some z' → eqB z' y = false) ∧ Q (.int (j : Nat))
  | _ => False
def isLW (d : D) (R : Prop) : Prop := match d with
  | .lst _ => R
  | _ => False
theorem lixW.mono {d y : D} {Q Q' : DK} (q : ∀ d, Q d → Q' d) : lixW d y Q → lixW d y Q' := by
  unfold lixW
  split
  · rintro ⟨a, b, j, z, h1, h2, h3, h⟩
    exact ⟨a, b, j, z, h1, h2, h3, q _ h⟩
  · exact fun h => h
theorem isLW.mono {d : D} {R R' : Prop} (q : R → R') : isLW d R → isLW d R' := by
  unfold isLW
  split <;> first | exact q | exact fun h => h
/-- an f-string of texts and names -/
def fmtW (d : D) (Q : Str → Prop) : Prop := match d with
  | .str y => y.length ≤ sizeLine ∧ Q y
  | .int i => i.natAbs.log2 < 1920 ∧ Q (toString i)
  | _ => False
def fjW (ρ : Env) : List (Str ⊕ Nat) → Str → DK → Prop
  | [], acc, Q => Q (.str acc)
  | .inl z :: ps, acc, Q => (acc ++ z).length ≤ sizeLine ∧ fjW ρ ps (acc ++ z) Q
  | .inr i :: ps, acc, Q => match ρ[i]? with
    | some (some p) => fmtW p.2 fun y => (acc ++ y).length ≤ sizeLine ∧ fjW ρ ps (acc ++ y) Q
    | _ => False
theorem fmtW.mono {d : D} {Q Q' : Str → Prop} (q : ∀ d, Q d → Q' d) : fmtW d Q → fmtW d Q' := by
  unfold fmtW
  split <;> first | exact fun h => ⟨h.1, q _ h.2⟩ | exact fun h => h
theorem fjW.mono {ρ : Env} {Q Q' : DK} (q : ∀ d, Q d → Q' d) : ∀ {ps : List (Str ⊕ Nat)} {acc : Str}, fjW ρ ps acc Q → fjW ρ ps acc Q'
  | [], acc, h => q _ h
  | .inl z :: ps, acc, h => by
    unfold fjW at h ⊢
    exact ⟨h.1, fjW.mono q h.2⟩
  | .inr i :: ps, acc, h => by
    unfold fjW at h ⊢
    split at h
    · exact fmtW.mono (fun y hy => ⟨hy.1, fjW.mono q hy.2⟩) h
    · exact h.elim
/-- list(range(i, j)) -/
def rgW : D → D → DK → Prop
  | .int i, .int j, Q => RgOk i j ∧ Q (.lst ((List.range (j - i).toNat).map fun k : Nat => .int (i + (k : Nat))))
  | _, _, _ => False
def uppW : D → DK → Prop
  | .str x, Q => x.length ≤ 5592405 ∧ Q (.str (Txt.upper x))
  | _, _ => False
def dsmW (Q : DK) (r : Option D) : Prop := match r with
  | some d => Q d
  | none => False
/-- isinstance of the exception at hand -/
def xisW (S : Sg) (a dx : Addr) (pay : Option (Str × Int)) (C : Str) (Q : DK) : Prop := match S.x with
  | some (b, nm, dd) => a = b ∧ (dd = none ∨ (dd = some dx ∧ pay.isSome = true)) ∧ (match S.sub nm C with
    | some k => Q (.bl k)
    | none => False)
  | none => False
/-- its field -/
def xatW (S : Sg) (a dx : Addr) (pay : Option (Str × Int)) (f : Str) (Q : DK) : Prop := match S.x with
  | some (b, nm, dd) => a = b ∧ dd = some dx ∧ (match pay with
    | some (g, n) => g = f ∧ S.fld nm f = true ∧ Q (.int n)
    | none => False)
  | none => False
section
variable (S : Sg)
mutual
def wpE (W : Exc → Prop) : E → Env → DK → Prop
  | .var i, ρ, Q => match ρ[i]? with
    | some (some p) => Q p.2
    | _ => False
  | .int n, _, Q => Q (.int n)
  | .str x, _, Q => Q (.str x)
  | .bl b, _, Q => Q (.bl b)
  | .non, _, Q => Q .non
  | .glo x, _, Q => match S.G x with
    | some d => Q d
    | none => False
  | .bin o a b, ρ, Q => wpE W a ρ fun x => wpE W b ρ fun y => binW o x y Q
  | .neg a, ρ, Q => wpE W a ρ fun x => negW x Q
  | .cmp o a b, ρ, Q => wpE W a ρ fun x => wpE W b ρ fun y => cmpW o x y Q
  | .chain o o' a b c, ρ, Q => wpE W a ρ fun x => wpE W b ρ fun y => cmpW o x y fun z => bW z fun k => if k = true then wpE W c ρ fun w => cmpW o' y w Q else Q (.bl false)
  | .isN a, ρ, Q => wpE W a ρ fun x => Q (.bl (match x with | .non => true | _ => false))
  | .notN a, ρ, Q => wpE W a ρ fun x => Q (.bl (match x with | .non => false | _ => true))
  | .and es, ρ, Q => wpB W true es ρ Q
  | .or es, ρ, Q => wpB W false es ρ Q
  | .not a, ρ, Q => wpE W a ρ fun x => bW x fun b => Q (.bl (!b))
  | .ite c a b, ρ, Q => wpE W c ρ fun x => bW x fun k => if k = true then wpE W a ρ Q else wpE W b ρ Q
  | .idx a i, ρ, Q => wpE W a ρ fun x => wpE W i ρ fun y => idxW x y Q
  | .slc a lo hi, ρ, Q => wpE W a ρ fun x => wpEs W lo ρ fun l => ints1 l fun l' => wpEs W hi ρ fun h => ints1 h fun h' => slcW x l' h' Q
  | .rev a, ρ, Q => wpE W a ρ fun x => revW x Q
  | .lst es, ρ, Q => wpEs W es ρ fun ds => ds.length ≤ sizeLine ∧ Q (.lst ds)
  | .tup es, ρ, Q => wpEs W es ρ fun ds => ds.length ≤ sizeLine ∧ Q (.tup ds)
  | .bi b es, ρ, Q => wpEs W es ρ fun ds => biW b ds Q
  | .call f es, ρ, Q => match S.T f with
    | some sp => wpEs W es ρ fun ds => ∃ o, sp ds o ∧ match o with
      | .ret _ d => Q d
      | .exc x => W x
      | .any P E => (∀ k d, P k d → Q d) ∧ ∀ x, E x → W x
    | none => False
  | .isi a T, ρ, Q => wpE W a ρ fun x => isiW T x Q
  | .els i e, ρ, Q => match ρ[i]? with
    | some (some (.ls .sh, .lst ds)) => wpE W e ρ fun y => idxW (.lst ds) y Q
    | _ => False
  | .lrg a b, ρ, Q => wpE W a ρ fun x => wpE W b ρ fun y => rgW x y Q
  | .upp a, ρ, Q => wpE W a ρ fun x => uppW x Q
  | .sorR a, ρ, Q => wpE W a ρ fun x => srtRW x Q
  | .srs a, ρ, Q => wpE W a ρ fun x => srsW x Q
  | .srp a, ρ, Q => wpE W a ρ fun x => srpW x Q
  | .srd a, ρ, Q => wpE W a ρ fun x => srdW x Q
  | .lix a b, ρ, Q => wpE W a ρ fun x => isLW x (wpE W b ρ fun y => lixW x y Q)
  | .chain3 o1 o2 o3 a b c d, ρ, Q => wpE W a ρ fun x => wpE W b ρ fun y => intC x fun i => intC y fun j => if cI o1 i j = true then wpE W c ρ fun u => intC u fun k => if cI o2 j k = true then wpE W d ρ fun v => intC v fun m => Q (.bl (cI o3 k m)) else Q (.bl false) else Q (.bl false)
  | .jn z a, ρ, Q => wpE W a ρ fun x => jnW z x Q
  | .fj ps, ρ, Q => fjW ρ ps Str.empty Q
  | .dgt o i, ρ, Q => wpE W o ρ fun x => wpE W i ρ fun y => dgetW x y (dsmW Q)
  | .dg1 o i, ρ, Q => wpE W o ρ fun x => isDW x (wpE W i ρ fun y => dgetW x y fun r => Q (r.getD .non))
  | .dg2 o i f, ρ, Q => wpE W o ρ fun x => isDW x (wpE W i ρ fun y => wpE W f ρ fun z => dgetW x y fun r => Q (r.getD z))
  | .din neg i o, ρ, Q => wpE W i ρ fun y => wpE W o ρ fun x => dgetW x y fun r => Q (.bl (if neg then !r.isSome else r.isSome))
  | .spl a z, ρ, Q => wpE W a ρ fun x => splW z x Q
  | .xis i C, ρ, Q => match ρ[i]? with
    | some (some (_, .exo a dx pay)) => xisW S a dx pay C Q
    | _ => False
  | .xat i f, ρ, Q => match ρ[i]? with
    | some (some (_, .exo a dx pay)) => xatW S a dx pay f Q
    | _ => False
  | .comp own tg ik ies ifs elt, ρ, Q => wpEs W ies ρ fun ds => itW ik ds fun items => lcW (fun x k => bindT tg x (wipeE ρ (own.map (·.2))) fun ρ' => wpEs (fun _ => False) ifs ρ' fun bs => ifW bs (wpE (fun _ => False) elt ρ' fun d => k (some d)) (k none)) items [] fun acc => Q (.lst acc)
def wpEs (W : Exc → Prop) : List E → Env → (List D → Prop) → Prop
  | [], _, Q => Q []
  | e :: es, ρ, Q => wpE W e ρ fun d => wpEs W es ρ fun ds => Q (d :: ds)
def wpB (W : Exc → Prop) (conj : Bool) : List E → Env → DK → Prop
  | [], _, _ => False
  | e :: es, ρ, Q => match es with
    | [] => wpE W e ρ Q
    | _ :: _ => wpE W e ρ fun d => bW d fun c => if c = conj then wpB W conj es ρ Q else Q (.bl c)
end
end
end SV

set_option Elab.async false
set_option linter.all false
set_option maxRecDepth 100000
set_option maxHeartbeats 4000000
namespace SV
open PySem PySem.Spec PyProof.Rows L2

/-! ### monotone -/
mutual
theorem bindT.mono {Q Q' : Env → Prop} (q : ∀ ρ, Q ρ → Q' ρ) : ∀ {t : Tg} {d : D} {ρ : Env}, bindT t d ρ Q → bindT t d ρ Q'
  | .nm i, d, ρ, h => q _ h
  | .tp ts, d, ρ, h => by
    cases d with
    | tup ds => exact bindTs.mono q (show bindTs ts ds ρ Q from h)
    | _ => exact (show False from h).elim
theorem bindTs.mono {Q Q' : Env → Prop} (q : ∀ ρ, Q ρ → Q' ρ) : ∀ {ts : List Tg} {ds : List D} {ρ : Env}, bindTs ts ds ρ Q → bindTs ts ds ρ Q'
  | [], [], ρ, h => q _ h
  | [], _ :: _, ρ, h => (show False from h).elim
  | t :: ts, [], ρ, h => (show False from h).elim
  | t :: ts, d :: ds, ρ, h => bindT.mono (Q := fun ρ' => bindTs ts ds ρ' Q) (Q' := fun ρ' => bindTs ts ds ρ' Q') (fun ρ' h' => bindTs.mono q h') h
end
theorem itW.mono {k : Ik} {ds : List D} {Q Q' : List D → Prop} (q : ∀ d, Q d → Q' d) : itW k ds Q → itW k ds Q' := by
  unfold itW
  split <;> first | exact fun h => q _ h | exact fun h => ⟨h.1, h.2.1, q _ h.2.2⟩ | exact fun h => ⟨h.1, q _ h.2⟩ | exact fun ⟨n, h, h2⟩ => ⟨n, h, q _ h2⟩ | exact fun h => h
theorem lcW.mono {step step' : D → (Option D → Prop) → Prop} {Q Q' : List D → Prop} (q : ∀ d, Q d → Q' d) (st : ∀ x k k', (∀ o, k o → k' o) → step x k → step' x k') : ∀ {xs acc : List D}, lcW step xs acc Q → lcW step' xs acc Q'
  | [], acc, h => q _ h
  | x :: xs, acc, h => by
    refine st x _ _ (fun o => ?_) h
    cases o with
    | none => exact fun h => lcW.mono q st h
    | some d => exact fun h => ⟨h.1, lcW.mono q st h.2⟩
theorem bW.mono {d : D} {Q Q' : Bool → Prop} (q : ∀ b, Q b → Q' b) : bW d Q → bW d Q' := by
  cases d <;> first | exact fun h => q _ h | exact fun h => h
theorem bW.of {d : D} {Q : Bool → Prop} (h : bW d Q) : ∃ b, d = .bl b ∧ Q b := by
  cases d <;> first | exact ⟨_, rfl, h⟩ | exact (show False from h).elim
theorem ints1.mono {ds : List D} {Q Q' : Option Int → Prop} (q : ∀ b, Q b → Q' b) : ints1 ds Q → ints1 ds Q' := by
  unfold ints1
  split <;> first | exact fun h => q _ h | exact fun h => h
section
variable {S : Sg}
mutual
theorem wpE.mono {W : Exc → Prop} : ∀ {e : E} {ρ : Env} {Q Q' : DK}, (∀ d, Q d → Q' d) → wpE S W e ρ Q → wpE S W e ρ Q'
  | .var i, ρ, Q, Q', q, h => by
    unfold wpE at h ⊢
    split at h <;> first | exact q _ h | exact h.elim
  | .int n, ρ, Q, Q', q, h => q _ h
  | .str n, ρ, Q, Q', q, h => q _ h
  | .bl n, ρ, Q, Q', q, h => q _ h
  | .non, ρ, Q, Q', q, h => q _ h
  | .glo x, ρ, Q, Q', q, h => by
    unfold wpE at h ⊢
    split at h <;> first | exact q _ h | exact h.elim
  | .bin o a b, ρ, Q, Q', q, h => by
    unfold wpE at h ⊢
    exact wpE.mono (fun x hx => wpE.mono (fun y hy => binW.mono q hy) hx) h
  | .neg a, ρ, Q, Q', q, h => by
    unfold wpE at h ⊢
    exact wpE.mono (fun x hx => negW.mono q hx) h
  | .cmp o a b, ρ, Q, Q', q, h => by
    unfold wpE at h ⊢
    exact wpE.mono (fun x hx => wpE.mono (fun y hy => cmpW.mono q hy) hx) h
  | .chain o o' a b c, ρ, Q, Q', q, h => by
    unfold wpE at h ⊢
    refine wpE.mono (fun x hx => wpE.mono (fun y hy => cmpW.mono (fun z hz => bW.mono (fun k hk => ?_) hz) hy) hx) h
    split at hk
    · rename_i e
      rw [if_pos e]
      exact wpE.mono (fun w hw => cmpW.mono q hw) hk
    · rename_i e
      rw [if_neg e]
      exact q _ hk
  | .isN a, ρ, Q, Q', q, h => by
    unfold wpE at h ⊢
    exact wpE.mono (fun x hx => q _ hx) h
  | .notN a, ρ, Q, Q', q, h => by
    unfold wpE at h ⊢
    exact wpE.mono (fun x hx => q _ hx) h
  | .and es, ρ, Q, Q', q, h => by
    unfold wpE at h ⊢
    exact wpB.mono q h
  | .or es, ρ, Q, Q', q, h => by
    unfold wpE at h ⊢
    exact wpB.mono q h
  | .not a, ρ, Q, Q', q, h => by
    unfold wpE at h ⊢
    exact wpE.mono (fun x hx => bW.mono (fun b hb => q _ hb) hx) h
  | .ite c a b, ρ, Q, Q', q, h => by
    unfold wpE at h ⊢
    refine wpE.mono (fun x hx => bW.mono (fun k hk => ?_) hx) h
    split at hk
    · rename_i e
      rw [if_pos e]
      exact wpE.mono q hk
    · rename_i e
      rw [if_neg e]
      exact wpE.mono q hk
  | .idx a i, ρ, Q, Q', q, h => by
    unfold wpE at h ⊢
    exact wpE.mono (fun x hx => wpE.mono (fun y hy => idxW.mono q hy) hx) h
  | .slc a lo hi, ρ, Q, Q', q, h => by
    unfold wpE at h ⊢
    exact wpE.mono (fun x hx => wpEs.mono (fun l hl => ints1.mono (fun l' hl' => wpEs.mono (fun u hu => ints1.mono (fun u' hu' => slcW.mono q hu') hu) hl') hl) hx) h
  | .rev a, ρ, Q, Q', q, h => by
    unfold wpE at h ⊢
    exact wpE.mono (fun x hx => revW.mono q hx) h
  | .lst es, ρ, Q, Q', q, h => by
    unfold wpE at h ⊢
    exact wpEs.mono (fun x hx => ⟨hx.1, q _ hx.2⟩) h
  | .tup es, ρ, Q, Q', q, h => by
    unfold wpE at h ⊢
    exact wpEs.mono (fun x hx => ⟨hx.1, q _ hx.2⟩) h
  | .bi b es, ρ, Q, Q', q, h => by
    unfold wpE at h ⊢
    exact wpEs.mono (fun x hx => biW.mono q hx) h
  | .call f es, ρ, Q, Q', q, h => by
    unfold wpE at h ⊢
    split at h
    · refine wpEs.mono (fun ds hx => ?_) h
      obtain ⟨o, ho, hx⟩ := hx
      refine ⟨o, ho, ?_⟩
      cases o with
      | ret k d => exact q _ hx
      | exc x => exact hx
      | any P E => exact ⟨fun k d p => q _ (hx.1 k d p), hx.2⟩
    · exact h
  | .els i e, ρ, Q, Q', q, h => by
    unfold wpE at h ⊢
    split at h
    · exact wpE.mono (fun y hy => idxW.mono q hy) h
    · exact h.elim
  | .lrg a b, ρ, Q, Q', q, h => by
    unfold wpE at h ⊢
    refine wpE.mono (fun x hx => wpE.mono (fun y hy => ?_) hx) h
    unfold rgW at hy ⊢
    split at hy <;> first | exact hy.elim | exact ⟨hy.1, q _ hy.2⟩
  | .upp a, ρ, Q, Q', q, h => by
    unfold wpE at h ⊢
    refine wpE.mono (fun x hx => ?_) h
    cases x <;> simp only [uppW] at hx ⊢ <;> exact ⟨hx.1, q _ hx.2⟩
  | .chain3 o1 o2 o3 a b c d, ρ, Q, Q', q, h => by
    unfold wpE at h ⊢
    refine wpE.mono (fun x hx => wpE.mono (fun y hy => ?_) hx) h
    cases x <;> simp only [intC] at hy ⊢
    cases y <;> simp only [intC] at hy ⊢
    split at hy
    · rename_i e1
      rw [if_pos e1]
      refine wpE.mono (fun u hu => ?_) hy
      cases u <;> simp only at hu ⊢
      split at hu
      · rename_i e2
        rw [if_pos e2]
        refine wpE.mono (fun v hv => ?_) hu
        cases v <;> simp only at hv ⊢
        exact q _ hv
      · rename_i e2
        rw [if_neg e2]
        exact q _ hu
    · rename_i e1
      rw [if_neg e1]
      exact q _ hy
  | .fj ps, ρ, Q, Q', q, h => by
    unfold wpE at h ⊢
    exact fjW.mono q h
  | .jn z a, ρ, Q, Q', q, h => by
    unfold wpE at h ⊢
    refine wpE.mono (fun x hx => ?_) h
    cases x <;> simp only [jnW] at hx ⊢
    obtain ⟨ys, e, l, h⟩ := hx
    exact ⟨ys, e, l, q _ h⟩
  | .dgt o i, ρ, Q, Q', q, h => by
    unfold wpE at h ⊢
    refine wpE.mono (fun x hx => wpE.mono (fun y hy => dgetW.mono (fun r hr => ?_) hy) hx) h
    cases r with
    | none => exact hr
    | some d => exact q _ hr
  | .dg1 o i, ρ, Q, Q', q, h => by
    unfold wpE at h ⊢
    exact wpE.mono (fun x hx => isDW.mono (fun hx => wpE.mono (fun y hy => dgetW.mono (fun r hr => q _ hr) hy) hx) hx) h
  | .dg2 o i f, ρ, Q, Q', q, h => by
    unfold wpE at h ⊢
    exact wpE.mono (fun x hx => isDW.mono (fun hx => wpE.mono (fun y hy => wpE.mono (fun z hz => dgetW.mono (fun r hr => q _ hr) hz) hy) hx) hx) h
  | .din neg i o, ρ, Q, Q', q, h => by
    unfold wpE at h ⊢
    exact wpE.mono (fun y hy => wpE.mono (fun x hx => dgetW.mono (fun r hr => q _ hr) hx) hy) h
  | .spl a z, ρ, Q, Q', q, h => by
    unfold wpE at h ⊢
    refine wpE.mono (fun x hx => ?_) h
    cases x <;> simp only [splW] at hx ⊢
    exact ⟨hx.1, hx.2.1, q _ hx.2.2⟩
  | .sorR a, ρ, Q, Q', q, h => by
    unfold wpE at h ⊢
    exact wpE.mono (fun x hx => srtRW.mono q hx) h
  | .srd a, ρ, Q, Q', q, h => by
    unfold wpE at h ⊢
    exact wpE.mono (fun x hx => srdW.mono q hx) h
  | .srp a, ρ, Q, Q', q, h => by
    unfold wpE at h ⊢
    exact wpE.mono (fun x hx => srpW.mono q hx) h
  | .srs a, ρ, Q, Q', q, h => by
    unfold wpE at h ⊢
    exact wpE.mono (fun x hx => srsW.mono q hx) h
  | .lix a b, ρ, Q, Q', q, h => by
    unfold wpE at h ⊢
    exact wpE.mono (fun x hx => isLW.mono (fun hx => wpE.mono (fun y hy => lixW.mono q hy) hx) hx) h
  | .xis i C, ρ, Q, Q', q, h => by
    unfold wpE at h ⊢
    split at h
    · unfold xisW at h ⊢
      split at h
      · refine ⟨h.1, h.2.1, ?_⟩
        have h2 := h.2.2
        split at h2
        · exact q _ h2
        · exact h2.elim
      · exact h.elim
    · exact h.elim
  | .xat i f, ρ, Q, Q', q, h => by
    unfold wpE at h ⊢
    split at h
    · unfold xatW at h ⊢
      split at h
      · refine ⟨h.1, h.2.1, ?_⟩
        have h2 := h.2.2
        split at h2
        · exact ⟨h2.1, h2.2.1, q _ h2.2.2⟩
        · exact h2.elim
      · exact h.elim
    · exact h.elim
  | .isi a T, ρ, Q, Q', q, h => by
    unfold wpE at h ⊢
    refine wpE.mono (fun x hx => ?_) h
    unfold isiW at hx ⊢
    split at hx <;> first | exact hx.elim | exact q _ hx
  | .comp own tg ik ies ifs elt, ρ, Q, Q', q, h => by
    unfold wpE at h ⊢
    refine wpEs.mono (fun ds hx => ?_) h
    refine itW.mono (fun items hi => ?_) hx
    refine lcW.mono (fun acc ha => q _ ha) (fun x k k' hk hs => ?_) hi
    refine bindT.mono (fun ρ' hr => ?_) hs
    refine wpEs.mono (fun bs hb => ?_) hr
    unfold ifW at hb ⊢
    split at hb
    · exact wpE.mono (fun d hd => hk _ hd) hb
    · exact wpE.mono (fun d hd => hk _ hd) hb
    · exact hk _ hb
    · exact hb.elim
theorem wpEs.mono {W : Exc → Prop} : ∀ {es : List E} {ρ : Env} {Q Q' : List D → Prop}, (∀ d, Q d → Q' d) → wpEs S W es ρ Q → wpEs S W es ρ Q'
  | [], ρ, Q, Q', q, h => q _ h
  | e :: es, ρ, Q, Q', q, h => by
    unfold wpEs at h ⊢
    exact wpE.mono (fun x hx => wpEs.mono (fun y hy => q _ hy) hx) h
theorem wpB.mono {W : Exc → Prop} {conj : Bool} : ∀ {es : List E} {ρ : Env} {Q Q' : DK}, (∀ d, Q d → Q' d) → wpB S W conj es ρ Q → wpB S W conj es ρ Q'
  | [], ρ, Q, Q', q, h => h
  | [e], ρ, Q, Q', q, h => by
    unfold wpB at h ⊢
    exact wpE.mono q h
  | e :: f :: es, ρ, Q, Q', q, h => by
    unfold wpB at h ⊢
    refine wpE.mono (fun d hd => bW.mono (fun c hc => ?_) hd) h
    split at hc
    · rename_i e'
      rw [if_pos e']
      exact wpB.mono q hc
    · rename_i e'
      rw [if_neg e']
      exact q _ hc
end
end

/-! ### what a value may share with the slots; what stands anew -/
mutual
def als : E → List Nat
  | .var i => [i]
  | .int _ => []
  | .str _ => []
  | .bl _ => []
  | .non => []
  | .glo _ => []
  | .bin _ a b => als a ++ als b
  | .neg a => als a
  | .cmp _ a b => als a ++ als b
  | .chain _ _ a b c => als a ++ als b ++ als c
  | .isN a => als a
  | .notN a => als a
  | .and es => alss es
  | .or es => alss es
  | .not a => als a
  | .ite _ a b => als a ++ als b
  | .idx a i => als a ++ als i
  | .slc a _ _ => als a
  | .rev a => als a
  | .lst es => alss es
  | .tup es => alss es
  | .bi _ es => alss es
  | .call _ es => alss es
  | .comp _ _ _ ies _ elt => alss ies ++ als elt
  | .isi a _ => als a
  | .lrg a b => als a ++ als b
  | .els _ e => 999999 :: als e
  | .upp a => als a
  | .sorR a => als a
  | .srs a => als a
  | .srp a => als a
  | .srd a => als a
  | .chain3 _ _ _ _ _ _ _ => []
  | .jn _ _ => []
  | .fj _ => []
  | .spl _ _ => []
  | .lix _ _ => []
  | .dgt o i => als o ++ als i
  | .dg1 o i => als o ++ als i
  | .dg2 o i f => als o ++ als i ++ als f
  | .din _ _ _ => []
  | .xis _ _ => []
  | .xat _ _ => []
def alss : List E → List Nat
  | [] => []
  | e :: es => als e ++ alss es
end
/-- a list that it gives is a new one -/
def topf : E → Bool
  | .bin _ _ _ => true
  | .slc _ _ _ => true
  | .rev _ => true
  | .lrg _ _ => true
  | .sorR _ => true
  | .srs _ => true
  | .srp _ => true
  | .srd _ => true
  | .spl _ _ => true
  | .lst _ => true
  | .bi _ _ => true
  | .comp _ _ _ _ _ _ => true
  | _ => false
def Zal (P : Nat → Addr → Prop) (as : List Nat) (H : Hp) (a : Addr) : Prop := (∃ i ∈ as, P i a) ∨ H a = none
theorem Zal.mono {P : Nat → Addr → Prop} {as bs : List Nat} {H H' : Hp} {a : Addr} (h : Zal P as H' a) (s : ∀ i ∈ as, i ∈ bs) (e : Same H H') : Zal P bs H a := by
  rcases h with ⟨i, hi, p⟩ | h
  · exact .inl ⟨i, s i hi, p⟩
  · exact .inr (e.free h)
theorem Zal.fsh {P : Nat → Addr → Prop} {as : List Nat} {H H' : Hp} (e : Same H H') : Fsh H' (Zal P as H) := fun a h => .inr (e.free h)
/-- the slots' values, for reading: P i tells where lists of slot i stand -/
structure Sv (K : Fr) (H : Hp) (P : Nat → Addr → Prop) (ρ : Env) (σ : L2.St) : Prop where
  len : ρ.length ≤ σ.length
  at_ : ∀ (i : Nat) k d, ρ[i]? = some (some (k, d)) → ∃ v, σ[i]? = some (some v) ∧ Rp K H (P i) v d
  shr : ∀ (i : Nat) ds, ρ[i]? = some (some (.ls .sh, .lst ds)) → ∃ p vs, σ[i]? = some (some (.ref p)) ∧ H p = some (.lst vs) ∧ Rps K H (P 999999) vs ds
theorem Sv.ex {K : Fr} {H H' : Hp} {P : Nat → Addr → Prop} {ρ : Env} {σ : L2.St} (h : Sv K H P ρ σ) (e : Same H H') : Sv K H' P ρ σ := ⟨h.len, fun i k d q => by
  obtain ⟨v, h1, h2⟩ := h.at_ i k d q
  exact ⟨v, h1, h2.ex e⟩, fun i ds q => by
  obtain ⟨p, vs, h1, h2, h3⟩ := h.shr i ds q
  exact ⟨p, vs, h1, e p _ h2, h3.ex e⟩⟩
/-- an exception: its class, its own dict -/
def ExcR (K : Fr) (mg : Str → Option Value) (H : Hp) (cls : Value) (dd : Option Addr) (x : Exc) : Prop :=
  ∃ C, mg x.name = some (.ref C) ∧ cls = .ref C ∧ match x.pay with
    | none => dd = none
    | some (f, d) => ∃ dx v, dd = some dx ∧ H dx = some (.xd [(f, v)]) ∧ Rp K H (fun _ => True) v d
/-- what is wished of exceptions, by data -/
def XW (X : Cx) (Wx : WX) (W : Exc → Prop) (σ : L2.St) (H : Hp) : Prop := ∀ x, W x → ∀ cls dd H', Same H H' → ExcR X.K X.mg H' cls dd x → Wx cls dd σ H'
theorem XW.ex {X : Cx} {Wx : WX} {W : Exc → Prop} {σ : L2.St} {H H' : Hp} (h : XW X Wx W σ H) (e : Same H H') : XW X Wx W σ H' := fun x w cls dd H2 s r => h x w cls dd H2 (e.trans s) r
/-- a datum's answer -/
def Ak (K : Fr) (P : Nat → Addr → Prop) (H : Hp) (e : E) (Q : VK) : DK := Bk K (Zal P (als e) H) H (topf e) Q
theorem Bk.up {K : Fr} {Z Z' : Addr → Prop} {H H2 : Hp} {t t2 : Bool} {Q : VK} {d : D} (h : Bk K Z H t Q d) (e : Same H H2) (hz : ∀ a, Z' a → Z a) (ht : t = true → t2 = true) : Bk K Z' H2 t2 Q d := fun v H' s r f => by
  refine h v H' (e.trans s) (r.z hz) fun h1 ds q => ?_
  obtain ⟨p, vs, e1, e2, e3, e4⟩ := f (ht h1) ds q
  exact ⟨p, vs, e1, e.free e2, e3, e4.mo (Mo.ex (Same.refl _)) fun a z => ⟨hz a z.1, z.2⟩⟩
/-- THE READING of an expression by data -/
def VE (X : Cx) (S : Sg) (Wx : WX) (e : E) : TE := fun σ H Q => ∃ (P : Nat → Addr → Prop) (ρ : Env) (W : Exc → Prop), Sv X.K H P ρ σ ∧ XW X Wx W σ H ∧ wpE S W e ρ (Ak X.K P H e Q)
def VT (X : Cx) (S : Sg) (Wx : WX) (e : E) : TT := fun σ H Q => ∃ (P : Nat → Addr → Prop) (ρ : Env) (W : Exc → Prop), Sv X.K H P ρ σ ∧ XW X Wx W σ H ∧ wpE S W e ρ fun d => ∃ b, d = .bl b ∧ ∀ H', Same H H' → Q b H'
def VEs (X : Cx) (S : Sg) (Wx : WX) (es : List E) : TA := fun σ H Q => ∃ (P : Nat → Addr → Prop) (ρ : Env) (W : Exc → Prop), Sv X.K H P ρ σ ∧ XW X Wx W σ H ∧ wpEs S W es ρ fun ds => ∀ vs H', Same H H' → Rps X.K H' (Zal P (alss es) H) vs ds → Q vs H'
section
variable {X : Cx} {S : Sg} {Wx : WX}
theorem PE.imp {e : Expr} {t t' : TE} (h : PE X e t) (i : ∀ σ H Q, t' σ H Q → t σ H Q) : PE X e t' := ⟨fun pins s σ H Q I q => h.run pins s σ H Q I (i σ H Q q)⟩
theorem PT.imp {e : Expr} {t t' : TT} (h : PT X e t) (i : ∀ σ H Q, t' σ H Q → t σ H Q) : PT X e t' := ⟨fun pins s σ H Q I q => h.run pins s σ H Q I (i σ H Q q)⟩
theorem PA.imp {e : List Expr} {t t' : TA} (h : PA X e t) (i : ∀ σ H Q, t' σ H Q → t σ H Q) : PA X e t' := ⟨fun pos pins s σ H Q I q => h.run pos pins s σ H Q I (i σ H Q q)⟩

theorem ve_var {i : Nat} : ∀ σ H Q, VE X S Wx (.var i) σ H Q → tVar i σ H Q := by
  rintro σ H Q ⟨P, ρ, W, sv, xw, w⟩
  unfold wpE at w
  split at w
  · rename_i p hp
    obtain ⟨v, h1, h2⟩ := sv.at_ i p.1 p.2 hp
    exact ⟨v, h1, w v H (Same.refl H) (h2.z fun a h => .inl ⟨i, by simp [als], h⟩) fun e => nomatch e⟩
  · exact w.elim
/-- two, then an operation -/
theorem ve_two {a b e : E} {r : R2} {w : D → D → DK → Prop} {t : Bool} (hw : ∀ W ρ Q, wpE S W e ρ Q → wpE S W a ρ fun x => wpE S W b ρ fun y => w x y Q) (ha : als e = als a ++ als b) (ht : topf e = true → t = true)
    (hm : ∀ x y Q Q', (∀ d, Q d → Q' d) → w x y Q → w x y Q') (hr : ∀ x y H Q (Z : Addr → Prop) dx dy, Fsh H Z → Rp X.K H Z x dx → Rp X.K H Z y dy → w dx dy (Bk X.K Z H t Q) → r x y H Q) :
    ∀ σ H Q, VE X S Wx e σ H Q → tOp r (VE X S Wx a) (VE X S Wx b) σ H Q := by
  rintro σ H Q ⟨P, ρ, W, sv, xw, h⟩
  refine ⟨P, ρ, W, sv, xw, wpE.mono (fun dx hx v1 H1 s1 r1 _ => ?_) (hw W ρ _ h)⟩
  refine ⟨P, ρ, W, sv.ex s1, xw.ex s1, wpE.mono (fun dy hy v2 H2 s2 r2 _ => ?_) hx⟩
  refine hr v1 v2 H2 Q (Zal P (als a ++ als b) H) dx dy (Zal.fsh (s1.trans s2)) ((r1.ex s2).z fun c z => z.mono (fun i hi => List.mem_append_left _ hi) (Same.refl H)) (r2.z fun c z => z.mono (fun i hi => List.mem_append_right _ hi) s1) ?_
  exact hm _ _ _ _ (fun d hd => hd.up (s1.trans s2) (fun c z => by rw [ha]; exact z) ht) hy
theorem ve_bin {o : Bop} {a b : E} {x y : Expr} {pos : Pos} (ha : PE X x (VE X S Wx a)) (hb : PE X y (VE X S Wx b)) : PE X (.BinOp x (bopOf o) y pos) (VE X S Wx (.bin o a b)) :=
  PE.imp (pe_op (op_binD o) ha hb) (ve_two (w := binW o) (t := true) (fun W ρ Q h => by unfold wpE at h; exact h) (by simp [als]) (fun h => h) (fun _ _ _ _ q h => binW.mono q h) fun x y H Q Z dx dy f rx ry w => ⟨Z, dx, dy, f, rx, ry, w⟩)
theorem ve_idx {a b : E} {x y : Expr} {pos : Pos} (ha : PE X x (VE X S Wx a)) (hb : PE X y (VE X S Wx b)) (hp : PlainIx y) : PE X (.Subscript x y pos) (VE X S Wx (.idx a b)) :=
  PE.imp (pe_ix ix_D ha hb hp) (ve_two (w := idxW) (t := false) (fun W ρ Q h => by unfold wpE at h; exact h) (by simp [als]) (fun h => nomatch h) (fun _ _ _ _ q h => idxW.mono q h) fun x y H Q Z dx dy f rx ry w => ⟨Z, dx, dy, f, rx, ry, w⟩)
/-- an element of a slot's own list, whose elements are nobody's -/
theorem ve_els {i : Nat} {b : E} {x y : Expr} {pos : Pos} (ha : PE X x (tVar i)) (hb : PE X y (VE X S Wx b)) (hp : PlainIx y) : PE X (.Subscript x y pos) (VE X S Wx (.els i b)) := by
  refine PE.imp (pe_ix ix_seq ha hb hp) ?_
  rintro σ H Q ⟨P, ρ, W, sv, xw, h⟩
  unfold wpE at h
  split at h
  · rename_i ds e
    obtain ⟨p, vs, h1, h2, h3⟩ := sv.shr i ds e
    refine ⟨.ref p, h1, P, ρ, W, sv, xw, wpE.mono (fun d hd v1 H1 s1 r1 _ => ?_) h⟩
    cases d <;> simp only [idxW] at hd
    cases r1
    obtain ⟨d, e2, q⟩ := hd
    obtain ⟨v, e3, rv⟩ := atI_rps (h3.ex s1) e2
    refine .inl ⟨p, vs, _, v, rfl, rfl, SqL.of (s1 p _ h2), e3, ?_⟩
    exact (Bk.up q s1 (fun a z => z) (fun h => nomatch h) : Bk X.K (Zal P (als (.els i b)) H) H1 false Q _).at (rv.z fun a z => .inl ⟨999999, by simp [als], z⟩)
  · exact h.elim
theorem ve_cmp {o : Cop} {a b : E} {x y : Expr} {pos : Pos} (hu : X.A.units + 65 < cLine) (ha : PE X x (VE X S Wx a)) (hb : PE X y (VE X S Wx b)) (hm : behindInMarks (copOf o) y = false) : PE X (.Compare x [copOf o] [y] pos) (VE X S Wx (.cmp o a b)) :=
  PE.imp (pe_cmpR (op_cmpD hu o) ha hb hm) (ve_two (w := cmpW o) (t := true) (fun W ρ Q h => by unfold wpE at h; exact h) (by simp [als]) (fun h => rfl) (fun _ _ _ _ q h => cmpW.mono q h) fun x y H Q Z dx dy f rx ry w => ⟨Z, dx, dy, f, rx, ry, w⟩)
/-- a test whose value is a bool -/
theorem vt_of_ve {e : E} : ∀ σ H Q, VT X S Wx e σ H Q → VE X S Wx e σ H fun x H1 => ∃ k, x = .bl k ∧ Q k H1 := by
  rintro σ H Q ⟨P, ρ, W, sv, xw, h⟩
  refine ⟨P, ρ, W, sv, xw, wpE.mono (fun d ⟨b, e, q⟩ v H1 s1 r1 _ => ?_) h⟩
  subst e
  cases r1
  exact ⟨b, rfl, q H1 s1⟩
theorem vt_cmp {o : Cop} {a b : E} {x y : Expr} {pos : Pos} (hu : X.A.units + 65 < cLine) (ha : PE X x (VE X S Wx a)) (hb : PE X y (VE X S Wx b)) (hm : behindInMarks (copOf o) y = false) : PT X (.Compare x [copOf o] [y] pos) (VT X S Wx (.cmp o a b)) :=
  PT.imp (pt_cmpR (op_cmpD hu o) ha hb hm) fun σ H Q h => ve_two (w := cmpW o) (t := true) (fun W ρ Q h => by unfold wpE at h; exact h) (by simp [als]) (fun h => rfl) (fun _ _ _ _ q h => cmpW.mono q h) (fun x y H Q Z dx dy f rx ry w => ⟨Z, dx, dy, f, rx, ry, w⟩) σ H _ (vt_of_ve σ H Q h)
theorem vt_val {e : E} {x : Expr} (h : PE X x (VE X S Wx e)) (he : ∀ whole, isTrue x X.env whole = (do let v ← whole; standAt x.pos; holding [v] (truthy v))) : PT X x (VT X S Wx e) :=
  PT.imp (pt_val h he) fun σ H Q h => vt_of_ve σ H Q h
theorem ve_neg {a : E} {x : Expr} {pos : Pos} (ha : PE X x (VE X S Wx a)) : PE X (.UnaryOp .USub x pos) (VE X S Wx (.neg a)) := by
  refine PE.imp (pe_un un_neg ha) ?_
  rintro σ H Q ⟨P, ρ, W, sv, xw, h⟩
  refine ⟨P, ρ, W, sv, xw, wpE.mono (fun d hd v1 H1 s1 r1 _ => ?_) (by unfold wpE at h; exact h)⟩
  cases d <;> simp only [negW] at hd
  cases r1
  exact ⟨_, rfl, (Bk.up hd s1 (fun a z => z) fun e => nomatch e : Bk X.K _ H1 true Q _).at (.int _)⟩
theorem ve_isN {a : E} {x : Expr} {pos : Pos} {j : Nat} {p2 : Pos} (ha : PE X x (VE X S Wx a)) : PE X (.Compare x [.Is] [.Constant .none j p2] pos) (VE X S Wx (.isN a)) := by
  refine PE.imp (pe_cmp (pc_isN ha)) ?_
  rintro σ H Q ⟨P, ρ, W, sv, xw, h⟩
  refine ⟨P, ρ, W, sv, xw, wpE.mono (fun d hd v1 H1 s1 r1 _ => ?_) (by unfold wpE at h; exact h)⟩
  have q := (Bk.up hd s1 (fun a z => z) fun e => nomatch e : Bk X.K (Zal P (als a) H) H1 true Q _).at (.bl _)
  cases r1 <;> exact q
theorem ve_notN {a : E} {x : Expr} {pos : Pos} {j : Nat} {p2 : Pos} (ha : PE X x (VE X S Wx a)) : PE X (.Compare x [.IsNot] [.Constant .none j p2] pos) (VE X S Wx (.notN a)) := by
  refine PE.imp (pe_cmp (pc_notN ha)) ?_
  rintro σ H Q ⟨P, ρ, W, sv, xw, h⟩
  refine ⟨P, ρ, W, sv, xw, wpE.mono (fun d hd v1 H1 s1 r1 _ => ?_) (by unfold wpE at h; exact h)⟩
  have q := (Bk.up hd s1 (fun a z => z) fun e => nomatch e : Bk X.K (Zal P (als a) H) H1 true Q _).at (.bl _)
  cases r1 <;> exact q
theorem vt_isN {a : E} {x : Expr} {pos : Pos} {j : Nat} {p2 : Pos} (ha : PE X x (VE X S Wx a)) : PT X (.Compare x [.Is] [.Constant .none j p2] pos) (VT X S Wx (.isN a)) := by
  refine PT.imp (pt_cmp (pc_isN ha)) fun σ H Q h => ?_
  obtain ⟨P, ρ, W, sv, xw, h⟩ := vt_of_ve σ H Q h
  refine ⟨P, ρ, W, sv, xw, wpE.mono (fun d hd v1 H1 s1 r1 _ => ?_) (by unfold wpE at h; exact h)⟩
  have q := (Bk.up hd s1 (fun a z => z) fun e => nomatch e : Bk X.K (Zal P (als a) H) H1 true _ _).at (.bl _)
  cases r1 <;> exact q
theorem vt_notN {a : E} {x : Expr} {pos : Pos} {j : Nat} {p2 : Pos} (ha : PE X x (VE X S Wx a)) : PT X (.Compare x [.IsNot] [.Constant .none j p2] pos) (VT X S Wx (.notN a)) := by
  refine PT.imp (pt_cmp (pc_notN ha)) fun σ H Q h => ?_
  obtain ⟨P, ρ, W, sv, xw, h⟩ := vt_of_ve σ H Q h
  refine ⟨P, ρ, W, sv, xw, wpE.mono (fun d hd v1 H1 s1 r1 _ => ?_) (by unfold wpE at h; exact h)⟩
  have q := (Bk.up hd s1 (fun a z => z) fun e => nomatch e : Bk X.K (Zal P (als a) H) H1 true _ _).at (.bl _)
  cases r1 <;> exact q
/-- not -/
theorem ve_not {a : E} {x : Expr} {pos : Pos} (ha : PE X x (VE X S Wx a)) : PE X (.UnaryOp .Not x pos) (VE X S Wx (.not a)) := by
  refine PE.imp (pe_not ha) ?_
  rintro σ H Q ⟨P, ρ, W, sv, xw, h⟩
  refine ⟨P, ρ, W, sv, xw, wpE.mono (fun d hd v1 H1 s1 r1 _ => ?_) (by unfold wpE at h; exact h)⟩
  obtain ⟨b, rfl, q⟩ := bW.of hd
  cases r1
  exact ⟨b, rfl, (Bk.up q s1 (fun a z => z) fun e => nomatch e : Bk X.K (Zal P (als a) H) H1 true Q _).at (.bl _)⟩
theorem vt_not {a : E} {x : Expr} {pos : Pos} (ha : PT X x (VT X S Wx a)) : PT X (.UnaryOp .Not x pos) (VT X S Wx (.not a)) := by
  refine PT.imp (pt_not ha) ?_
  rintro σ H Q ⟨P, ρ, W, sv, xw, h⟩
  refine ⟨P, ρ, W, sv, xw, wpE.mono (fun d hd => ?_) (by unfold wpE at h; exact h)⟩
  obtain ⟨b, rfl, b2, e, q⟩ := bW.of hd
  cases e
  exact ⟨b, rfl, q⟩
theorem ve_ite {c a b : E} {x y z : Expr} {pos : Pos} (hc : PT X x (VT X S Wx c)) (ha : PE X y (VE X S Wx a)) (hb : PE X z (VE X S Wx b)) : PE X (.IfExp x y z pos) (VE X S Wx (.ite c a b)) := by
  refine PE.imp (pe_ifExp hc ha hb) ?_
  rintro σ H Q ⟨P, ρ, W, sv, xw, h⟩
  refine ⟨P, ρ, W, sv, xw, wpE.mono (fun d hd => ?_) (by unfold wpE at h; exact h)⟩
  obtain ⟨k, rfl, q⟩ := bW.of hd
  refine ⟨k, rfl, fun H1 s1 => ?_⟩
  cases k with
  | true => exact ⟨P, ρ, W, sv.ex s1, xw.ex s1, wpE.mono (fun d hd => hd.up s1 (fun a z => z.mono (fun i hi => by unfold als; exact List.mem_append_left _ hi) (Same.refl H1) |> fun z => z.mono (fun _ h => h) s1) fun e => nomatch e) q⟩
  | false => exact ⟨P, ρ, W, sv.ex s1, xw.ex s1, wpE.mono (fun d hd => hd.up s1 (fun a z => z.mono (fun i hi => by unfold als; exact List.mem_append_right _ hi) (Same.refl H1) |> fun z => z.mono (fun _ h => h) s1) fun e => nomatch e) q⟩
end
end SV

set_option Elab.async false
set_option linter.all false
set_option maxRecDepth 100000
set_option maxHeartbeats 4000000
namespace SV
open PySem PySem.Spec PyProof.Rows L2
section
variable {X : Cx} {S : Sg} {Wx : WX}
theorem ve_int {n : Int} {j : Nat} {pos : Pos} : PE X (.Constant (.int n) j pos) (VE X S Wx (.int n)) := by
  refine PE.imp pe_int ?_
  rintro σ H Q ⟨P, ρ, W, sv, xw, h⟩
  exact (show Bk X.K _ H _ Q (.int n) from by unfold wpE at h; exact h).at (.int _) (fun _ _ e => nomatch e)
theorem ve_str {n : Str} {j : Nat} {pos : Pos} : PE X (.Constant (.str n) j pos) (VE X S Wx (.str n)) := by
  refine PE.imp pe_str ?_
  rintro σ H Q ⟨P, ρ, W, sv, xw, h⟩
  exact (show Bk X.K _ H _ Q (.str n) from by unfold wpE at h; exact h).at (.str _) (fun _ _ e => nomatch e)
theorem ve_bl {n : Bool} {j : Nat} {pos : Pos} : PE X (.Constant (.bool n) j pos) (VE X S Wx (.bl n)) := by
  refine PE.imp pe_bl ?_
  rintro σ H Q ⟨P, ρ, W, sv, xw, h⟩
  exact (show Bk X.K _ H _ Q (.bl n) from by unfold wpE at h; exact h).at (.bl _) (fun _ _ e => nomatch e)
theorem ve_non {j : Nat} {pos : Pos} : PE X (.Constant .none j pos) (VE X S Wx .non) := by
  refine PE.imp pe_non ?_
  rintro σ H Q ⟨P, ρ, W, sv, xw, h⟩
  exact (show Bk X.K _ H _ Q .non from by unfold wpE at h; exact h).at .non (fun _ _ e => nomatch e)
/-- a module's constant: what its name holds -/
def GlOk (X : Cx) (S : Sg) : Prop := ∀ x d, S.G x = some d → ∃ u v, X.mg x = some u ∧ RelV v u ∧ (∀ H, Rp X.K H (fun _ => False) v d) ∧ ∀ ds, d ≠ .lst ds
theorem ve_glo {x : Str} {pos : Pos} (g : GlOk X S) (hg : Gl X x) (hd : (x == ("__debug__" : Str)) = false) : PE X (.Name x pos) (VE X S Wx (.glo x)) := by
  refine ⟨fun pins s σ H Q I q => ?_⟩
  obtain ⟨P, ρ, W, sv, xw, h⟩ := q
  unfold wpE at h
  split at h
  · rename_i d hd2
    obtain ⟨u, v, hm, r, hr, hn⟩ := g x d hd2
    refine (pe_glob hg hm r hd).run pins s σ H Q I ?_
    exact Bk.at h ((hr H).z fun a z => z.elim) (fun _ ds e => hn ds e)
  · exact h.elim
/-! lists of arguments -/
theorem vs_nil : PA X [] (VEs X S Wx []) := by
  refine PA.imp pa_nil ?_
  rintro σ H Q ⟨P, ρ, W, sv, xw, h⟩
  unfold wpEs at h
  exact h [] H (Same.refl H) .nil
theorem vs_cons {e : E} {es : List E} {x : Expr} {xs : List Expr} (ha : PE X x (VE X S Wx e)) (hb : PA X xs (VEs X S Wx es)) (hs : starEach (x :: xs) X.env = (false, eval x X.env) :: starEach xs X.env) : PA X (x :: xs) (VEs X S Wx (e :: es)) := by
  refine PA.imp (pa_cons ha hb hs) ?_
  rintro σ H Q ⟨P, ρ, W, sv, xw, h⟩
  refine ⟨P, ρ, W, sv, xw, wpE.mono (fun dx hx v1 H1 s1 r1 _ => ?_) (by unfold wpEs at h; exact h)⟩
  refine ⟨P, ρ, W, sv.ex s1, xw.ex s1, wpEs.mono (fun ds hy vs H2 s2 r2 => ?_) hx⟩
  refine hy (v1 :: vs) H2 (s1.trans s2) (.cons ?_ ?_)
  · exact (r1.ex s2).z fun c z => z.mono (fun i hi => by unfold alss; exact List.mem_append_left _ hi) (Same.refl H)
  · exact r2.mo (Mo.ex (Same.refl _)) fun c z => z.mono (fun i hi => by unfold alss; exact List.mem_append_right _ hi) s1
theorem ve_lst {es : List E} {xs : List Expr} {pos : Pos} (h : PA X xs (VEs X S Wx es)) : PE X (.List xs pos) (VE X S Wx (.lst es)) := by
  refine PE.imp (pe_lst h) ?_
  rintro σ H Q ⟨P, ρ, W, sv, xw, h⟩
  refine ⟨P, ρ, W, sv, xw, wpEs.mono (fun ds hx vs H1 s1 r1 => ?_) (by unfold wpE at h; exact h)⟩
  refine ⟨by rw [r1.1]; exact hx.1, fun p hp => ?_⟩
  exact (Bk.up hx.2 s1 (fun a z => z) (fun h => h) : Bk X.K (Zal P (als (.lst es)) H) H1 (topf (.lst es)) Q (.lst ds)).new (fun a n => .inr (s1.free n)) (r1.mo (Mo.ex (Same.refl _)) fun c z => z.mono (fun i hi => by unfold als; exact hi) (Same.refl H)) hp
theorem ve_tup {es : List E} {xs : List Expr} {k : Nat} {pos : Pos} (h : PA X xs (VEs X S Wx es)) : PE X (.Tuple xs k pos) (VE X S Wx (.tup es)) := by
  refine PE.imp (pe_tup h) ?_
  rintro σ H Q ⟨P, ρ, W, sv, xw, h⟩
  refine ⟨P, ρ, W, sv, xw, wpEs.mono (fun ds hx vs H1 s1 r1 => ?_) (by unfold wpE at h; exact h)⟩
  refine ⟨by rw [r1.1]; exact hx.1, fun p hp => ?_⟩
  exact (Bk.up hx.2 s1 (fun a z => z) (fun h => h) : Bk X.K (Zal P (als (.tup es)) H) H1 (topf (.tup es)) Q (.tup ds)).newT (r1.mo (Mo.ex (Same.refl _)) fun c z => z.mono (fun i hi => by unfold als; exact hi) (Same.refl H)) hp
theorem ve_biG {b : Bi} {es : List E} {xs : List Expr} {X' : Cx} (f : TE → Prop) (hf : f (tCB (fun xs H Q => ∃ (Z : Addr → Prop) (ds : List D), Fsh H Z ∧ Rps X.K H Z xs ds ∧ biW b ds (Bk X.K Z H true Q)) (VEs X S Wx es)))
    (imp : ∀ t t' : TE, (∀ σ H Q, t' σ H Q → t σ H Q) → f t → f t') : f (VE X S Wx (.bi b es)) := by
  refine imp _ _ ?_ hf
  rintro σ H Q ⟨P, ρ, W, sv, xw, h⟩
  refine ⟨P, ρ, W, sv, xw, wpEs.mono (fun ds hx vs H1 s1 r1 => ?_) (by unfold wpE at h; exact h)⟩
  exact ⟨Zal P (alss es) H, ds, Zal.fsh s1, r1, biW.mono (fun d hd => Bk.up hd s1 (fun a z => by unfold als; exact z) (fun h => h)) hx⟩
def biTy : Bi → Bool
  | .list => true
  | .tuple => true
  | .int1 => true
  | .str1 => true
  | _ => false
theorem noStars {x : Expr} {xs : List Expr} {pos : Pos} {env : L2.St} : True := trivial
theorem ve_bi {b : Bi} {e : E} {es : List E} {x : Expr} {xs : List Expr} {p pos : Pos} (hc : X.calm = true) (hg : Gl X (biName b)) (hm : X.mg (biName b) = none) (ha : PA X (x :: xs) (VEs X S Wx (e :: es)))
    (he : starEach (x :: xs) X.env = (false, eval x X.env) :: starEach xs X.env) (hpl : (backTo pos (starEach xs X.env)).any (·.1) = false) : PE X (.Call (.Name (biName b) p) (x :: xs) [] pos) (VE X S Wx (.bi b (e :: es))) := by
  refine ve_biG (X' := X) (xs := xs) (fun t => PE X (.Call (.Name (biName b) p) (x :: xs) [] pos) t) ?_ (fun _ _ i h => PE.imp h i)
  cases b
  · exact pe_callB (bi_D hc .len) hg hm (by decide +kernel) ha (by decide) (by decide) he hpl
  · exact pe_callB (bi_D hc .sum) hg hm (by decide +kernel) ha (by decide) (by decide) he hpl
  · exact pe_callTy (bi_D hc .list) hg hm (by decide +kernel) ha (by decide) (by decide) he hpl
  · exact pe_callB (bi_D hc .max2) hg hm (by decide +kernel) ha (by decide) (by decide) he hpl
  · exact pe_callB (bi_D hc .min2) hg hm (by decide +kernel) ha (by decide) (by decide) he hpl
  · exact pe_callB (bi_D hc .max1) hg hm (by decide +kernel) ha (by decide) (by decide) he hpl
  · exact pe_callB (bi_D hc .min1) hg hm (by decide +kernel) ha (by decide) (by decide) he hpl
  · exact pe_callTy (bi_D hc .tuple) hg hm (by decide +kernel) ha (by decide) (by decide) he hpl
  · exact pe_callTy (bi_D hc .int1) hg hm (by decide +kernel) ha (by decide) (by decide) he hpl
  · exact pe_callTy (bi_D hc .str1) hg hm (by decide +kernel) ha (by decide) (by decide) he hpl
  · exact pe_callB (bi_D hc .all) hg hm (by decide +kernel) ha (by decide) (by decide) he hpl
  · exact pe_callB (bi_D hc .any) hg hm (by decide +kernel) ha (by decide) (by decide) he hpl
  · exact pe_callB (bi_D hc .sorted) hg hm (by decide +kernel) ha (by decide) (by decide) he hpl
/-! slices -/
theorem ve_rev {a : E} {x : Expr} {k : Nat} {p1 p2 p3 pos : Pos} (ha : PE X x (VE X S Wx a)) : PE X (.Subscript x (.Slice none none (some (.UnaryOp .USub (.Constant (.int 1) k p1) p2)) p3) pos) (VE X S Wx (.rev a)) := by
  refine PE.imp (pe_revL ha) ?_
  rintro σ H Q ⟨P, ρ, W, sv, xw, h⟩
  refine ⟨P, ρ, W, sv, xw, wpE.mono (fun d hd v1 H1 s1 r1 _ => ?_) (by unfold wpE at h; exact h)⟩
  cases d <;> simp only [revW] at hd
  obtain ⟨c, vs, rfl, hc, rc⟩ := r1.lstE
  refine ⟨c, vs, rfl, SqL.of hc, fun p hp => ?_⟩
  exact (Bk.up hd s1 (fun a z => z) (fun h => h) : Bk X.K (Zal P (als (.rev a)) H) H1 true Q _).new (Zal.fsh s1) rc.rev hp
/-- a part of a slice -/
theorem po_E {es : List E} {x : Option Expr} (h : match es, x with | [], none => True | [e], some y => PE X y (VE X S Wx e) | _, _ => False) :
    PO X x fun σ H Q => ∃ (P : Nat → Addr → Prop) (ρ : Env) (W : Exc → Prop), Sv X.K H P ρ σ ∧ XW X Wx W σ H ∧ wpEs S W es ρ fun ds => ints1 ds fun o => ∀ H', Same H H' → Q o H' := by
  match es, x, h with
  | [], none, _ =>
    refine ⟨fun pins s σ H Q I q => (po_none).run pins s σ H Q I ?_⟩
    obtain ⟨P, ρ, W, sv, xw, w⟩ := q
    unfold wpEs at w
    exact w H (Same.refl H)
  | [e], some y, h =>
    refine ⟨fun pins s σ H Q I q => (po_some (show PE X y (VE X S Wx e) from h)).run pins s σ H Q I ?_⟩
    obtain ⟨P, ρ, W, sv, xw, w⟩ := q
    refine ⟨P, ρ, W, sv, xw, wpE.mono (fun d hd v1 H1 s1 r1 _ => ?_) (by unfold wpEs at w; exact w)⟩
    unfold wpEs at hd
    cases d <;> simp only [ints1] at hd
    cases r1
    exact ⟨_, rfl, hd H1 s1⟩
theorem ve_slc {a : E} {lo hi : List E} {x : Expr} {l h : Option Expr} {p2 pos : Pos} (ha : PE X x (VE X S Wx a)) (hl : match lo, l with | [], none => True | [e], some y => PE X y (VE X S Wx e) | _, _ => False)
    (hh : match hi, h with | [], none => True | [e], some y => PE X y (VE X S Wx e) | _, _ => False) : PE X (.Subscript x (.Slice l h none p2) pos) (VE X S Wx (.slc a lo hi)) := by
  refine PE.imp (pe_slice sl_D ha (po_E hl) (po_E hh)) ?_
  rintro σ H Q ⟨P, ρ, W, sv, xw, h⟩
  refine ⟨P, ρ, W, sv, xw, wpE.mono (fun d hd v1 H1 s1 r1 _ => ?_) (by unfold wpE at h; exact h)⟩
  refine ⟨P, ρ, W, sv.ex s1, xw.ex s1, wpEs.mono (fun ls hls => ints1.mono (fun o w H2 s2 => ?_) hls) hd⟩
  refine ⟨P, ρ, W, sv.ex (s1.trans s2), xw.ex (s1.trans s2), wpEs.mono (fun hs hhs => ints1.mono (fun o2 w2 H3 s3 => ?_) hhs) w⟩
  exact ⟨Zal P (als a) H, d, Zal.fsh ((s1.trans s2).trans s3), r1.ex (s2.trans s3), slcW.mono (Q := Ak X.K P H (.slc a lo hi) Q) (fun d hd => Bk.up hd ((s1.trans s2).trans s3) (fun a z => by unfold als; exact z) (fun h => h)) w2⟩
theorem rg_rps {Z : Addr → Prop} {K : Fr} {H : Hp} (i j : Int) : Rps K H Z (rgV i j) ((List.range (j - i).toNat).map fun k : Nat => D.int (i + (k : Nat))) := by
  have e1 : rgV i j = ((List.range (j - i).toNat).map fun k : Nat => i + (k : Int)).map V.int := by rw [List.map_map]; rfl
  have e2 : ((List.range (j - i).toNat).map fun k : Nat => D.int (i + (k : Nat))) = ((List.range (j - i).toNat).map fun k : Nat => i + (k : Int)).map D.int := by rw [List.map_map]; rfl
  rw [e1, e2]
  exact ints_rps _
theorem ve_lrg {a b : E} {x y : Expr} {p p2 pos2 pos : Pos} (hc : X.calm = true) (hg : Gl X "list") (hm : X.mg "list" = none) (hg2 : Gl X "range") (hm2 : X.mg "range" = none) (ha : PE X x (VE X S Wx a)) (hb : PE X y (VE X S Wx b)) (h1 : starEach [x, y] X.env = (false, eval x X.env) :: starEach [y] X.env) (h2 : starEach [y] X.env = (false, eval y X.env) :: starEach [] X.env) (h3 : (backTo pos2 (starEach [y] X.env)).any (·.1) = false) :
    PE X (.Call (.Name "list" p) [.Call (.Name "range" p2) [x, y] [] pos2] [] pos) (VE X S Wx (.lrg a b)) := by
  refine PE.imp (pe_listRg hc hg hm (prg_2 hg2 hm2 ha hb h1 h2 h3)) ?_
  rintro σ H Q ⟨P, ρ, W, sv, xw, h⟩
  refine ⟨P, ρ, W, sv, xw, wpE.mono (fun d hd v1 H1 s1 r1 _ => ?_) (by unfold wpE at h; exact h)⟩
  refine ⟨P, ρ, W, sv.ex s1, xw.ex s1, wpE.mono (fun d2 hd2 v2 H2 s2 r2 _ => ?_) hd⟩
  unfold rgW at hd2
  split at hd2
  · cases r1; cases r2
    refine ⟨_, _, rfl, rfl, hd2.1, fun q hq => ?_⟩
    exact (Bk.up hd2.2 (s1.trans s2) (fun a z => z) (fun h => h) : Bk X.K (Zal P (als (.lrg a b)) H) H2 true Q _).new (Zal.fsh (s1.trans s2)) (rg_rps _ _) hq
  · exact hd2.elim
/-! calls of defs -/
def spV (K : Fr) (mg : Str → Option Value) (sp : Spec1) : Sp := fun vs H Q E => ∃ (Z : Addr → Prop) (ds : List D) (o : Out), Fsh H Z ∧ Rps K H Z vs ds ∧ sp ds o ∧ match o with
  | .ret k d => ∀ v H' (c : Co), Same H H' → (∀ a, c a ≠ none → H a = none ∧ Mut (H' a)) → Rk K H' Z c k [0] v d → Q v H'
  | .exc x => ∀ cls dd H', Same H H' → ExcR K mg H' cls dd x → E cls dd H'
  | .any P Ex => (∀ k d, P k d → ∀ v H' (c : Co), Same H H' → (∀ a, c a ≠ none → H a = none ∧ Mut (H' a)) → Rk K H' Z c k [0] v d → Q v H') ∧ ∀ x, Ex x → ∀ cls dd H', Same H H' → ExcR K mg H' cls dd x → E cls dd H'
structure CallOk (X : Cx) (f : Str) (sp : Spec1) : Prop where
  ex : ∃ (fa : Addr) (fd : FuncData) (ps : List Str) (k : Nat), FnOk X.prog X.w X.K X.mg X.base (L2.CX X.prog X.w) k fa fd ps (spV X.K X.mg sp) ∧ Room k X.A ∧ X.mg f = some (.ref fa) ∧ PySem.W.keepIn X.K (.ref fa) = true ∧ Binds X.K fd ps []
theorem Rk.all {K : Fr} {H H0 : Hp} {Z : Addr → Prop} {c : Co} {k : Kd} {pos : List Nat} {v : V} {d : D} (f : Fsh H0 Z) (hc : ∀ a, c a ≠ none → H0 a = none ∧ Mut (H a)) (h : Rk K H Z c k pos v d) : Rp K H Z v d :=
  h.rp.z fun a z => by
    rcases z with z | ⟨s, z⟩
    · exact z.1
    · exact f a (hc a (by rw [z]; exact fun e => nomatch e)).1
theorem ve_call {f : Str} {sp : Spec1} {e : E} {es : List E} {x : Expr} {xs : List Expr} {p pos : Pos} (co : CallOk X f sp) (hT : S.T f = some sp) (tk : Takes X Wx) (hg : Gl X f) (ha : PA X (x :: xs) (VEs X S Wx (e :: es)))
    (hdb : (f == ("__debug__" : Str)) = false) (he : starEach (x :: xs) X.env = (false, eval x X.env) :: starEach xs X.env) (hpl : (backTo pos (starEach xs X.env)).any (·.1) = false) : PE X (.Call (.Name f p) (x :: xs) [] pos) (VE X S Wx (.call f (e :: es))) := by
  obtain ⟨fa, fd, ps, k, F, hr, hm, hk, hb⟩ := co.ex
  refine PE.imp (pe_callS F hr hg hm hk hb (fun σ => passAt tk σ) ha hdb he hpl) ?_
  rintro σ H Q ⟨P, ρ, W, sv, xw, h⟩
  unfold wpE at h
  rw [hT] at h
  refine ⟨P, ρ, W, sv, xw, wpEs.mono (fun ds hx vs H1 s1 r1 => ?_) h⟩
  obtain ⟨o, ho, q⟩ := hx
  refine ⟨Zal P (alss (e :: es)) H, ds, o, Zal.fsh s1, r1, ho, ?_⟩
  cases o with
  | ret k d =>
    intro v H' c s2 hc rk
    exact q v H' (s1.trans s2) (by unfold als; exact Rk.all (Zal.fsh s1) hc rk) (fun e => nomatch e)
  | exc x => exact fun cls dd H' s2 r => xw x q cls dd H' (s1.trans s2) r
  | any P' E' => exact ⟨fun k d p v H' c s2 hc rk => q.1 k d p v H' (s1.trans s2) (by unfold als; exact Rk.all (Zal.fsh s1) hc rk) (fun e => nomatch e), fun x px cls dd H' s2 r => xw x (q.2 x px) cls dd H' (s1.trans s2) r⟩
/-! and, or -/
def VB (X : Cx) (S : Sg) (Wx : WX) (conj : Bool) (es : List E) : TE := fun σ H Q => ∃ (P : Nat → Addr → Prop) (ρ : Env) (W : Exc → Prop), Sv X.K H P ρ σ ∧ XW X Wx W σ H ∧ wpB S W conj es ρ (Bk X.K (Zal P (alss es) H) H false Q)
def VBT (X : Cx) (S : Sg) (Wx : WX) (conj : Bool) (es : List E) : TT := fun σ H Q => ∃ (P : Nat → Addr → Prop) (ρ : Env) (W : Exc → Prop), Sv X.K H P ρ σ ∧ XW X Wx W σ H ∧ wpB S W conj es ρ fun d => ∃ b, d = .bl b ∧ ∀ H', Same H H' → Q b H'
theorem vb_one {conj : Bool} {op : BoolOp} {e : E} {x : Expr} {pos : Pos} (h : PE X x (VE X S Wx e)) : PE X (.BoolOp op [x] pos) (VB X S Wx conj [e]) := by
  refine PE.imp (pe_one h) ?_
  rintro σ H Q ⟨P, ρ, W, sv, xw, h⟩
  have h2 : wpE S W e ρ (Bk X.K (Zal P (alss [e]) H) H false Q) := by unfold wpB at h; exact h
  refine ⟨P, ρ, W, sv, xw, wpE.mono (fun d hd => ?_) h2⟩
  exact Bk.up hd (Same.refl H) (fun a z => z.mono (fun i hi => by unfold alss; exact List.mem_append_left _ hi) (Same.refl H)) fun e => nomatch e
theorem vb_tl {conj : Bool} {e f : E} {es : List E} {σ : L2.St} {H : Hp} {Q : VK} (h : VB X S Wx conj (e :: f :: es) σ H Q) : VE X S Wx e σ H fun x H1 => ∃ c, x = .bl c ∧ if c = conj then VB X S Wx conj (f :: es) σ H1 Q else Q (.bl c) H1 := by
  obtain ⟨P, ρ, W, sv, xw, h⟩ := h
  refine ⟨P, ρ, W, sv, xw, wpE.mono (fun d hd v1 H1 s1 r1 _ => ?_) (by unfold wpB at h; exact h)⟩
  obtain ⟨c, rfl, q⟩ := bW.of hd
  cases r1
  refine ⟨c, rfl, ?_⟩
  split at q
  · rename_i e'
    rw [if_pos e']
    exact ⟨P, ρ, W, sv.ex s1, xw.ex s1, wpB.mono (fun d hd => hd.up s1 (fun a z => by
      refine (z.mono (fun i hi => ?_) (Same.refl H1)).mono (fun _ h => h) s1
      unfold alss; exact List.mem_append_right _ hi) fun e => nomatch e) q⟩
  · rename_i e'
    rw [if_neg e']
    exact (Bk.up q s1 (fun a z => z) fun e => nomatch e : Bk X.K (Zal P (alss (e :: f :: es)) H) H1 true Q _).at (.bl _)
theorem vb_and {e f : E} {es : List E} {x y : Expr} {ys : List Expr} {pos : Pos} (ha : PE X x (VE X S Wx e)) (hb : PE X (.BoolOp .And (y :: ys) pos) (VB X S Wx true (f :: es))) : PE X (.BoolOp .And (x :: y :: ys) pos) (VB X S Wx true (e :: f :: es)) := by
  refine PE.imp (pe_and ha hb) fun σ H Q h => ?_
  obtain ⟨P, ρ, W, sv, xw, h⟩ := vb_tl h
  refine ⟨P, ρ, W, sv, xw, wpE.mono (fun d hd v1 H1 s1 r1 t1 => ?_) h⟩
  obtain ⟨c, e, q⟩ := hd v1 H1 s1 r1 t1
  refine ⟨c, e, ?_⟩
  cases c with
  | true => exact q
  | false => exact q
theorem vb_or {e f : E} {es : List E} {x y : Expr} {ys : List Expr} {pos : Pos} (ha : PE X x (VE X S Wx e)) (hb : PE X (.BoolOp .Or (y :: ys) pos) (VB X S Wx false (f :: es))) : PE X (.BoolOp .Or (x :: y :: ys) pos) (VB X S Wx false (e :: f :: es)) := by
  refine PE.imp (pe_or ha hb) fun σ H Q h => ?_
  obtain ⟨P, ρ, W, sv, xw, h⟩ := vb_tl h
  refine ⟨P, ρ, W, sv, xw, wpE.mono (fun d hd v1 H1 s1 r1 t1 => ?_) h⟩
  obtain ⟨c, e, q⟩ := hd v1 H1 s1 r1 t1
  refine ⟨c, e, ?_⟩
  cases c with
  | true => exact q
  | false => exact q
theorem ve_and {es : List E} {xs : List Expr} {pos : Pos} (h : PE X (.BoolOp .And xs pos) (VB X S Wx true es)) : PE X (.BoolOp .And xs pos) (VE X S Wx (.and es)) := by
  refine PE.imp h ?_
  rintro σ H Q ⟨P, ρ, W, sv, xw, h⟩
  exact ⟨P, ρ, W, sv, xw, by unfold wpE at h; exact h⟩
theorem ve_or {es : List E} {xs : List Expr} {pos : Pos} (h : PE X (.BoolOp .Or xs pos) (VB X S Wx false es)) : PE X (.BoolOp .Or xs pos) (VE X S Wx (.or es)) := by
  refine PE.imp h ?_
  rintro σ H Q ⟨P, ρ, W, sv, xw, h⟩
  exact ⟨P, ρ, W, sv, xw, by unfold wpE at h; exact h⟩
/-! .. as tests -/
theorem PW.imp {e : Expr} {t t' : TT} (h : PW X e t) (i : ∀ σ H Q, t' σ H Q → t σ H Q) : PW X e t' := ⟨fun wh pins s σ H Q I q => h.run wh pins s σ H Q I (i σ H Q q)⟩
theorem vbt_and1 {e : E} {x : Expr} {pos : Pos} (h : PT X x (VT X S Wx e)) : PW X (.BoolOp .And [x] pos) (VBT X S Wx true [e]) := by
  refine PW.imp (pw_and1 h) ?_
  rintro σ H Q ⟨P, ρ, W, sv, xw, h⟩
  exact ⟨P, ρ, W, sv, xw, by unfold wpB at h; exact h⟩
theorem vbt_or1 {e : E} {x : Expr} {pos : Pos} (h : PT X x (VT X S Wx e)) : PW X (.BoolOp .Or [x] pos) (VBT X S Wx false [e]) := by
  refine PW.imp (pw_or1 h) ?_
  rintro σ H Q ⟨P, ρ, W, sv, xw, h⟩
  exact ⟨P, ρ, W, sv, xw, by unfold wpB at h; exact h⟩
theorem vbt_and {e f : E} {es : List E} {x y : Expr} {ys : List Expr} {pos : Pos} (ha : PT X x (VT X S Wx e)) (hb : PW X (.BoolOp .And (y :: ys) pos) (VBT X S Wx true (f :: es))) : PW X (.BoolOp .And (x :: y :: ys) pos) (VBT X S Wx true (e :: f :: es)) := by
  refine PW.imp (pw_and ha hb) ?_
  rintro σ H Q ⟨P, ρ, W, sv, xw, h⟩
  refine ⟨P, ρ, W, sv, xw, wpE.mono (fun d hd => ?_) (by unfold wpB at h; exact h)⟩
  obtain ⟨c, rfl, q⟩ := bW.of hd
  refine ⟨c, rfl, fun H1 s1 => ?_⟩
  cases c with
  | true =>
    refine ⟨P, ρ, W, sv.ex s1, xw.ex s1, wpB.mono (fun d ⟨b, e, hb⟩ => ⟨b, e, fun H2 s2 => hb H2 (s1.trans s2)⟩) (show wpB S W true (f :: es) ρ _ from q)⟩
  | false =>
    obtain ⟨b, e, hb⟩ := (show ∃ b, D.bl false = .bl b ∧ ∀ H', Same H H' → Q b H' from q)
    cases e
    exact hb H1 s1
theorem vbt_or {e f : E} {es : List E} {x y : Expr} {ys : List Expr} {pos : Pos} (ha : PT X x (VT X S Wx e)) (hb : PW X (.BoolOp .Or (y :: ys) pos) (VBT X S Wx false (f :: es))) : PW X (.BoolOp .Or (x :: y :: ys) pos) (VBT X S Wx false (e :: f :: es)) := by
  refine PW.imp (pw_or ha hb) ?_
  rintro σ H Q ⟨P, ρ, W, sv, xw, h⟩
  refine ⟨P, ρ, W, sv, xw, wpE.mono (fun d hd => ?_) (by unfold wpB at h; exact h)⟩
  obtain ⟨c, rfl, q⟩ := bW.of hd
  refine ⟨c, rfl, fun H1 s1 => ?_⟩
  cases c with
  | false =>
    refine ⟨P, ρ, W, sv.ex s1, xw.ex s1, wpB.mono (fun d ⟨b, e, hb⟩ => ⟨b, e, fun H2 s2 => hb H2 (s1.trans s2)⟩) (show wpB S W false (f :: es) ρ _ from q)⟩
  | true =>
    obtain ⟨b, e, hb⟩ := (show ∃ b, D.bl true = .bl b ∧ ∀ H', Same H H' → Q b H' from q)
    cases e
    exact hb H1 s1
theorem vt_and {es : List E} {xs : List Expr} {pos : Pos} (h : PW X (.BoolOp .And xs pos) (VBT X S Wx true es)) : PT X (.BoolOp .And xs pos) (VT X S Wx (.and es)) := by
  refine PT.imp h.pt ?_
  rintro σ H Q ⟨P, ρ, W, sv, xw, h⟩
  exact ⟨P, ρ, W, sv, xw, by unfold wpE at h; exact h⟩
theorem vt_or {es : List E} {xs : List Expr} {pos : Pos} (h : PW X (.BoolOp .Or xs pos) (VBT X S Wx false es)) : PT X (.BoolOp .Or xs pos) (VT X S Wx (.or es)) := by
  refine PT.imp h.pt ?_
  rintro σ H Q ⟨P, ρ, W, sv, xw, h⟩
  exact ⟨P, ρ, W, sv, xw, by unfold wpE at h; exact h⟩
/-! chains -/
theorem ve_chainR {o o' : Cop} {a b c : E} : ∀ σ H Q, VE X S Wx (.chain o o' a b c) σ H Q → tChain (fun x y H Q => ∃ (Z : Addr → Prop) (dx dy : D), Fsh H Z ∧ Rp X.K H Z x dx ∧ Rp X.K H Z y dy ∧ cmpW o dx dy (Bk X.K Z H true Q)) (fun x y H Q => ∃ (Z : Addr → Prop) (dx dy : D), Fsh H Z ∧ Rp X.K H Z x dx ∧ Rp X.K H Z y dy ∧ cmpW o' dx dy (Bk X.K Z H true Q)) (VE X S Wx a) (VE X S Wx b) (VE X S Wx c) σ H Q := by
  rintro σ H Q ⟨P, ρ, W, sv, xw, h⟩
  unfold wpE at h
  refine ⟨P, ρ, W, sv, xw, wpE.mono (fun dx hx v1 H1 s1 r1 _ => ?_) h⟩
  refine ⟨P, ρ, W, sv.ex s1, xw.ex s1, wpE.mono (fun dy hy v2 H2 s2 r2 _ => ?_) hx⟩
  refine ⟨Zal P (als a ++ als b) H, dx, dy, Zal.fsh (s1.trans s2), (r1.ex s2).z fun c z => z.mono (fun i hi => List.mem_append_left _ hi) (Same.refl H), r2.z fun c z => z.mono (fun i hi => List.mem_append_right _ hi) s1, cmpW.mono (fun d hd v3 H3 s3 r3 _ => ?_) hy⟩
  obtain ⟨k, rfl, q⟩ := bW.of hd
  cases r3
  refine ⟨k, rfl, ?_⟩
  have s13 := (s1.trans s2).trans s3
  cases k with
  | true =>
    refine ⟨P, ρ, W, sv.ex s13, xw.ex s13, wpE.mono (fun dw hw v4 H4 s4 r4 _ => ?_) (show wpE S W c ρ _ from q)⟩
    refine ⟨Zal P (als a ++ als b ++ als c) H, dy, dw, Zal.fsh (s13.trans s4), (r2.ex (s3.trans s4)).z fun c z => z.mono (fun i hi => by simp [hi]) s1, r4.z fun c z => z.mono (fun i hi => by simp [hi]) s13, cmpW.mono (fun d hd => hd.up (s13.trans s4) (fun a z => by unfold als; exact z) fun e => nomatch e) hw⟩
  | false => exact (Bk.up (show Ak X.K P H (.chain o o' a b c) Q (.bl false) from q) s13 (fun a z => z) fun e => nomatch e : Bk X.K (Zal P (als (.chain o o' a b c)) H) H3 true Q _).at (.bl _)
theorem ve_chain {o o' : Cop} {a b c : E} {x y z : Expr} {pos : Pos} (hu : X.A.units + 65 < cLine) (ha : PE X x (VE X S Wx a)) (hb : PE X y (VE X S Wx b)) (hc : PE X z (VE X S Wx c)) (hm : lastMarks [copOf o, copOf o'] [y, z] = false) :
    PE X (.Compare x [copOf o, copOf o'] [y, z] pos) (VE X S Wx (.chain o o' a b c)) := PE.imp (pe_chain (op_cmpD hu o) (op_cmpD hu o') ha hb hc hm) ve_chainR
theorem vt_chain {o o' : Cop} {a b c : E} {x y z : Expr} {pos : Pos} (hu : X.A.units + 65 < cLine) (ha : PE X x (VE X S Wx a)) (hb : PE X y (VE X S Wx b)) (hc : PE X z (VE X S Wx c)) (hm : lastMarks [copOf o, copOf o'] [y, z] = false) :
    PT X (.Compare x [copOf o, copOf o'] [y, z] pos) (VT X S Wx (.chain o o' a b c)) := PT.imp (pt_chain (op_cmpD hu o) (op_cmpD hu o') ha hb hc hm) fun σ H Q h => ve_chainR σ H _ (vt_of_ve σ H Q h)
theorem ve_upp {a : E} {x : Expr} {apos pos : Pos} (ha : PE X x (VE X S Wx a)) (hb : attributeBase x "upper" X.env (eval x X.env) = eval x X.env) (hl : (apos.endLine == pos.line) = true) : PE X (.Call (.Attribute x "upper" apos) [] [] pos) (VE X S Wx (.upp a)) := by
  refine PE.imp (pe_upper ha hb hl) ?_
  rintro σ H Q ⟨P, ρ, W, sv, xw, h⟩
  refine ⟨P, ρ, W, sv, xw, wpE.mono (fun d hd v1 H1 s1 r1 _ => ?_) (by unfold wpE at h; exact h)⟩
  cases d <;> simp only [uppW] at hd
  cases r1
  exact ⟨⟨_, rfl⟩, _, rfl, rfl, hd.1, (Bk.up hd.2 s1 (fun a z => z) fun e => nomatch e : Bk X.K (Zal P (als (.upp a)) H) H1 true Q _).at (.str _)⟩
theorem ve_sorR {a : E} {x : Expr} {p p2 pos : Pos} {j : Nat} {kp : Pos} (hg : Gl X "sorted") (hm : X.mg "sorted" = none) (ha : PE X x (VE X S Wx a)) (hs : starEach [x] X.env = [(false, eval x X.env)]) :
    PE X (.Call (.Name "sorted" p) [x] [⟨some "reverse", .Constant (.bool true) j p2, kp⟩] pos) (VE X S Wx (.sorR a)) := by
  refine PE.imp (pe_callBK (t := tCons (VE X S Wx a) tNil) (cr_sortedRev (b := true)) hg hm (by decide +kernel) (pa_cons ha pa_nil hs) (pk_cons pe_bl pk_nil) (by decide) (by decide) (by rw [hs] <;> rfl) (by rw [hs] <;> rfl)) ?_
  rintro σ H Q ⟨P, ρ, W, sv, xw, h⟩
  refine ⟨P, ρ, W, sv, xw, wpE.mono (fun d hd v1 H1 s1 r1 _ => ?_) (by unfold wpE at h; exact h)⟩
  cases d <;> simp only [srtRW] at hd
  obtain ⟨a', vs, rfl, ha', ra⟩ := r1.lstE
  obtain ⟨ns, rfl, w⟩ := hd
  rw [rps_ints ra] at ha'
  refine ⟨a', ns, rfl, rfl, SqL.of ha', fun ns' p hp hs hf => ?_⟩
  obtain rfl := sortI_eqR hp hs
  have w2 : Bk X.K (Zal P (als (.sorR a)) H) H1 true Q (.lst ((sortI ns).reverse.map D.int)) := Bk.up w s1 (fun a z => z) fun _ => rfl
  exact w2.new (Zal.fsh s1) (ints_rps _) hf
/-- sorted(x), x a list of pairs of ints -/
theorem ve_srp {a : E} {x : Expr} {p pos : Pos} (hg : Gl X "sorted") (hm : X.mg "sorted" = none) (ha : PE X x (VE X S Wx a)) (hs : starEach [x] X.env = [(false, eval x X.env)]) :
    PE X (.Call (.Name "sorted" p) [x] [] pos) (VE X S Wx (.srp a)) := by
  refine PE.imp (pe_callB cr_sortedPO hg hm (by decide +kernel) (pa_cons ha pa_nil hs) (by decide) (by decide) (by rw [hs] <;> rfl) (by rfl)) ?_
  rintro σ H Q ⟨P, ρ, W, sv, xw, h⟩
  refine ⟨P, ρ, W, sv, xw, wpE.mono (fun d hd v1 H1 s1 r1 _ => ?_) (by unfold wpE at h; exact h)⟩
  cases d <;> simp only [srpW] at hd
  obtain ⟨a', vs, rfl, ha', ra⟩ := r1.lstE
  obtain ⟨ps, rfl, w⟩ := hd
  refine ⟨a', vs, kH H1, rfl, SqL.of ha', (rps_pairs ra).1, fun ys b hs2 hb hf => ?_⟩
  have w2 : Bk X.K (Zal P (als (.srp a)) H) H1 true Q (.lst ((sortP ps).map pD)) := Bk.up w s1 (fun a z => z) fun _ => rfl
  exact w2.new (Zal.fsh s1) (rps_sorted ra hs2 hb.perm) hf
/-- sorted(x), x a list of data of one shape -/
theorem ve_srd {a : E} {x : Expr} {p pos : Pos} (hu : X.A.units + 65 < cLine) (hg : Gl X "sorted") (hm : X.mg "sorted" = none) (ha : PE X x (VE X S Wx a)) (hs : starEach [x] X.env = [(false, eval x X.env)]) :
    PE X (.Call (.Name "sorted" p) [x] [] pos) (VE X S Wx (.srd a)) := by
  refine PE.imp (pe_callB (cr_srd hu) hg hm (by decide +kernel) (pa_cons ha pa_nil hs) (by decide) (by decide) (by rw [hs] <;> rfl) (by rfl)) ?_
  rintro σ H Q ⟨P, ρ, W, sv, xw, h⟩
  refine ⟨P, ρ, W, sv, xw, wpE.mono (fun d hd v1 H1 s1 r1 _ => ?_) (by unfold wpE at h; exact h)⟩
  cases d <;> simp only [srdW] at hd
  obtain ⟨a', vs, rfl, ha', ra⟩ := r1.lstE
  rename_i ds _
  obtain ⟨sh, al, so, w⟩ := hd
  refine ⟨a', vs, ds, rfl, SqL.of ha', dps_of ra.1 (lay_all sh) (fun j v d h1 h2 => (ra.2 j v d h1 h2).dp), ra.1, al, so, fun d hd => (sh d hd).2, fun b hf => ?_⟩
  have w2 : Bk X.K (Zal P (als (.srd a)) H) H1 true Q (.lst (sortD ds)) := Bk.up w s1 (fun a z => z) fun _ => rfl
  exact w2.new (Zal.fsh s1) (rps_srd ra) hf
/-- sorted(set(x)), x a list of ints, fewer than 64 -/
theorem ve_srs {a : E} {x : Expr} {p p2 pos pos2 : Pos} (hc : X.calm = true) (hg : Gl X "sorted") (hm : X.mg "sorted" = none) (hg2 : Gl X "set") (hm2 : X.mg "set" = none) (ha : PE X x (VE X S Wx a)) (hs : starEach [x] X.env = [(false, eval x X.env)]) :
    PE X (.Call (.Name "sorted" p) [.Call (.Name "set" p2) [x] [] pos2] [] pos) (VE X S Wx (.srs a)) := by
  refine PE.imp (pe_callB (cr_sortedSet hc) hg hm (by decide +kernel) (pa_cons (pe_callTy (cr_setL hc) hg2 hm2 (by decide +kernel) (pa_cons ha pa_nil hs) (by decide) (by decide) (by rw [hs] <;> rfl) (by rfl)) pa_nil (by rfl)) (by decide) (by decide) (by rfl) (by rfl)) ?_
  rintro σ H Q ⟨P, ρ, W, sv, xw, h⟩
  refine ⟨P, ρ, W, sv, xw, wpE.mono (fun d hd v1 H1 s1 r1 _ => ?_) (by unfold wpE at h; exact h)⟩
  cases d <;> simp only [srsW] at hd
  obtain ⟨a', vs, rfl, ha', ra⟩ := r1.lstE
  obtain ⟨ns, rfl, h64, w⟩ := hd
  rw [rps_ints ra] at ha'
  refine ⟨a', ns, rfl, SqL.of ha', h64, fun b n hb hn => ?_⟩
  refine ⟨b, _, n, rfl, upd_same, by omega, fun rs p hp hs _ hf => ?_⟩
  obtain rfl : rs = setI ns := setI_eq hp fun k => (hs k).trans (by simp)
  have s2 := same_new (o := SetO X.w b (fun j => decide (j ∈ ns)) n) hb
  have w2 : Bk X.K (Zal P (als (.srs a)) H) (upd H1 b (SetO X.w b (fun j => decide (j ∈ ns)) n)) true Q (.lst ((setI ns).map D.int)) := Bk.up w (s1.trans s2) (fun a z => z) fun _ => rfl
  exact w2.new (Zal.fsh (s1.trans s2)) (ints_rps _) hf
/-! three comparisons of ints in one -/
theorem op_cI {o : Cop} (ho : o = .lt ∨ o = .le ∨ o = .gt ∨ o = .ge) : OpR X (compareOp (copOf o)) fun x y H Q => ∃ i j, x = .int i ∧ y = .int j ∧ Q (.bl (cI o i j)) H := by
  rcases ho with rfl | rfl | rfl | rfl
  · exact op_lt
  · exact op_le
  · exact op_gt
  · exact op_ge
def tCh3 (o1 o2 o3 : Cop) (ta tb tc td : TE) : TE := fun σ H Q => ta σ H fun x H1 => tb σ H1 fun y H2 => ∃ i j, x = .int i ∧ y = .int j ∧ (if cI o1 i j = true then tc σ H2 fun u H3 => ∃ k, u = .int k ∧ (if cI o2 j k = true then td σ H3 fun v H4 => ∃ m, v = .int m ∧ Q (.bl (cI o3 k m)) H4 else Q (.bl false) H3) else Q (.bl false) H2)
theorem pe_ch3 {o1 o2 o3 : Cop} {a b c d : Expr} {ta tb tc td : TE} {pos : Pos} (h1 : o1 = .lt ∨ o1 = .le ∨ o1 = .gt ∨ o1 = .ge) (h2 : o2 = .lt ∨ o2 = .le ∨ o2 = .gt ∨ o2 = .ge) (h3 : o3 = .lt ∨ o3 = .le ∨ o3 = .gt ∨ o3 = .ge) (ha : PE X a ta) (hb : PE X b tb) (hc : PE X c tc) (hd : PE X d td)
    (hm : lastMarks [copOf o1, copOf o2, copOf o3] [b, c, d] = false) : PE X (.Compare a [copOf o1, copOf o2, copOf o3] [b, c, d] pos) (tCh3 o1 o2 o3 ta tb tc td) := by
  refine ⟨fun pins s σ H Q I h => Compare_chain (thn (ha.run pins s σ H _ I h) fun va s1 ⟨x, H1, I1, r1, q1⟩ => chain_link (thn (hb.run pins s1 σ H1 _ I1 q1) fun vb s2 ⟨y, H2, I2, r2, i, j, ex, ey, q2⟩ => ?_)) hm⟩
  subst ex; subst ey
  refine thn (op_cI h1 pins s2 σ H2 _ _ va vb (fun z H3 => z = .bl (cI o1 i j) ∧ H3 = H2) I2 r1 r2 ⟨i, j, rfl, rfl, rfl, rfl⟩) fun vz s3 ⟨z, H3, I3, r3, ez, eH⟩ => ?_
  subst ez; subst eH
  cases r3
  refine wpAny_truthy_bool ?_
  cases e1 : cI o1 i j with
  | false =>
    rw [e1] at q2
    exact ite_ff ⟨.bl false, H3, I3, rfl, q2⟩
  | true =>
    rw [e1] at q2
    refine ite_tt (chain_link (thn (hc.run pins s3 σ H3 _ I3 q2) fun vc s4 ⟨u, H4, I4, r4, k, eu, q4⟩ => ?_))
    subst eu
    refine thn (op_cI h2 pins s4 σ H4 _ _ vb vc (fun z H5 => z = .bl (cI o2 j k) ∧ H5 = H4) I4 r2 r4 ⟨j, k, rfl, rfl, rfl, rfl⟩) fun vz s5 ⟨z, H5, I5, r5, ez, eH⟩ => ?_
    subst ez; subst eH
    cases r5
    refine wpAny_truthy_bool ?_
    cases e2 : cI o2 j k with
    | false =>
      rw [e2] at q4
      exact ite_ff ⟨.bl false, H5, I5, rfl, q4⟩
    | true =>
      rw [e2] at q4
      refine ite_tt (chain_last (thn (hd.run pins s5 σ H5 _ I5 q4) fun vd s6 ⟨v, H6, I6, r6, m, ev, q6⟩ => ?_))
      subst ev
      exact op_cI h3 pins s6 σ H6 _ _ vc vd _ I6 r4 r6 ⟨k, m, rfl, rfl, q6⟩
theorem pt_ch3 {o1 o2 o3 : Cop} {a b c d : Expr} {ta tb tc td : TE} {pos : Pos} (h1 : o1 = .lt ∨ o1 = .le ∨ o1 = .gt ∨ o1 = .ge) (h2 : o2 = .lt ∨ o2 = .le ∨ o2 = .gt ∨ o2 = .ge) (h3 : o3 = .lt ∨ o3 = .le ∨ o3 = .gt ∨ o3 = .ge) (ha : PE X a ta) (hb : PE X b tb) (hc : PE X c tc) (hd : PE X d td)
    (hm : lastMarks [copOf o1, copOf o2, copOf o3] [b, c, d] = false) : PT X (.Compare a [copOf o1, copOf o2, copOf o3] [b, c, d] pos) (tTest (tCh3 o1 o2 o3 ta tb tc td)) := by
  refine ⟨fun pins s σ H Q I h => isTrue_chain (thn (ha.run pins s σ H _ I h) fun va s1 ⟨x, H1, I1, r1, q1⟩ => test_link (thn (hb.run pins s1 σ H1 _ I1 q1) fun vb s2 ⟨y, H2, I2, r2, i, j, ex, ey, q2⟩ => ?_)) hm⟩
  subst ex; subst ey
  refine thn (op_cI h1 pins s2 σ H2 _ _ va vb (fun z H3 => z = .bl (cI o1 i j) ∧ H3 = H2) I2 r1 r2 ⟨i, j, rfl, rfl, rfl, rfl⟩) fun vz s3 ⟨z, H3, I3, r3, ez, eH⟩ => ?_
  subst ez; subst eH
  cases r3
  refine wpAny_truthy_bool ?_
  cases e1 : cI o1 i j with
  | false =>
    rw [e1] at q2
    obtain ⟨k, e, q⟩ := q2
    cases e
    exact ite_ff ⟨H3, I3, q⟩
  | true =>
    rw [e1] at q2
    refine ite_tt (test_link (thn (hc.run pins s3 σ H3 _ I3 q2) fun vc s4 ⟨u, H4, I4, r4, k, eu, q4⟩ => ?_))
    subst eu
    refine thn (op_cI h2 pins s4 σ H4 _ _ vb vc (fun z H5 => z = .bl (cI o2 j k) ∧ H5 = H4) I4 r2 r4 ⟨j, k, rfl, rfl, rfl, rfl⟩) fun vz s5 ⟨z, H5, I5, r5, ez, eH⟩ => ?_
    subst ez; subst eH
    cases r5
    refine wpAny_truthy_bool ?_
    cases e2 : cI o2 j k with
    | false =>
      rw [e2] at q4
      obtain ⟨k', e, q⟩ := q4
      cases e
      exact ite_ff ⟨H5, I5, q⟩
    | true =>
      rw [e2] at q4
      refine ite_tt (test_last (thn (hd.run pins s5 σ H5 _ I5 q4) fun vd s6 ⟨v, H6, I6, r6, m, ev, q6⟩ => ?_))
      subst ev
      refine thn (op_cI h3 pins s6 σ H6 _ _ vc vd (fun x H' => ∃ k, x = .bl k ∧ Q k H') I6 r4 r6 ⟨k, m, rfl, rfl, q6⟩) fun vz s7 ⟨z, H7, I7, r7, k', e, q7⟩ => ?_
      subst e
      cases r7
      exact wpAny_truthy_bool ⟨H7, I7, q7⟩
theorem ve_ch3R {o1 o2 o3 : Cop} {a b c d : E} : ∀ σ H Q, VE X S Wx (.chain3 o1 o2 o3 a b c d) σ H Q → tCh3 o1 o2 o3 (VE X S Wx a) (VE X S Wx b) (VE X S Wx c) (VE X S Wx d) σ H Q := by
  rintro σ H Q ⟨P, ρ, W, sv, xw, h⟩
  unfold wpE at h
  refine ⟨P, ρ, W, sv, xw, wpE.mono (fun dx hx v1 H1 s1 r1 t1 => ?_) h⟩
  refine ⟨P, ρ, W, sv.ex s1, xw.ex s1, wpE.mono (fun dy hy v2 H2 s2 r2 t2 => ?_) hx⟩
  clear t1 t2
  cases dx <;> simp only [intC] at hy
  cases dy <;> simp only [intC] at hy
  cases r1; cases r2
  rename_i i j
  have s12 := s1.trans s2
  have no : ∀ {H' : Hp} {k : Bool}, Same H H' → Ak X.K P H (.chain3 o1 o2 o3 a b c d) Q (.bl k) → Q (.bl k) H' := fun s q => (Bk.up q s (fun a z => z) fun e => nomatch e : Bk X.K (Zal P (als (.chain3 o1 o2 o3 a b c d)) H) _ true Q _).at (.bl _)
  refine ⟨i, j, rfl, rfl, ?_⟩
  split at hy
  · rename_i e1
    rw [if_pos e1]
    refine ⟨P, ρ, W, sv.ex s12, xw.ex s12, wpE.mono (fun dc hc v3 H3 s3 r3 t3 => ?_) hy⟩
    clear t3
    cases dc <;> simp only [intC] at hc
    cases r3
    rename_i k
    refine ⟨k, rfl, ?_⟩
    have s13 := s12.trans s3
    split at hc
    · rename_i e2
      rw [if_pos e2]
      refine ⟨P, ρ, W, sv.ex s13, xw.ex s13, wpE.mono (fun dd hd v4 H4 s4 r4 t4 => ?_) hc⟩
      clear t4
      cases dd <;> simp only [intC] at hd
      cases r4
      exact ⟨_, rfl, no (s13.trans s4) hd⟩
    · rename_i e2
      rw [if_neg e2]
      exact no s13 hc
  · rename_i e1
    rw [if_neg e1]
    exact no s12 hy
theorem pt_of_pe3 {o1 o2 o3 : Cop} {a b c d : E} {x y z w : Expr} {pos : Pos} (h1 : o1 = .lt ∨ o1 = .le ∨ o1 = .gt ∨ o1 = .ge) (h2 : o2 = .lt ∨ o2 = .le ∨ o2 = .gt ∨ o2 = .ge) (h3 : o3 = .lt ∨ o3 = .le ∨ o3 = .gt ∨ o3 = .ge) (ha : PE X x (VE X S Wx a)) (hb : PE X y (VE X S Wx b)) (hc : PE X z (VE X S Wx c)) (hd : PE X w (VE X S Wx d))
    (hm : lastMarks [copOf o1, copOf o2, copOf o3] [y, z, w] = false) : PT X (.Compare x [copOf o1, copOf o2, copOf o3] [y, z, w] pos) (VT X S Wx (.chain3 o1 o2 o3 a b c d)) := PT.imp (pt_ch3 h1 h2 h3 ha hb hc hd hm) fun σ H Q h => ve_ch3R σ H _ (vt_of_ve σ H Q h)
/-! texts joined, parted -/
theorem ve_jn {z : Str} {a : E} {x : Expr} {j : Nat} {p apos pos : Pos} (ha : PE X x (VE X S Wx a)) (hs : starEach [x] X.env = [(false, eval x X.env)]) (hl : (apos.endLine == pos.line) = true) : PE X (.Call (.Attribute (.Constant (.str z) j p) "join" apos) [x] [] pos) (VE X S Wx (.jn z a)) := by
  refine PE.imp (pe_join pe_str ha hs rfl hl) ?_
  rintro σ H Q ⟨P, ρ, W, sv, xw, h⟩
  refine ⟨⟨z, rfl⟩, P, ρ, W, sv, xw, wpE.mono (fun d hd v1 H1 s1 r1 _ => ?_) (by unfold wpE at h; exact h)⟩
  cases d <;> simp only [jnW] at hd
  obtain ⟨ys, rfl, l, q⟩ := hd
  obtain ⟨a', vs, rfl, ha', ra⟩ := r1.lstE
  rw [rps_strs ra] at ha'
  exact ⟨z, a', ys, rfl, rfl, .inl (SqL.of ha'), l, (Bk.up q s1 (fun a z => z) fun e => nomatch e : Bk X.K (Zal P (als (.jn z a)) H) H1 true Q _).at (.str _)⟩
theorem ve_spl {z : Str} {a : E} {x : Expr} {j : Nat} {p apos pos : Pos} (ha : PE X x (VE X S Wx a)) (hb : attributeBase x "split" X.env (eval x X.env) = eval x X.env) (hl : (apos.endLine == pos.line) = true) : PE X (.Call (.Attribute x "split" apos) [.Constant (.str z) j p] [] pos) (VE X S Wx (.spl a z)) := by
  refine PE.imp (pe_split ha pe_str rfl hb hl) ?_
  rintro σ H Q ⟨P, ρ, W, sv, xw, h⟩
  refine ⟨P, ρ, W, sv, xw, wpE.mono (fun d hd v1 H1 s1 r1 t1 => ?_) (by unfold wpE at h; exact h)⟩
  clear t1
  cases d <;> simp only [splW] at hd
  cases r1
  rename_i x'
  have q2 : Bk X.K (Zal P (als (.spl a z)) H) H1 true Q (.lst ((Txt.split x' z).map D.str)) := Bk.up hd.2.2 s1 (fun a z => z) fun _ => rfl
  exact ⟨⟨x', rfl⟩, x', z, rfl, rfl, hd.1, hd.2.1, fun p hp => q2.new (Zal.fsh s1) (strs_rps _) hp⟩
theorem toPs_get {ds : List D} {j : Nat} : (toPs ds)[j]? = (ds[j]?).map toP := by
  induction ds generalizing j with
  | nil => simp [toPs]
  | cons d ds ih =>
    cases j with
    | zero => simp [toPs]
    | succ j => simpa [toPs] using ih
theorem ve_lix {a b : E} {x y : Expr} {apos pos : Pos} (hu : X.A.units + 65 < cLine) (ha : PE X x (VE X S Wx a)) (hb : PE X y (VE X S Wx b)) (hbase : attributeBase x "index" X.env (eval x X.env) = eval x X.env) (hl : (apos.endLine == pos.line) = true) (hs : starEach [y] X.env = [(false, eval y X.env)]) : PE X (.Call (.Attribute x "index" apos) [y] [] pos) (VE X S Wx (.lix a b)) := by
  refine PE.imp (pe_bm PySem.F.plainAttrs_list PySem.F.slot_list_index PySem.F.type_list_index (mt_indexD hu) ha (pa_cons hb pa_nil hs) hbase (by rw [hs] <;> rfl) hl hs rfl) ?_
  rintro σ H Q ⟨P, ρ, W, sv, xw, h⟩
  refine ⟨P, ρ, W, sv, xw, wpE.mono (fun dx hx v1 H1 s1 r1 t1 => ?_) (by unfold wpE at h; exact h)⟩
  clear t1
  obtain ⟨ds, rfl⟩ : ∃ ds, dx = .lst ds := by
    cases dx <;> simp only [isLW] at hx
    exact ⟨_, rfl⟩
  simp only [isLW] at hx
  obtain ⟨a', vs, e1, ha', ra⟩ := r1.lstE
  subst e1
  refine ⟨.inl ⟨rfl, _, SqL.of ha'⟩, P, ρ, W, sv.ex s1, xw.ex s1, wpE.mono (fun dy hy v2 H2 s2 r2 _ => ?_) hx⟩
  simp only [lixW] at hy
  obtain ⟨sl, sd, j, z, h1, h2, h3, q⟩ := hy
  have p1 := (r1.ex s2).dp (SeqAt.canLay_of_shaped sl)
  have p2 := r2.dp (SeqAt.canLay_of_shaped sd)
  refine ⟨a', v2, toP dy, toPs ds, j, toP z, rfl, rfl, p1, p2, sl, sd, by rw [toPs_get, h1]; rfl, h2, fun m z' hm hz => ?_, ?_⟩
  · rw [toPs_get] at hz
    cases hd : ds[m]? with
    | none => rw [hd] at hz; cases hz
    | some w =>
      rw [hd] at hz
      cases hz
      exact h3 m w hm hd
  · exact (Bk.up (show Ak X.K P H (.lix a b) Q (.int (j : Nat)) from q) (s1.trans s2) (fun a z => z) (fun h => nomatch h) : Bk X.K (Zal P (als (.lix a b)) H) H2 false Q _).at (.int _) (fun h => nomatch h)
/-! dicts -/
theorem dget_rp {K : Fr} {H : Hp} {Z : Addr → Prop} {vx vy : V} {x y : D} {R : Option D → Prop} (rx : Rp K H Z vx x) (ry : Rp K H Z vy y) (w : dgetW x y R) : ∃ a o, vx = .ref a ∧ DGet H a vy o ∧ IsD H a ∧ ((o = none ∧ R none) ∨ ∃ v d, o = some v ∧ R (some d) ∧ Rp K H Z v d) := by
  unfold dgetW at w
  split at w
  · cases rx with
    | @dik a kvs ds h z hk r =>
      split at w
      · rename_i k hk2
        refine ⟨a, valV kvs k, rfl, .inl ⟨kvs, k, h, rp_key ry hk2, rfl⟩, .inl ⟨kvs, h⟩, ?_⟩
        rcases KR.val (P := fun v d => Rp K H Z v d) ⟨hk, r⟩ k with ⟨e1, e2⟩ | ⟨d, v, e1, e2, p⟩
        · rw [e1] at w
          exact .inl ⟨e2, w⟩
        · rw [e1] at w
          exact .inr ⟨v, d, e2, w, p⟩
      · exact w.elim
  · cases rx with
    | @dit a kvs ds h z hk r =>
      split at w
      · obtain ⟨b, vs, rfl, hb, rb⟩ := ry.tupH
        split at w
        · rename_i k hk2
          rw [rps_keys rb hk2] at hb
          refine ⟨a, valV kvs k, rfl, .inr ⟨kvs, k, b, h, rfl, hb, rfl⟩, .inr ⟨kvs, h⟩, ?_⟩
          rcases KR.val (P := fun v d => Rp K H Z v d) ⟨hk, r⟩ k with ⟨e1, e2⟩ | ⟨d, v, e1, e2, p⟩
          · rw [e1] at w
            exact .inl ⟨e2, w⟩
          · rw [e1] at w
            exact .inr ⟨v, d, e2, w, p⟩
        · exact w.elim
      · exact w.elim
  · exact w.elim
theorem isD_rp {K : Fr} {H : Hp} {Z : Addr → Prop} {vx : V} {x : D} {R : Prop} (rx : Rp K H Z vx x) (w : isDW x R) : (∃ a, vx = .ref a ∧ IsD H a) ∧ R := by
  unfold isDW at w
  split at w
  · cases rx with
    | dik h z hk r => exact ⟨⟨_, rfl, .inl ⟨_, h⟩⟩, w⟩
  · cases rx with
    | dit h z hk r => exact ⟨⟨_, rfl, .inr ⟨_, h⟩⟩, w⟩
  · exact w.elim
theorem ve_dgt {a b : E} {x y : Expr} {pos : Pos} (hu : X.A.units + 1 < cLine) (ha : PE X x (VE X S Wx a)) (hb : PE X y (VE X S Wx b)) (hs : NoSl y) : PE X (.Subscript x y pos) (VE X S Wx (.dgt a b)) := by
  refine PE.imp (pe_dget hu ha hb hs) ?_
  rintro σ H Q ⟨P, ρ, W, sv, xw, h⟩
  refine ⟨P, ρ, W, sv, xw, wpE.mono (fun dx hx v1 H1 s1 r1 _ => ?_) (by unfold wpE at h; exact h)⟩
  refine ⟨P, ρ, W, sv.ex s1, xw.ex s1, wpE.mono (fun dy hy v2 H2 s2 r2 _ => ?_) hx⟩
  obtain ⟨c, o, rfl, g, _, q⟩ := dget_rp (Z := Zal P (als a ++ als b) H) ((r1.ex s2).z fun c z => z.mono (fun i hi => List.mem_append_left _ hi) (Same.refl H)) (r2.z fun c z => z.mono (fun i hi => List.mem_append_right _ hi) s1) hy
  rcases q with ⟨rfl, w⟩ | ⟨v, d, rfl, w, p⟩
  · exact (show False from w).elim
  · exact ⟨c, v, rfl, g, (Bk.up (show Ak X.K P H (.dgt a b) Q d from w) (s1.trans s2) (fun a z => by unfold als; exact z) (fun h => nomatch h) : Bk X.K (Zal P (als a ++ als b) H) H2 false Q d).at p (fun h => nomatch h)⟩
theorem ve_dg1 {a b : E} {x y : Expr} {apos pos : Pos} (hu : X.A.units + 1 < cLine) (ha : PE X x (VE X S Wx a)) (hb : PE X y (VE X S Wx b)) (m : M1 X x "get" apos y pos) : PE X (.Call (.Attribute x "get" apos) [y] [] pos) (VE X S Wx (.dg1 a b)) := by
  refine PE.imp (pe_dget1 hu ha hb m) ?_
  rintro σ H Q ⟨P, ρ, W, sv, xw, h⟩
  refine ⟨P, ρ, W, sv, xw, wpE.mono (fun dx hx v1 H1 s1 r1 _ => ?_) (by unfold wpE at h; exact h)⟩
  obtain ⟨⟨c0, rfl, i0⟩, hx⟩ := isD_rp r1 hx
  refine ⟨c0, rfl, i0, P, ρ, W, sv.ex s1, xw.ex s1, wpE.mono (fun dy hy v2 H2 s2 r2 _ => ?_) hx⟩
  obtain ⟨c, o, e, g, _, q⟩ := dget_rp (Z := Zal P (als a ++ als b) H) ((r1.ex s2).z fun c z => z.mono (fun i hi => List.mem_append_left _ hi) (Same.refl H)) (r2.z fun c z => z.mono (fun i hi => List.mem_append_right _ hi) s1) hy
  cases e
  have up : ∀ d, Ak X.K P H (.dg1 a b) Q d → Bk X.K (Zal P (als a ++ als b) H) H2 false Q d := fun d w => Bk.up w (s1.trans s2) (fun a z => by unfold als; exact z) (fun h => nomatch h)
  rcases q with ⟨rfl, w⟩ | ⟨v, d, rfl, w, p⟩
  · exact ⟨none, g, (up _ w).at .non (fun h => nomatch h)⟩
  · exact ⟨some v, g, (up _ w).at p (fun h => nomatch h)⟩
theorem ve_dg2 {a b f : E} {x y z : Expr} {apos pos : Pos} (hu : X.A.units + 1 < cLine) (ha : PE X x (VE X S Wx a)) (hb : PE X y (VE X S Wx b)) (hf : PE X z (VE X S Wx f)) (m : M2 X x "get" apos y z pos) : PE X (.Call (.Attribute x "get" apos) [y, z] [] pos) (VE X S Wx (.dg2 a b f)) := by
  refine PE.imp (pe_dget2 hu ha hb hf m) ?_
  rintro σ H Q ⟨P, ρ, W, sv, xw, h⟩
  refine ⟨P, ρ, W, sv, xw, wpE.mono (fun dx hx v1 H1 s1 r1 _ => ?_) (by unfold wpE at h; exact h)⟩
  obtain ⟨⟨c0, rfl, i0⟩, hx⟩ := isD_rp r1 hx
  refine ⟨c0, rfl, i0, P, ρ, W, sv.ex s1, xw.ex s1, wpE.mono (fun dy hy v2 H2 s2 r2 _ => ?_) hx⟩
  refine ⟨P, ρ, W, sv.ex (s1.trans s2), xw.ex (s1.trans s2), wpE.mono (fun dz hz v3 H3 s3 r3 _ => ?_) hy⟩
  have rz : Rp X.K H3 (Zal P (als a ++ als b ++ als f) H) v3 dz := r3.z fun c z => z.mono (fun i hi => List.mem_append_right _ hi) (s1.trans s2)
  obtain ⟨c, o, e, g, _, q⟩ := dget_rp (Z := Zal P (als a ++ als b ++ als f) H) ((r1.ex (s2.trans s3)).z fun c z => z.mono (fun i hi => List.mem_append_left _ (List.mem_append_left _ hi)) (Same.refl H)) ((r2.ex s3).z fun c z => z.mono (fun i hi => List.mem_append_left _ (List.mem_append_right _ hi)) s1) hz
  cases e
  have up : ∀ d, Ak X.K P H (.dg2 a b f) Q d → Bk X.K (Zal P (als a ++ als b ++ als f) H) H3 false Q d := fun d w => Bk.up w ((s1.trans s2).trans s3) (fun a z => by unfold als; exact z) (fun h => nomatch h)
  rcases q with ⟨rfl, w⟩ | ⟨v, d, rfl, w, p⟩
  · exact ⟨none, g, (up _ w).at rz (fun h => nomatch h)⟩
  · exact ⟨some v, g, (up _ w).at p (fun h => nomatch h)⟩
theorem ve_dinR {a b : E} {neg : Bool} : ∀ σ H Q, VE X S Wx (.din neg a b) σ H Q → VE X S Wx a σ H fun y H1 => VE X S Wx b σ H1 fun x H2 => ∃ c o, x = .ref c ∧ DGet H2 c y o ∧ Q (.bl (if neg then !o.isSome else o.isSome)) H2 := by
  rintro σ H Q ⟨P, ρ, W, sv, xw, h⟩
  refine ⟨P, ρ, W, sv, xw, wpE.mono (fun dy hy v1 H1 s1 r1 _ => ?_) (by unfold wpE at h; exact h)⟩
  refine ⟨P, ρ, W, sv.ex s1, xw.ex s1, wpE.mono (fun dx hx v2 H2 s2 r2 _ => ?_) hy⟩
  obtain ⟨c, o, rfl, g, _, q⟩ := dget_rp (Z := Zal P (als a ++ als b) H) (r2.z fun c z => z.mono (fun i hi => List.mem_append_right _ hi) s1) ((r1.ex s2).z fun c z => z.mono (fun i hi => List.mem_append_left _ hi) (Same.refl H)) hx
  have up : ∀ k, Ak X.K P H (.din neg a b) Q (.bl k) → Q (.bl k) H2 := fun k w => (Bk.up w (s1.trans s2) (fun a z => z) (fun h => h) : Bk X.K (Zal P (als (.din neg a b)) H) H2 false Q (.bl k)).at (.bl _)
  rcases q with ⟨rfl, w⟩ | ⟨v, d, rfl, w, p⟩
  · exact ⟨c, none, rfl, g, up _ w⟩
  · exact ⟨c, some v, rfl, g, up _ w⟩
theorem ve_din {a b : E} {neg : Bool} {x y : Expr} {pos : Pos} (hu : X.A.units + 1 < cLine) (ha : PE X x (VE X S Wx a)) (hb : PE X y (VE X S Wx b)) (hm : ∀ op, behindInMarks op y = false) : PE X (.Compare x [if neg = true then .NotIn else .In] [y] pos) (VE X S Wx (.din neg a b)) := by
  cases neg with
  | false => exact PE.imp (pe_cmp (pc_din hu ha hb) (hm _)) fun σ H Q h => ve_dinR σ H Q h
  | true => exact PE.imp (pe_cmp (pc_dnotin hu ha hb) (hm _)) fun σ H Q h => ve_dinR σ H Q h
theorem vt_din {a b : E} {neg : Bool} {x y : Expr} {pos : Pos} (hu : X.A.units + 1 < cLine) (ha : PE X x (VE X S Wx a)) (hb : PE X y (VE X S Wx b)) (hm : ∀ op, behindInMarks op y = false) : PT X (.Compare x [if neg = true then .NotIn else .In] [y] pos) (VT X S Wx (.din neg a b)) := by
  cases neg with
  | false => exact PT.imp (pt_cmp (pc_din hu ha hb) (hm _)) fun σ H Q h => ve_dinR σ H _ (vt_of_ve σ H Q h)
  | true => exact PT.imp (pt_cmp (pc_dnotin hu ha hb) (hm _)) fun σ H Q h => ve_dinR σ H _ (vt_of_ve σ H Q h)
/-! isinstance -/
def tyN : Ty → String
  | .int => "int"
  | .bool => "bool"
  | .list => "list"
  | .str => "str"
  | .tuple => "tuple"
def tyS : Ty → Str
  | .int => "int"
  | .bool => "bool"
  | .list => "list"
  | .str => "str"
  | .tuple => "tuple"
theorem ty_boot (T : Ty) : bootBuiltins (tyS T) = some (.type (tyN T)) := by cases T <;> decide +kernel
theorem ty_name (T : Ty) : tyS T ≠ "__name__" ∧ (tyS T == ("__debug__" : Str)) = false := by cases T <;> decide
theorem kitC_int (T : Ty) : kitB "int" (tyN T) = some (isTy T (.int 0)) := by cases T <;> decide +kernel
theorem kitC_str (T : Ty) : kitB "str" (tyN T) = some (isTy T (.str "")) := by cases T <;> decide +kernel
theorem kitC_lst (T : Ty) : kitB "list" (tyN T) = some (isTy T (.lst [])) := by cases T <;> decide +kernel
theorem kitC_tup (T : Ty) : kitB "tuple" (tyN T) = some (isTy T (.tup [])) := by cases T <;> decide +kernel
theorem ve_isi {a : E} {T : Ty} {x : Expr} {p p2 pos : Pos} (hg : Gl X "isinstance") (hm : X.mg "isinstance" = none) (hg2 : Gl X (tyS T)) (hm2 : X.mg (tyS T) = none) (ha : PE X x (VE X S Wx a)) (h1 : starEach [x, .Name (tyS T) p2] X.env = (false, eval x X.env) :: starEach [.Name (tyS T) p2] X.env)
    (hpl : (backTo pos (starEach [Expr.Name (tyS T) p2] X.env)).any (·.1) = false) : PE X (.Call (.Name "isinstance" p) [x, .Name (tyS T) p2] [] pos) (VE X S Wx (.isi a T)) := by
  refine PE.imp (pe_callB call_isi hg hm (by decide +kernel) (pa_cons ha (pa_cons (pe_bltn (v := .ty (tyN T)) hg2 hm2 (ty_boot T) rfl (ty_name T).1 (ty_name T).2) pa_nil rfl) h1) (by decide) (by decide) h1 hpl) ?_
  rintro σ H Q ⟨P, ρ, W, sv, xw, h⟩
  refine ⟨P, ρ, W, sv, xw, wpE.mono (fun d hd v1 H1 s1 r1 _ => ?_) (by unfold wpE at h; exact h)⟩
  have fin : ∀ b, Ak X.K P H (.isi a T) Q (.bl b) → Q (.bl b) H1 := fun b q => (Bk.up q s1 (fun a z => z) (fun e => nomatch e) : Bk X.K (Zal P (als (.isi a T)) H) H1 true Q _).at (.bl _)
  unfold isiW at hd
  cases r1 with
  | non => exact ⟨_, _, _, _, isTy T .non, rfl, .ty (tyN T), .base .non, kit_ty (by cases T <;> decide +kernel), fin _ hd⟩
  | bl b => exact ⟨_, _, _, _, isTy T (.bl b), rfl, .ty (tyN T), .base (.bl b), kit_ty (by cases T <;> (cases b <;> decide +kernel)), fin _ hd⟩
  | int i => exact ⟨_, _, _, _, isTy T (.int i), rfl, .ty (tyN T), .base (.int i), kit_ty (by have q := kitC_int T; cases T <;> exact q), fin _ hd⟩
  | str z => exact ⟨_, _, _, _, isTy T (.str z), rfl, .ty (tyN T), .base (.str z), kit_ty (by have q := kitC_str T; cases T <;> exact q), fin _ hd⟩
  | @lst c vs ds e z hl r => exact ⟨_, _, _, _, isTy T (.lst ds), rfl, .ty (tyN T), .base (.lst e), kit_ty (by have q := kitC_lst T; cases T <;> exact q), fin _ hd⟩
  | @tup c vs ds e hl r =>
    have hk : PySem.W.kitOne X.K (.type "tuple") (.type (tyN T)) = some (isTy T (.tup ds)) := kit_ty (by have q := kitC_tup T; cases T <;> exact q)
    exact ⟨_, _, _, _, _, rfl, .ty (tyN T), .base (.tup e), hk, fin _ hd⟩
  | scr e => exact hd.elim
  | exo e => exact hd.elim
  | dik h z hk r => exact hd.elim
  | dit h z hk r => exact hd.elim
  | ob h z hk r => exact hd.elim
  | hol v => exact hd.elim
end
end SV

set_option Elab.async false
set_option linter.all false
set_option maxRecDepth 100000
set_option maxHeartbeats 4000000
namespace SV
open PySem PySem.Spec PyProof.Rows L2
/-! ### what is walked -/
/-- an iterator that yields these data; while G holds -/
structure ItD (K : Fr) (J : It) (Z : Addr → Prop) (items : List D) (G : Hp → Prop) : Prop where
  w : Walk J items.length G fun i H x H' => Same H H' ∧ ∃ d, items[i]? = some d ∧ Rp K H' Z x d
  st : ∀ H H', G H → Mo Z H H' → G H'
section
variable {X : Cx} {S : Sg} {Wx : WX}
theorem itd_list {K : Fr} {Z : Addr → Prop} {a : Addr} {vs : List V} {ds : List D} (z : Z a) (hl : vs.length = ds.length) : ItD K (Itl K a) Z ds fun H => SqL K H a vs ∧ Rps K H Z vs ds := by
  refine ⟨?_, fun H H' h m => ⟨m.l h.1 z, h.2.mo m fun _ z => z⟩⟩
  rw [← hl]
  refine (walk_list (K := K) (a := a) (xs := vs)).mono (fun H h => h.1) fun i H x H' hi h y => ?_
  obtain ⟨rfl, e⟩ := y
  have hi2 : i < ds.length := by rw [← hl]; exact hi
  exact ⟨Same.refl _, ds[i], by simp [hi2], h.2.2 i x _ e (by simp [hi2])⟩
theorem itd_tup {K : Fr} {Z : Addr → Prop} {a : Addr} {vs : List V} {ds : List D} (hl : vs.length = ds.length) : ItD K (Itt K a) Z ds fun H => SqT K H a vs ∧ Rps K H Z vs ds := by
  refine ⟨?_, fun H H' h m => ⟨m.t h.1, h.2.mo m fun _ z => z⟩⟩
  rw [← hl]
  refine (walk_tup (K := K) (a := a) (xs := vs)).mono (fun H h => h.1) fun i H x H' hi h y => ?_
  obtain ⟨rfl, e⟩ := y
  have hi2 : i < ds.length := by rw [← hl]; exact hi
  exact ⟨Same.refl _, ds[i], by simp [hi2], h.2.2 i x _ e (by simp [hi2])⟩
theorem itd_str {K : Fr} {Z : Addr → Prop} {z : Str} : ItD K (Its z) Z (z.cps.toList.map fun c => .str ⟨#[c]⟩) fun _ => True := by
  refine ⟨?_, fun _ _ _ _ => trivial⟩
  rw [List.length_map, Array.length_toList]
  refine (walk_str (z := z)).mono (fun H h => h) fun i H x H' hi h y => ?_
  obtain ⟨rfl, c, e, rfl⟩ := y
  refine ⟨Same.refl _, .str ⟨#[c]⟩, ?_, .str _⟩
  rw [List.getElem?_map, Array.getElem?_toList, e] <;> rfl
theorem itd_range {K : Fr} {Z : Addr → Prop} {lo : Int} {n : Nat} : ItD K (Itr lo n) Z ((List.range n).map fun i => .int (lo + (i : Nat))) fun _ => True := by
  refine ⟨?_, fun _ _ _ _ => trivial⟩
  rw [List.length_map, List.length_range]
  refine (walk_range (lo := lo) (n := n)).mono (fun H h => h) fun i H x H' hi h y => ?_
  obtain ⟨rfl, rfl⟩ := y
  refine ⟨Same.refl _, .int (lo + (i : Nat)), ?_, .int _⟩
  rw [List.getElem?_map, List.getElem?_range hi] <;> rfl
theorem itd_rangeD {K : Fr} {Z : Addr → Prop} {lo : Int} {n : Nat} : ItD K (Itc lo (-1) n) Z ((List.range n).map fun i => .int (lo - (i : Nat))) fun _ => True := by
  refine ⟨?_, fun _ _ _ _ => trivial⟩
  rw [List.length_map, List.length_range]
  refine (walk_rangeC (lo := lo) (c := -1) (n := n)).mono (fun H h => h) fun i H x H' hi h y => ?_
  obtain ⟨rfl, rfl⟩ := y
  refine ⟨Same.refl _, .int (lo - (i : Nat)), ?_, ?_⟩
  · rw [List.getElem?_map, List.getElem?_range hi] <;> rfl
  · have e : lo + (i : Nat) * (-1) = lo - (i : Nat) := by omega
    show Rp K H' Z (V.int (lo + (i : Nat) * (-1))) (D.int (lo - (i : Nat)))
    rw [e]
    exact .int _
theorem itd_rangeP {K : Fr} {Z : Addr → Prop} {lo c : Int} {n : Nat} : ItD K (Itc lo c n) Z ((List.range n).map fun i => .int (lo + (i : Nat) * c)) fun _ => True := by
  refine ⟨?_, fun _ _ _ _ => trivial⟩
  rw [List.length_map, List.length_range]
  refine (walk_rangeC (lo := lo) (c := c) (n := n)).mono (fun H h => h) fun i H x H' hi h y => ?_
  obtain ⟨rfl, rfl⟩ := y
  refine ⟨Same.refl _, .int (lo + (i : Nat) * c), ?_, .int _⟩
  rw [List.getElem?_map, List.getElem?_range hi] <;> rfl
theorem itW_rnp {ds : List D} {Q : List D → Prop} (h : itW .rnp ds Q) : ∃ (i j c : Int) (n : Nat), ds = [.int i, .int j, .int c] ∧ RgC i j c n ∧ Q ((List.range n).map fun k => .int (i + (k : Nat) * c)) := by
  unfold itW at h
  split at h <;> first | cases ‹Ik.rnp = _› | skip
  · obtain ⟨n, h1, q⟩ := h
    exact ⟨_, _, _, n, rfl, h1, q⟩
  · exact h.elim
theorem itW_rn3 {ds : List D} {Q : List D → Prop} (h : itW .rn3 ds Q) : ∃ i j : Int, ds = [.int i, .int j, .int (-1)] ∧ (-(2 ^ 62) ≤ i ∧ i < 2 ^ 62 ∧ -(2 ^ 62) ≤ j ∧ j < 2 ^ 62) ∧ Q ((List.range (i - j).toNat).map fun k => .int (i - (k : Nat))) := by
  unfold itW at h
  split at h <;> first | cases ‹Ik.rn3 = _› | skip
  · obtain ⟨⟨h1, h2, h3, h4, rfl⟩, q⟩ := h
    exact ⟨_, _, rfl, ⟨h1, h2, h3, h4⟩, q⟩
  · exact h.elim
theorem itd_zip {K : Fr} {Z : Addr → Prop} {a b : Addr} {vs ws : List V} {ds es : List D} (za : Z a) (zb : Z b) (hl : vs.length = ds.length) (hl2 : ws.length = es.length) :
    ItD K (Itz K a b) Z ((ds.zip es).map fun p => .tup [p.1, p.2]) fun H => (SqL K H a vs ∧ Rps K H Z vs ds) ∧ (SqL K H b ws ∧ Rps K H Z ws es) := by
  refine ⟨?_, fun H H' h m => ⟨⟨m.l h.1.1 za, h.1.2.mo m fun _ z => z⟩, ⟨m.l h.2.1 zb, h.2.2.mo m fun _ z => z⟩⟩⟩
  have e0 : ((ds.zip es).map fun p => D.tup [p.1, p.2]).length = min vs.length ws.length := by rw [List.length_map, List.length_zip, hl, hl2]
  rw [e0]
  refine (walk_zip (K := K) (a := a) (b := b) (xs := vs) (ys := ws) rfl).mono (fun H h => ⟨h.1.1, h.2.1⟩) fun i H x H' hi h y => ?_
  obtain ⟨T, x1, x2, rfl, hT, rfl, e1, e2⟩ := y
  have h1 : i < ds.length := by omega
  have h2 : i < es.length := by omega
  have sm := same_new (o := HO.tup [x1, x2]) hT
  refine ⟨sm, .tup [ds[i], es[i]], ?_, ?_⟩
  · rw [List.getElem?_map, (List.getElem?_zip_eq_some (z := (ds[i], es[i]))).mpr ⟨by simp [h1], by simp [h2]⟩] <;> rfl
  · have r : Rps K (upd H T (.tup [x1, x2])) Z [x1, x2] [ds[i], es[i]] := (Rps.cons (h.1.2.2 i x1 _ e1 (by simp [h1])) (Rps.cons (h.2.2.2 i x2 _ e2 (by simp [h2])) .nil)).ex sm
    exact .tup upd_same r.1 r.2
theorem itd_enum {K : Fr} {Z : Addr → Prop} {a : Addr} {vs : List V} {ds : List D} (za : Z a) (hl : vs.length = ds.length) :
    ItD K (Ite K a) Z ((List.range ds.length).zip ds |>.map fun p => .tup [.int (p.1 : Nat), p.2]) fun H => SqL K H a vs ∧ Rps K H Z vs ds := by
  refine ⟨?_, fun H H' h m => ⟨m.l h.1 za, h.2.mo m fun _ z => z⟩⟩
  have e0 : ((List.range ds.length).zip ds |>.map fun p => D.tup [.int (p.1 : Nat), p.2]).length = vs.length := by rw [List.length_map, List.length_zip, List.length_range, hl]; omega
  rw [e0]
  refine (walk_enum (K := K) (a := a) (xs := vs)).mono (fun H h => h.1) fun i H x H' hi h y => ?_
  obtain ⟨T, x1, x2, rfl, hT, rfl, e1, e2⟩ := y
  cases e1
  have h1 : i < ds.length := by omega
  have sm := same_new (o := HO.tup [.int (i : Nat), x2]) hT
  refine ⟨sm, .tup [.int (i : Nat), ds[i]], ?_, ?_⟩
  · rw [List.getElem?_map, (List.getElem?_zip_eq_some (z := (i, ds[i]))).mpr ⟨List.getElem?_range h1, by simp [h1]⟩] <;> rfl
  · have r : Rps K (upd H T (.tup [.int (i : Nat), x2])) Z [.int (i : Nat), x2] [.int (i : Nat), ds[i]] := (Rps.cons (.int _) (Rps.cons (h.2.2 i x2 _ e2 (by simp [h1])) .nil)).ex sm
    exact .tup upd_same r.1 r.2
theorem ItD.up {K : Fr} {J : It} {Z Z' : Addr → Prop} {items : List D} {G : Hp → Prop} (h : ItD K J Z items G) (hz : ∀ a, Z a → Z' a) : ItD K J Z' items G :=
  ⟨h.w.mono (fun _ g => g) fun i H x H' _ _ ⟨s, d, e, r⟩ => ⟨s, d, e, r.z hz⟩, fun H H' g m => h.st H H' g fun a o e z => m a o e (z.imp (hz a) id)⟩
def VI (X : Cx) (S : Sg) (Wx : WX) (ik : Ik) (ies : List E) : TI := fun σ H R => ∃ (P : Nat → Addr → Prop) (ρ : Env) (W : Exc → Prop), Sv X.K H P ρ σ ∧ XW X Wx W σ H ∧
  wpEs S W ies ρ fun ds => itW ik ds fun items => ∀ J H' G, Same H H' → ItD X.K J (fun a => ik ≠ .rng ∧ Zal P (alss ies) H a ∧ H' a ≠ none) items G → G H' → R J H'
theorem vi_seq {e : E} {x tg : Expr} (h : PE X x (VE X S Wx e)) : PI X tg x (VI X S Wx .seq [e]) := by
  refine ⟨fun pins s σ H R I q => ?_⟩
  obtain ⟨P, ρ, W, sv, xw, w⟩ := q
  unfold wpEs at w
  refine thn (h.run pins s σ H (fun v H1 => Same H H1 ∧ ∃ d, Rp X.K H1 (Zal P (alss [e]) H) v d ∧ itW .seq [d] fun items => ∀ J H' G, Same H H' → ItD X.K J (fun a => Ik.seq ≠ .rng ∧ Zal P (alss [e]) H a ∧ H' a ≠ none) items G → G H' → R J H') I
    ⟨P, ρ, W, sv, xw, wpE.mono (fun d hd v1 H1 s1 r1 _ => ⟨s1, d, r1.z fun c z => z.mono (fun i hi => by simp [alss, hi]) (Same.refl H), by unfold wpEs at hd; exact hd⟩) w⟩) fun v s1 hh => ?_
  obtain ⟨y, H1, I1, r1, s01, d, rd, q⟩ := hh
  replace rd := rd.dom.z (Z' := fun a => Ik.seq ≠ .rng ∧ Zal P (alss [e]) H a ∧ H1 a ≠ none) fun a z => ⟨by decide, z⟩
  cases d <;> simp only [itW] at q
  · cases rd
    obtain ⟨t, rfl⟩ := r1
    rename_i z
    have q' := q (Its z) H1 _ s01 itd_str trivial
    cases ha : z.cps.all (· < 128)
    · exact wpAny_pyIter_wide ha (pi_one (tk := s1.toks) I1 _ (turn_str _ z t "str_iterator" (.inr rfl)) ⟨_, Heap.get?_push_size _ rfl, rfl, rfl⟩ q')
    · exact wpAny_pyIter_ascii ha (pi_one (tk := s1.toks) I1 _ (turn_str _ z t "str_ascii_iterator" (.inl rfl)) ⟨_, Heap.get?_push_size _ rfl, rfl, rfl⟩ q')
  · cases rd with
    | lst hq z hl r =>
      rename_i ds a vs
      cases r1
      have q' := q (Itl X.K a) H1 _ s01 (itd_list z hl) ⟨SqL.of hq, hl, r⟩
      obtain ⟨its, rv, p, hz⟩ := I1.list (SqL.of hq)
      refine wpAny_pyIter_list p.isList ?_
      refine ⟨s1.heap.objs.size, [s1.heap.objs.size], _, _, H1, rfl, I1.kept (t' := s1.toks) fun b o e => Heap.get?_push_of_some _ e, turn_list a _, ⟨_, Heap.get?_push_size _ rfl, rfl, rfl⟩, fun b hb => ?_, q'⟩
      have e : b = s1.heap.objs.size := by simpa using hb
      subst e
      exact I1.fpOk (Nat.le_refl _) (I1.hok.fresh (Nat.le_refl _))
  · cases rd with
    | tup hq hl r =>
      rename_i ds a vs
      cases r1
      have q' := q (Itt X.K a) H1 _ s01 (itd_tup hl) ⟨SqT.of hq, hl, r⟩
      obtain ⟨its, rv, p, hz⟩ := I1.tuple (SqT.of hq)
      refine wpAny_pyIter_tuple (show s1.heap.IsTuple a its.toArray from p) ?_
      refine ⟨s1.heap.objs.size, [s1.heap.objs.size], _, _, H1, rfl, I1.kept (t' := s1.toks) fun b o e => Heap.get?_push_of_some _ e, turn_tuple a _, ⟨_, Heap.get?_push_size _ rfl, rfl, rfl⟩, fun b hb => ?_, q'⟩
      have e : b = s1.heap.objs.size := by simpa using hb
      subst e
      exact I1.fpOk (Nat.le_refl _) (I1.hok.fresh (Nat.le_refl _))
theorem PI.imp {tg iter : Expr} {w w' : TI} (h : PI X tg iter w) (i : ∀ σ H R, w' σ H R → w σ H R) : PI X tg iter w' := ⟨fun pins s σ H R I q => h.run pins s σ H R I (i σ H R q)⟩
theorem vi_rng1 {e : E} {x tg : Expr} {p pos : Pos} (hg : Gl X "range") (hm : X.mg "range" = none) (ha : PA X [x] (VEs X S Wx [e])) (hs : starEach [x] X.env = [(false, eval x X.env)]) : PI X tg (.Call (.Name "range" p) [x] [] pos) (VI X S Wx .rng [e]) := by
  refine PI.imp (pi_range1 hg hm ha hs) ?_
  rintro σ H R ⟨P, ρ, W, sv, xw, w⟩
  refine ⟨P, ρ, W, sv, xw, ?_⟩
  unfold wpEs at w ⊢
  refine wpE.mono (fun d hd => ?_) w
  unfold wpEs at hd ⊢
  intro vs H1 s1 r1
  obtain ⟨v, rfl, rv⟩ := r1.one
  cases d <;> simp only [itW] at hd
  cases rv
  exact ⟨_, rfl, hd.1, hd.2.1, hd.2.2 _ H1 _ s1 itd_range trivial⟩
theorem vi_rng2 {e f : E} {x y tg : Expr} {p pos : Pos} (hg : Gl X "range") (hm : X.mg "range" = none) (ha : PA X [x, y] (VEs X S Wx [e, f])) (hs : starEach [x, y] X.env = [(false, eval x X.env), (false, eval y X.env)]) (hs2 : starEach [y] X.env = [(false, eval y X.env)]) :
    PI X tg (.Call (.Name "range" p) [x, y] [] pos) (VI X S Wx .rng [e, f]) := by
  refine PI.imp (pi_range2 hg hm ha hs hs2) ?_
  rintro σ H R ⟨P, ρ, W, sv, xw, w⟩
  refine ⟨P, ρ, W, sv, xw, ?_⟩
  unfold wpEs at w ⊢
  refine wpE.mono (fun d hd => ?_) w
  unfold wpEs at hd ⊢
  refine wpE.mono (fun d2 hd => ?_) hd
  unfold wpEs at hd ⊢
  intro vs H1 s1 r1
  obtain ⟨v, v2, rfl, rv, rv2⟩ := r1.two
  cases d <;> simp only [itW] at hd
  cases d2 <;> simp only [itW] at hd
  cases rv
  cases rv2
  exact ⟨_, _, rfl, hd.1, hd.2 _ H1 _ s1 itd_range trivial⟩
theorem vi_rn3 {e f g : E} {x y z tg : Expr} {p pos : Pos} (hg : Gl X "range") (hm : X.mg "range" = none) (ha : PA X [x, y, z] (VEs X S Wx [e, f, g])) (hs : starEach [x, y, z] X.env = (false, eval x X.env) :: starEach [y, z] X.env) (hpl : (backTo pos (starEach [y, z] X.env)).any (·.1) = false) :
    PI X tg (.Call (.Name "range" p) [x, y, z] [] pos) (VI X S Wx .rn3 [e, f, g]) := by
  refine PI.imp (pi_range3 hg hm ha hs hpl) ?_
  rintro σ H R ⟨P, ρ, W, sv, xw, w⟩
  refine ⟨P, ρ, W, sv, xw, ?_⟩
  unfold wpEs at w ⊢
  refine wpE.mono (fun d hd => ?_) w
  unfold wpEs at hd ⊢
  refine wpE.mono (fun d2 hd => ?_) hd
  unfold wpEs at hd ⊢
  refine wpE.mono (fun d3 hd => ?_) hd
  unfold wpEs at hd ⊢
  intro vs H1 s1 r1
  have h0 : ∃ v1 v2 v3, vs = [v1, v2, v3] ∧ Rp X.K H1 (Zal P (alss [e, f, g]) H) v1 d ∧ Rp X.K H1 (Zal P (alss [e, f, g]) H) v2 d2 ∧ Rp X.K H1 (Zal P (alss [e, f, g]) H) v3 d3 := by
    match vs, r1 with
    | [a, b, c], r => exact ⟨a, b, c, rfl, r.2 0 _ _ rfl rfl, r.2 1 _ _ rfl rfl, r.2 2 _ _ rfl rfl⟩
    | [], r => exact nomatch r.1
    | [_], r => exact absurd r.1 (by simp)
    | [_, _], r => exact absurd r.1 (by simp)
    | _ :: _ :: _ :: _ :: _, r => exact absurd r.1 (by simp)
  obtain ⟨v1, v2, v3, rfl, rv1, rv2, rv3⟩ := h0
  obtain ⟨i, j, e, ⟨h1, h2, h3, h4⟩, q⟩ := itW_rn3 hd
  cases e
  cases rv1
  cases rv2
  cases rv3
  exact ⟨_, _, _, _, rfl, RgC.neg h1 h2 h3 h4, q _ H1 _ s1 itd_rangeD trivial⟩
theorem vi_rnp {e f g : E} {x y z tg : Expr} {p pos : Pos} (hg : Gl X "range") (hm : X.mg "range" = none) (ha : PA X [x, y, z] (VEs X S Wx [e, f, g])) (hs : starEach [x, y, z] X.env = (false, eval x X.env) :: starEach [y, z] X.env) (hpl : (backTo pos (starEach [y, z] X.env)).any (·.1) = false) :
    PI X tg (.Call (.Name "range" p) [x, y, z] [] pos) (VI X S Wx .rnp [e, f, g]) := by
  refine PI.imp (pi_range3 hg hm ha hs hpl) ?_
  rintro σ H R ⟨P, ρ, W, sv, xw, w⟩
  refine ⟨P, ρ, W, sv, xw, ?_⟩
  unfold wpEs at w ⊢
  refine wpE.mono (fun d hd => ?_) w
  unfold wpEs at hd ⊢
  refine wpE.mono (fun d2 hd => ?_) hd
  unfold wpEs at hd ⊢
  refine wpE.mono (fun d3 hd => ?_) hd
  unfold wpEs at hd ⊢
  intro vs H1 s1 r1
  have h0 : ∃ v1 v2 v3, vs = [v1, v2, v3] ∧ Rp X.K H1 (Zal P (alss [e, f, g]) H) v1 d ∧ Rp X.K H1 (Zal P (alss [e, f, g]) H) v2 d2 ∧ Rp X.K H1 (Zal P (alss [e, f, g]) H) v3 d3 := by
    match vs, r1 with
    | [a, b, c], r => exact ⟨a, b, c, rfl, r.2 0 _ _ rfl rfl, r.2 1 _ _ rfl rfl, r.2 2 _ _ rfl rfl⟩
    | [], r => exact nomatch r.1
    | [_], r => exact absurd r.1 (by simp)
    | [_, _], r => exact absurd r.1 (by simp)
    | _ :: _ :: _ :: _ :: _, r => exact absurd r.1 (by simp)
  obtain ⟨v1, v2, v3, rfl, rv1, rv2, rv3⟩ := h0
  obtain ⟨i, j, c, n, e, h1, q⟩ := itW_rnp hd
  cases e
  cases rv1
  cases rv2
  cases rv3
  exact ⟨_, _, _, _, rfl, h1, q _ H1 _ s1 itd_rangeP trivial⟩
theorem vi_zip {e f : E} {x y : Expr} {elts : List Expr} {kk : Nat} {p pos tpos : Pos} (hg : Gl X "zip") (hm : X.mg "zip" = none) (ha : PA X [x, y] (VEs X S Wx [e, f])) (hs : starEach [x, y] X.env = (false, eval x X.env) :: starEach [y] X.env) (hpl : (backTo pos (starEach [y] X.env)).any (·.1) = false) :
    PI X (.Tuple elts kk tpos) (.Call (.Name "zip" p) [x, y] [] pos) (VI X S Wx .zip [e, f]) := by
  refine PI.imp (pi_zip hg hm ha hs hpl) ?_
  rintro σ H R ⟨P, ρ, W, sv, xw, w⟩
  refine ⟨P, ρ, W, sv, xw, ?_⟩
  unfold wpEs at w ⊢
  refine wpE.mono (fun d hd => ?_) w
  unfold wpEs at hd ⊢
  refine wpE.mono (fun d2 hd => ?_) hd
  unfold wpEs at hd ⊢
  intro vs H1 s1 r1
  obtain ⟨v, v2, rfl, rv, rv2⟩ := r1.two
  cases d <;> simp only [itW] at hd
  cases d2 <;> simp only [itW] at hd
  replace rv := rv.dom.z (Z' := fun a => Ik.zip ≠ .rng ∧ Zal P (alss [e, f]) H a ∧ H1 a ≠ none) fun a z => ⟨by decide, z⟩
  replace rv2 := rv2.dom.z (Z' := fun a => Ik.zip ≠ .rng ∧ Zal P (alss [e, f]) H a ∧ H1 a ≠ none) fun a z => ⟨by decide, z⟩
  cases rv with
  | lst h1 z1 l1 r1' =>
    cases rv2 with
    | lst h2 z2 l2 r2' => exact ⟨_, _, _, _, rfl, SqL.of h1, SqL.of h2, hd _ H1 _ s1 (itd_zip z1 z2 l1 l2) ⟨⟨SqL.of h1, l1, r1'⟩, SqL.of h2, l2, r2'⟩⟩
theorem vi_enum {e : E} {x : Expr} {elts : List Expr} {kk : Nat} {p pos tpos : Pos} (hg : Gl X "enumerate") (hm : X.mg "enumerate" = none) (ha : PA X [x] (VEs X S Wx [e])) (hs : starEach [x] X.env = [(false, eval x X.env)]) :
    PI X (.Tuple elts kk tpos) (.Call (.Name "enumerate" p) [x] [] pos) (VI X S Wx .enum [e]) := by
  refine PI.imp (pi_enum hg hm ha hs) ?_
  rintro σ H R ⟨P, ρ, W, sv, xw, w⟩
  refine ⟨P, ρ, W, sv, xw, ?_⟩
  unfold wpEs at w ⊢
  refine wpE.mono (fun d hd => ?_) w
  unfold wpEs at hd ⊢
  intro vs H1 s1 r1
  obtain ⟨v, rfl, rv⟩ := r1.one
  cases d <;> simp only [itW] at hd
  replace rv := rv.dom.z (Z' := fun a => Ik.enum ≠ .rng ∧ Zal P (alss [e]) H a ∧ H1 a ≠ none) fun a z => ⟨by decide, z⟩
  cases rv with
  | lst h1 z1 l1 r1' => exact ⟨_, _, rfl, SqL.of h1, hd _ H1 _ s1 (itd_enum z1 l1) ⟨SqL.of h1, l1, r1'⟩⟩
/-! ### targets -/
mutual
def slots : Tg → List Nat
  | .nm i => [i]
  | .tp ts => slotss ts
def slotss : List Tg → List Nat
  | [] => []
  | t :: ts => slots t ++ slotss ts
def tgLen : List Tg → Nat
  | [] => 0
  | _ :: ts => tgLen ts + 1
def gOf (K : Fr) : Tg → TG
  | .nm i => gName i
  | .tp ts => gTup K (tgLen ts) (gsOf K ts)
def gsOf (K : Fr) : List Tg → TGs
  | [] => gNil
  | t :: ts => gCons (gOf K t) (gsOf K ts)
end
theorem Sv.set {K : Fr} {H : Hp} {P : Nat → Addr → Prop} {ρ : Env} {σ : L2.St} (h : Sv K H P ρ σ) {i : Nat} {v : V} {d : D} (r : Rp K H (P i) v d) : Sv K H P (ρ.set i (some (.sh, d))) (σ.set i (some v)) := by
  refine ⟨by simpa using h.len, fun j k' d' e => ?_, fun j ds e => ?_⟩
  rotate_left
  · by_cases hj : j = i
    · subst hj
      have hl : j < ρ.length := by
        have := List.getElem?_eq_some_iff.mp e
        simpa using this.1
      rw [List.getElem?_set_self hl] at e
      cases e
    · rw [List.getElem?_set_ne (Ne.symm hj)] at e
      rw [List.getElem?_set_ne (Ne.symm hj)]
      exact h.shr j ds e
  by_cases hj : j = i
  · subst hj
    have hl : j < ρ.length := by
      have := List.getElem?_eq_some_iff.mp e
      simpa using this.1
    rw [List.getElem?_set_self hl] at e
    cases e
    exact ⟨v, List.getElem?_set_self (Nat.lt_of_lt_of_le hl h.len), r⟩
  · rw [List.getElem?_set_ne (Ne.symm hj)] at e
    rw [List.getElem?_set_ne (Ne.symm hj)]
    exact h.at_ j k' d' e
/-- the slots at js alone may differ -/
def Only1 (js : List Nat) (σ σ' : L2.St) : Prop := σ'.length = σ.length ∧ ∀ j, j ∉ js → σ'[j]? = σ[j]?
theorem Only1.refl {js : List Nat} {σ : L2.St} : Only1 js σ σ := ⟨rfl, fun _ _ => rfl⟩
theorem Only1.trans {js ks : List Nat} {σ σ1 σ2 : L2.St} (a : Only1 js σ σ1) (b : Only1 ks σ1 σ2) : Only1 (js ++ ks) σ σ2 := ⟨b.1.trans a.1, fun j hj => by
  rw [List.mem_append] at hj
  exact (b.2 j fun z => hj (.inr z)).trans (a.2 j fun z => hj (.inl z))⟩
mutual
theorem bind_sv {K : Fr} {H : Hp} {P : Nat → Addr → Prop} {Z : Addr → Prop} : ∀ {t : Tg} {d : D} {x : V} {ρ : Env} {σ : L2.St} {Q : Env → Prop} {R : L2.St → Hp → Prop}, Sv K H P ρ σ → Rp K H Z x d → (∀ i ∈ slots t, ∀ a, Z a → P i a) → bindT t d ρ Q →
    (∀ ρ' σ', Q ρ' → Sv K H P ρ' σ' → Only1 (slots t) σ σ' → R σ' H) → gOf K t x σ H R
  | .nm i, d, x, ρ, σ, Q, R, sv, r, hz, b, k => by
    unfold bindT at b
    unfold gOf gName
    refine k _ _ b (sv.set (r.z (hz i (by simp [slots])))) ⟨by simp, fun j hj => ?_⟩
    unfold slots at hj
    exact List.getElem?_set_ne (fun e => hj (by simp [e]))
  | .tp ts, d, x, ρ, σ, Q, R, sv, r, hz, b, k => by
    cases d with
    | tup ds =>
      have b2 : bindTs ts ds ρ Q := b
      obtain ⟨a, vs, rfl, ha, ra⟩ := r.tupE
      unfold gOf
      have hl : vs.length = tgLen ts := by
        rw [ra.1]
        clear b k hz sv r ra ha
        exact bindTs_len b2
      exact ⟨a, vs, rfl, ha, hl, binds_sv sv ra (fun i hi => hz i (by unfold slots; exact hi)) b2 fun ρ' σ' q s o => k ρ' σ' q s (by unfold slots; exact o)⟩
    | _ => exact (show False from b).elim
theorem binds_sv {K : Fr} {H : Hp} {P : Nat → Addr → Prop} {Z : Addr → Prop} : ∀ {ts : List Tg} {ds : List D} {xs : List V} {ρ : Env} {σ : L2.St} {Q : Env → Prop} {R : L2.St → Hp → Prop}, Sv K H P ρ σ → Rps K H Z xs ds → (∀ i ∈ slotss ts, ∀ a, Z a → P i a) → bindTs ts ds ρ Q →
    (∀ ρ' σ', Q ρ' → Sv K H P ρ' σ' → Only1 (slotss ts) σ σ' → R σ' H) → gsOf K ts xs σ H R
  | [], [], xs, ρ, σ, Q, R, sv, r, hz, b, k => by
    have e : xs = [] := List.length_eq_zero_iff.mp r.1
    subst e
    unfold gsOf gNil
    exact ⟨rfl, k ρ σ b sv .refl⟩
  | [], _ :: _, xs, ρ, σ, Q, R, sv, r, hz, b, k => (show False from b).elim
  | t :: ts, [], xs, ρ, σ, Q, R, sv, r, hz, b, k => (show False from b).elim
  | t :: ts, d :: ds, [], ρ, σ, Q, R, sv, r, hz, b, k => absurd r.1 (by simp)
  | t :: ts, d :: ds, x :: xs, ρ, σ, Q, R, sv, r, hz, b, k => by
    unfold gsOf gCons
    have r0 := r.2 0 x d rfl rfl
    have rt : Rps K H Z xs ds := ⟨by simpa using r.1, fun j v' d' e1 e2 => r.2 (j + 1) v' d' (by simpa using e1) (by simpa using e2)⟩
    refine ⟨x, xs, rfl, bind_sv (Q := fun ρ' => bindTs ts ds ρ' Q) sv r0 (fun i hi => hz i (by unfold slotss; exact List.mem_append_left _ hi)) b fun ρ1 σ1 b1 sv1 o1 => ?_⟩
    exact binds_sv sv1 rt (fun i hi => hz i (by unfold slotss; exact List.mem_append_right _ hi)) b1 fun ρ2 σ2 q sv2 o2 => k ρ2 σ2 q sv2 (by unfold slotss; exact o1.trans o2)
theorem bindTs_len : ∀ {ts : List Tg} {ds : List D} {ρ : Env} {Q : Env → Prop}, bindTs ts ds ρ Q → ds.length = tgLen ts
  | [], [], _, _, _ => by unfold tgLen; rfl
  | [], _ :: _, _, _, b => (show False from b).elim
  | t :: ts, [], _, _, b => (show False from b).elim
  | t :: ts, d :: ds, ρ, Q, b => by
    unfold tgLen
    rw [List.length_cons]
    exact congrArg (· + 1) (bindT_len2 (F := ds.length = tgLen ts) (fun ρ' b' => bindTs_len b') (show bindT t d ρ fun ρ' => bindTs ts ds ρ' Q from b))
theorem bindT_len2 : ∀ {t : Tg} {d : D} {ρ : Env} {Q : Env → Prop} {F : Prop}, (∀ ρ', Q ρ' → F) → bindT t d ρ Q → F
  | .nm i, d, ρ, Q, F, h, b => h _ b
  | .tp ts, d, ρ, Q, F, h, b => by
    cases d with
    | tup ds => exact bindTs_len2 h (show bindTs ts ds ρ Q from b)
    | _ => exact (show False from b).elim
theorem bindTs_len2 : ∀ {ts : List Tg} {ds : List D} {ρ : Env} {Q : Env → Prop} {F : Prop}, (∀ ρ', Q ρ' → F) → bindTs ts ds ρ Q → F
  | [], [], ρ, Q, F, h, b => h _ b
  | [], _ :: _, ρ, Q, F, h, b => (show False from b).elim
  | t :: ts, [], ρ, Q, F, h, b => (show False from b).elim
  | t :: ts, d :: ds, ρ, Q, F, h, b => bindT_len2 (Q := fun ρ' => bindTs ts ds ρ' Q) (fun ρ' b' => bindTs_len2 h b') b
end
end
end SV

set_option Elab.async false
set_option linter.all false
set_option maxRecDepth 100000
set_option maxHeartbeats 4000000
namespace SV
open PySem PySem.Spec PyProof.Rows L2
section
variable {X : Cx} {S : Sg} {Wx : WX}
abbrev W0 : WX := fun _ _ _ _ => False
theorem wipe_at (σ : L2.St) : ∀ (vs : List Nat) (j : Nat), (wipe σ vs)[j]? = if j ∈ vs ∧ j < σ.length then some none else σ[j]?
  | [], j => by simp [wipe]
  | v :: vs, j => by
    unfold wipe
    by_cases hj : j = v
    · subst hj
      by_cases hl : j < σ.length
      · rw [List.getElem?_set_self (by rw [wipe_length]; exact hl), if_pos ⟨by simp, hl⟩]
      · rw [if_neg (fun h => hl h.2), List.getElem?_eq_none (by rw [List.length_set, wipe_length]; omega), List.getElem?_eq_none (by omega)]
    · rw [List.getElem?_set_ne (Ne.symm hj), wipe_at σ vs j]
      have e : (j ∈ v :: vs ∧ j < σ.length) ↔ (j ∈ vs ∧ j < σ.length) := by simp [hj]
      by_cases h : j ∈ vs ∧ j < σ.length
      · rw [if_pos h, if_pos (e.mpr h)]
      · rw [if_neg h, if_neg (fun q => h (e.mp q))]
theorem wipe_only {σ σ' : L2.St} {vs js : List Nat} (o : Only1 js (wipe σ vs) σ') (hs : ∀ i ∈ js, i ∈ vs) : wipe σ' vs = wipe σ vs := by
  have hl : σ'.length = σ.length := o.1.trans (wipe_length σ vs)
  refine List.ext_getElem? fun j => ?_
  rw [wipe_at, wipe_at, hl]
  by_cases hj : j ∈ vs ∧ j < σ.length
  · rw [if_pos hj, if_pos hj]
  · rw [if_neg hj, if_neg hj]
    by_cases hv : j ∈ vs
    · have : ¬ j < σ.length := fun q => hj ⟨hv, q⟩
      rw [List.getElem?_eq_none (by omega), List.getElem?_eq_none (by omega)]
    · have := o.2 j (fun q => hv (hs j q))
      rw [this, wipe_at, if_neg (fun q => hv q.1)]
theorem wipeE_length (ρ : Env) : ∀ vs : List Nat, (wipeE ρ vs).length = ρ.length
  | [] => rfl
  | v :: vs => by unfold wipeE; rw [List.length_set, wipeE_length ρ vs]
theorem wipeE_at {ρ : Env} {k : Kd} {d : D} : ∀ {vs : List Nat} {j : Nat}, (wipeE ρ vs)[j]? = some (some (k, d)) → j ∉ vs ∧ ρ[j]? = some (some (k, d))
  | [], j, h => ⟨by simp, h⟩
  | v :: vs, j, h => by
    unfold wipeE at h
    by_cases hj : j = v
    · subst hj
      have hl : j < (wipeE ρ vs).length := by
        have := (List.getElem?_eq_some_iff.mp h).1
        simpa using this
      rw [List.getElem?_set_self hl] at h
      cases h
    · rw [List.getElem?_set_ne (Ne.symm hj)] at h
      obtain ⟨h1, h2⟩ := wipeE_at h
      exact ⟨by simp [hj, h1], h2⟩
theorem Sv.wipe {K : Fr} {H : Hp} {P : Nat → Addr → Prop} {ρ : Env} {σ : L2.St} (h : Sv K H P ρ σ) (vs : List Nat) : Sv K H P (wipeE ρ vs) (L2.wipe σ vs) := by
  refine ⟨by rw [wipeE_length, wipe_length]; exact h.len, fun j k d e => ?_, fun j ds e => by
    obtain ⟨h1, h2⟩ := wipeE_at e
    obtain ⟨p, vs, h3, h4, h5⟩ := h.shr j ds h2
    exact ⟨p, vs, by rw [wipe_at, if_neg (fun q => h1 q.1)]; exact h3, h4, h5⟩⟩
  obtain ⟨h1, h2⟩ := wipeE_at e
  obtain ⟨v, h3, h4⟩ := h.at_ j k d h2
  exact ⟨v, by rw [wipe_at, if_neg (fun q => h1 q.1)]; exact h3, h4⟩
theorem Sv.p {K : Fr} {H : Hp} {P P' : Nat → Addr → Prop} {ρ : Env} {σ : L2.St} (h : Sv K H P ρ σ) (hp : ∀ (i : Nat) k d, ρ[i]? = some (some (k, d)) → ∀ a, P i a ∧ H a ≠ none → P' i a) (hs : ∀ a, P 999999 a ∧ H a ≠ none → P' 999999 a) : Sv K H P' ρ σ :=
  ⟨h.len, fun j k d e => by
    obtain ⟨v, h3, h4⟩ := h.at_ j k d e
    exact ⟨v, h3, h4.dom.z (hp j k d e)⟩, fun j ds e => by
    obtain ⟨p, vs, h3, h4, h5⟩ := h.shr j ds e
    exact ⟨p, vs, h3, h4, h5.1, fun n v d a b => (h5.2 n v d a b).dom.z hs⟩⟩
/-- the test of a comprehension -/
def ttOf (X : Cx) (S : Sg) : List E → TT
  | [] => tYes
  | c :: _ => VT X S W0 c
def cstep (S : Sg) (tg : Tg) (own : List (Str × Nat)) (ifs : List E) (elt : E) (ρ : Env) : D → (Option D → Prop) → Prop := fun x k => bindT tg x (wipeE ρ (own.map (·.2))) fun ρ' => wpEs S (fun _ => False) ifs ρ' fun bs => ifW bs (wpE S (fun _ => False) elt ρ' fun d => k (some d)) (k none)
theorem vc_read {own : List (Str × Nat)} {tg : Tg} {ik : Ik} {ies ifs : List E} {elt : E} (hsl : ∀ i ∈ slots tg, i ∈ own.map (·.2)) (hif : ifs.length ≤ 1) :
    ∀ σ H Q, VE X S Wx (.comp own tg ik ies ifs elt) σ H Q → tLc (VI X S Wx ik ies) (gOf X.K tg) (ttOf X S ifs) (VE X S W0 elt) (own.map (·.2)) σ H Q := by
  rintro σ H Q ⟨P, ρ, W, sv, xw, h⟩
  unfold wpE at h
  refine ⟨P, ρ, W, sv, xw, wpEs.mono (fun ds hx => ?_) h⟩
  refine itW.mono (fun items hlc => ?_) hx
  intro J H1 G s1 it' g0 Da hD
  have it := it'.up (Z' := fun a => Zal P (alss ies) H a ∧ H1 a ≠ none) fun a z => z.2
  have svD := (sv.ex s1).p (P' := fun i a => P i a ∧ H1 a ≠ none) (fun i k d e a z => z) fun a z => z
  have q0 := same_new (o := HO.lst []) hD
  let Z0 : Addr → Prop := fun a => Zal P (als (.comp own tg ik ies ifs elt)) H a ∧ a ≠ Da
  have mo : ∀ {H2 : Hp} {ys ws : List V}, H2 Da = some (.lst ys) → Mo (fun a => Zal P (alss ies) H a ∧ H1 a ≠ none) H2 (upd H2 Da (.lst ws)) := fun {H2 ys ws} e a o ea z => by
    have hne : a ≠ Da := by
      rintro rfl
      rw [e] at ea
      cases ea
      rcases z with z | z
      · exact z.2 hD
      · exact z trivial
    rw [upd_ne hne]; exact ea
  refine lc_it it.w (Pv := fun i H2 => ∃ acc accV, H2 Da = some (.lst accV) ∧ (∀ a o, H1 a = some o → H2 a = some o) ∧ Rps X.K H2 Z0 accV acc ∧ G H2 ∧
    lcW (cstep S tg own ifs elt ρ) (items.drop i) acc fun acc => Ak X.K P H (.comp own tg ik ies ifs elt) Q (.lst acc)) ?_ (fun i H2 _ h => h.choose_spec.choose_spec.2.2.2.1) ?_ ?_
  · exact ⟨[], [], upd_same, fun a o e => q0 a o e, .nil, it.st _ _ g0 (Mo.ex q0), hlc⟩
  · rintro i x H2 H3 hlt ⟨acc, accV, e1, k1, ra, g2, w⟩ ⟨s3, d, ed, rd⟩
    rw [List.drop_eq_getElem_cons hlt] at w
    have ed2 : items[i] = d := by
      rw [List.getElem?_eq_getElem hlt] at ed
      exact Option.some.inj ed
    rw [ed2] at w
    have eD3 : H3 Da = some (.lst accV) := s3 _ _ e1
    have svW := (svD.ex (H' := H3) fun a o e => s3 a o (k1 a o e)).wipe (own.map (·.2))
    have svI : Sv X.K H3 (fun j a => (if j ∈ own.map (·.2) then (Zal P (alss ies) H a ∧ H1 a ≠ none) else (P j a ∧ H1 a ≠ none)) ∨ (j = 999999 ∧ P 999999 a ∧ H1 a ≠ none)) (wipeE ρ (own.map (·.2))) (wipe σ (own.map (·.2))) := svW.p (fun j k d e a z => by
      rw [if_neg (wipeE_at e).1]
      exact .inl z.1) fun a z => .inr ⟨rfl, z.1⟩
    have gG : G H3 := it.st _ _ g2 (Mo.ex s3)
    have ra3 := ra.ex s3
    -- the element's store
    have fin : ∀ (d2 : D) (y : V) (H4 : Hp), Same H3 H4 → Rp X.K H4 (Zal (fun j a => (if j ∈ own.map (·.2) then (Zal P (alss ies) H a ∧ H1 a ≠ none) else (P j a ∧ H1 a ≠ none)) ∨ (j = 999999 ∧ P 999999 a ∧ H1 a ≠ none)) (als elt) H3) y d2 → acc.length < sizeLine →
        lcW (cstep S tg own ifs elt ρ) (items.drop (i + 1)) (acc ++ [d2]) (fun acc => Ak X.K P H (.comp own tg ik ies ifs elt) Q (.lst acc)) →
        ∃ acc', H4 Da = some (.lst acc') ∧ acc'.length < sizeLine ∧ ∃ acc accV, upd H4 Da (.lst (acc' ++ [y])) Da = some (.lst accV) ∧ (∀ a o, H1 a = some o → upd H4 Da (.lst (acc' ++ [y])) a = some o) ∧ Rps X.K (upd H4 Da (.lst (acc' ++ [y]))) Z0 accV acc ∧ G (upd H4 Da (.lst (acc' ++ [y]))) ∧
          lcW (cstep S tg own ifs elt ρ) (items.drop (i + 1)) acc (fun acc => Ak X.K P H (.comp own tg ik ies ifs elt) Q (.lst acc)) := by
      intro d2 y H4 s4 r4 hl w4
      have eD4 : H4 Da = some (.lst accV) := s4 _ _ eD3
      refine ⟨accV, eD4, by rw [ra.1]; exact hl, acc ++ [d2], accV ++ [y], upd_same, fun a o e => ?_, ?_, it.st _ _ (it.st _ _ gG (Mo.ex s4)) (mo eD4), w4⟩
      · rw [upd_ne (ne_of_none e hD)]
        exact s4 _ _ (s3 _ _ (k1 a o e))
      · have r4' : Rp X.K H4 Z0 y d2 := r4.z fun a z => by
          rcases z with ⟨j, hj, z⟩ | z
          · rcases z with z | ⟨rfl, z⟩
            rotate_left
            · refine ⟨.inl ⟨_, by unfold als; exact List.mem_append_right _ hj, z.1⟩, ?_⟩
              rintro rfl; exact z.2 hD
            split at z
            · refine ⟨z.1.mono (fun i hi => by unfold als; exact List.mem_append_left _ hi) (Same.refl H), ?_⟩
              rintro rfl; exact z.2 hD
            · refine ⟨.inl ⟨j, by unfold als; exact List.mem_append_right _ hj, z.1⟩, ?_⟩
              rintro rfl; exact z.2 hD
          · refine ⟨.inr (s1.free (Same.free (fun a o e => s3 a o (k1 a o e)) z)), ?_⟩
            rintro rfl
            rw [eD3] at z; cases z
        refine ((ra3.ex s4).app (.cons r4' .nil)).mo (fun a o e z => ?_) (fun a z => z)
        have hne : a ≠ Da := by
          rintro rfl
          rw [eD4] at e
          cases e
          rcases z with z | z
          · exact z.2 rfl
          · exact z trivial
        rw [upd_ne hne]; exact e
    have skip : lcW (cstep S tg own ifs elt ρ) (items.drop (i + 1)) acc (fun acc => Ak X.K P H (.comp own tg ik ies ifs elt) Q (.lst acc)) → ∀ H4, Same H3 H4 → ∃ acc accV, H4 Da = some (.lst accV) ∧ (∀ a o, H1 a = some o → H4 a = some o) ∧ Rps X.K H4 Z0 accV acc ∧ G H4 ∧
          lcW (cstep S tg own ifs elt ρ) (items.drop (i + 1)) acc (fun acc => Ak X.K P H (.comp own tg ik ies ifs elt) Q (.lst acc)) := fun w4 H4 s4 =>
      ⟨acc, accV, s4 _ _ eD3, fun a o e => s4 _ _ (s3 _ _ (k1 a o e)), ra3.ex s4, it.st _ _ gG (Mo.ex s4), w4⟩
    unfold lcW at w
    unfold cstep at w
    refine bind_sv svI rd (fun j hj a z => .inl (by rw [if_pos (hsl j hj)]; exact z)) w fun ρ' σ' w' sv' o => ⟨wipe_only o hsl, ?_⟩
    have xw0 : ∀ (σ : L2.St) (H : Hp), XW X W0 (fun _ => False) σ H := fun _ _ _ f => f.elim
    cases ifs with
    | nil =>
      have tt : ∀ (Q : Bool → Hp → Prop), Q true H3 → ttOf X S [] σ' H3 Q := fun Q h => h
      refine tt _ ?_
      rw [if_pos rfl]
      unfold wpEs at w'
      refine ⟨_, ρ', _, sv', xw0 σ' H3, wpE.mono (fun d2 hd2 y H4 s4 r4 _ => ?_) (show wpE S (fun _ => False) elt ρ' _ from w')⟩
      exact fin d2 y H4 s4 r4 hd2.1 hd2.2
    | cons c r =>
      cases r with
      | cons _ _ => exact absurd hif (by simp)
      | nil =>
        unfold ttOf
        refine ⟨_, ρ', _, sv', xw0 σ' H3, ?_⟩
        unfold wpEs at w'
        refine wpE.mono (fun b hb => ?_) w'
        unfold wpEs at hb
        cases b with
        | bl b =>
          cases b with
          | true =>
            refine ⟨true, rfl, fun H4 s4 => ?_⟩
            refine L2.iteT ?_
            refine ⟨_, ρ', _, sv'.ex s4, xw0 σ' H4, wpE.mono (fun d2 hd2 y H5 s5 r5 _ => ?_) (show wpE S (fun _ => False) elt ρ' _ from hb)⟩
            exact fin d2 y H5 (s4.trans s5) (r5.z fun a z => z.mono (fun _ h => h) s4) hd2.1 hd2.2
          | false =>
            refine ⟨false, rfl, fun H4 s4 => ?_⟩
            refine L2.iteF ?_
            exact skip (show lcW (cstep S tg own [c] elt ρ) (items.drop (i + 1)) acc _ from hb) H4 s4
        | _ => exact (show False from hb).elim
  · rintro H2 ⟨acc, accV, e1, k1, ra, g2, w⟩
    rw [List.drop_eq_nil_of_le (Nat.le_refl _)] at w
    unfold lcW at w
    have e2 : Same H H2 := s1.trans fun a o e => k1 a o e
    refine w (.ref Da) H2 e2 (.lst e1 (.inr (s1.free hD)) ra.1 fun j v d a b => (ra.2 j v d a b).z fun a z => z.1) fun _ ds' q => ?_
    cases q
    exact ⟨Da, accV, rfl, s1.free hD, e1, ra.mo (Mo.ex (Same.refl _)) fun a z => z⟩
/-- a comprehension's parts -/
structure CParts (X : Cx) (S : Sg) (Wx : WX) (own : List (Str × Nat)) (tg : Tg) (ik : Ik) (ies ifs : List E) (elt : E) (eltE tgE iter : Expr) (ifsE : List Expr) (scope : Scope) : Prop where
  hi : PI X tgE iter (VI X S Wx ik ies)
  ok : BlkOk X.N X.env.scope scope own
  hsl : ∀ i ∈ slots tg, i ∈ own.map (·.2)
  hif : ifs.length ≤ 1
  hg : ∀ (s : Shared) (H : Hp) (C : Addr) (cl : List (Str × Addr)) (fp : List Addr), PG (X.blk s H scope (compEnvC scope cl C X.env) fp) tgE (gOf X.K tg)
  ht : ∀ (s : Shared) (H : Hp) (C : Addr) (cl : List (Str × Addr)) (fp : List Addr), PTs (X.blk s H scope (compEnvC scope cl C X.env) fp) ifsE (ttOf X S ifs)
  he : ∀ (s : Shared) (H : Hp) (C : Addr) (cl : List (Str × Addr)) (fp : List Addr), PE (X.blk s H scope (compEnvC scope cl C X.env) fp) eltE (VE X S W0 elt)
  hs : ∀ x, foldedSetIterable iter X.env x = pure x
theorem ve_comp {own : List (Str × Nat)} {tg : Tg} {ik : Ik} {ies ifs : List E} {elt : E} {eltE tgE iter : Expr} {ifsE : List Expr} {scope : Scope} {pos : Pos} (hc : X.calm = true) (nd : X.N.Nodup) (p : CParts X S Wx own tg ik ies ifs elt eltE tgE iter ifsE scope) :
    PE X (.ListComp eltE [⟨tgE, iter, ifsE, 0⟩] scope pos) (VE X S Wx (.comp own tg ik ies ifs elt)) := PE.imp (pe_lc hc nd p.hi p.ok p.hg p.ht p.he p.hs) (vc_read p.hsl p.hif)
/-! ### the check: an expression is the one that is written here -/
def visB (sc : Scope) (x : Str) : Bool := match sc.names.lookup x with
  | some .local => true
  | some .cell => true
  | some .free => true
  | _ => false
def gloB (sc : Scope) (x : Str) : Bool := (match sc.names.lookup x with
  | some .globalImplicit => true
  | _ => false) && !(x == ("__debug__" : Str))
def locB (sc : Scope) (x : Str) : Bool := match sc.names.lookup x with
  | some .local => true
  | _ => false
def locC (sc : Scope) (x : Str) : Bool := match sc.names.lookup x with
  | some .local => true
  | some .cell => true
  | _ => false
def isStar : Expr → Bool
  | .Starred _ _ => true
  | _ => false
def isSlice : Expr → Bool
  | .Slice _ _ _ _ => true
  | _ => false
def isSet : Expr → Bool
  | .Set _ _ _ => true
  | _ => false
def itArgs : Ik → Expr → List Expr
  | .seq, e => [e]
  | _, .Call _ args [] _ => args
  | _, _ => []
def nameSub : Expr → Bool
  | .Name _ _ => true
  | .Subscript _ _ _ => true
  | _ => false
theorem base_ok {x : Expr} {m : Str} {env : PySem.Env} (h : nameSub x = true) : attributeBase x m env (eval x env) = eval x env := by
  cases x <;> first | rfl | cases h
def isTupE : Expr → Bool
  | .Tuple _ _ _ => true
  | _ => false
def itOk (sc : Scope) : Ik → Expr → Expr → Bool
  | .seq, _, _ => true
  | .rng, _, .Call (.Name x _) args [] _ => decide (x = "range") && gloB sc x && (args.length == 1 || args.length == 2)
  | .rn3, _, .Call (.Name x _) args [] _ => decide (x = "range") && gloB sc x && args.length == 3
  | .rnp, _, .Call (.Name x _) args [] _ => decide (x = "range") && gloB sc x && args.length == 3
  | .zip, tg, .Call (.Name x _) args [] _ => decide (x = "zip") && gloB sc x && args.length == 2 && isTupE tg
  | .enum, tg, .Call (.Name x _) args [] _ => decide (x = "enumerate") && gloB sc x && args.length == 1 && isTupE tg
  | _, _, _ => false
mutual
def chkT (N : List Str) (lo : Str → Bool) : Tg → Expr → Bool
  | .nm i, e => match e with
    | .Name x _ => decide (N[i]? = some x) && lo x
    | _ => false
  | .tp ts, e => match e with
    | .Tuple es _ _ => chkTs N lo ts es
    | _ => false
def chkTs (N : List Str) (lo : Str → Bool) : List Tg → List Expr → Bool
  | [], es => es.isEmpty
  | t :: ts, es => match es with
    | e :: es => chkT N lo t e && chkTs N lo ts es
    | [] => false
end
/-- an f-string's parts -/
def chkF (N : List Str) (sc : Scope) : List (Str ⊕ Nat) → List Expr → Bool
  | [], es => es.isEmpty
  | .inl z :: ps, es => match es with
    | .Constant (.str y) _ _ :: r => decide (y = z) && chkF N sc ps r
    | _ => false
  | .inr i :: ps, es => match es with
    | .FormattedValue (.Name x _) c none _ :: r => decide (c = -1) && decide (N[i]? = some x) && visB sc x && !(x == ("__debug__" : Str)) && !(x == ("__classdict__" : Str)) && chkF N sc ps r
    | _ => false
def tOk : E → Bool
  | .ite _ _ _ => false
  | _ => true
mutual
def chkE (N : List Str) (sc : Scope) (ht : Bool) : E → Expr → Bool
  | .var i, e => match e with
    | .Name x _ => decide (N[i]? = some x) && visB sc x && !(x == ("__debug__" : Str)) && !(x == ("__classdict__" : Str))
    | _ => false
  | .int n, e => match e with
    | .Constant (.int m) _ _ => decide (m = n)
    | _ => false
  | .str z, e => match e with
    | .Constant (.str m) _ _ => decide (m = z)
    | _ => false
  | .bl b, e => match e with
    | .Constant (.bool m) _ _ => decide (m = b)
    | _ => false
  | .non, e => match e with
    | .Constant .none _ _ => true
    | _ => false
  | .glo z, e => match e with
    | .Name x _ => decide (x = z) && gloB sc x
    | _ => false
  | .bin o a b, e => match e with
    | .BinOp x op y _ => decide (op = bopOf o) && chkE N sc ht a x && chkE N sc ht b y
    | _ => false
  | .neg a, e => match e with
    | .UnaryOp .USub x _ => chkE N sc ht a x
    | _ => false
  | .cmp o a b, e => match e with
    | .Compare x [op] [y] _ => decide (op = copOf o) && !(isSet y) && chkE N sc ht a x && chkE N sc ht b y
    | _ => false
  | .chain o o' a b c, e => match e with
    | .Compare x [op, op'] [y, z] _ => decide (op = copOf o) && decide (op' = copOf o') && !(isSet z) && chkE N sc ht a x && chkE N sc ht b y && chkE N sc ht c z
    | _ => false
  | .isN a, e => match e with
    | .Compare x [.Is] [.Constant .none _ _] _ => chkE N sc ht a x
    | _ => false
  | .notN a, e => match e with
    | .Compare x [.IsNot] [.Constant .none _ _] _ => chkE N sc ht a x
    | _ => false
  | .and es, e => match e with
    | .BoolOp .And xs _ => !(es.isEmpty) && es.all tOk && chkEs N sc ht es xs
    | _ => false
  | .or es, e => match e with
    | .BoolOp .Or xs _ => !(es.isEmpty) && es.all tOk && chkEs N sc ht es xs
    | _ => false
  | .not a, e => match e with
    | .UnaryOp .Not x _ => tOk a && chkE N sc ht a x
    | _ => false
  | .ite c a b, e => match e with
    | .IfExp x y z _ => tOk c && chkE N sc ht c x && chkE N sc ht a y && chkE N sc ht b z
    | _ => false
  | .idx a i, e => match e with
    | .Subscript x y _ => !(isSlice y) && chkE N sc ht a x && chkE N sc ht i y
    | _ => false
  | .slc a lo hi, e => match e with
    | .Subscript x (.Slice l h none _) _ => chkE N sc ht a x && chkEs N sc ht lo l.toList && chkEs N sc ht hi h.toList
    | _ => false
  | .rev a, e => match e with
    | .Subscript x (.Slice none none (some (.UnaryOp .USub (.Constant (.int m) _ _) _)) _) _ => decide (m = 1) && chkE N sc ht a x
    | _ => false
  | .lst es, e => match e with
    | .List xs _ => chkEs N sc ht es xs
    | _ => false
  | .tup es, e => match e with
    | .Tuple xs _ _ => chkEs N sc ht es xs
    | _ => false
  | .bi b es, e => match e with
    | .Call (.Name x _) xs [] _ => !ht && decide (x = biName b) && gloB sc x && !(es.isEmpty) && chkEs N sc ht es xs
    | _ => false
  | .call f es, e => match e with
    | .Call (.Name x _) xs [] _ => decide (x = f) && gloB sc x && !(es.isEmpty) && chkEs N sc ht es xs
    | _ => false
  | .isi a T, e => match e with
    | .Call (.Name f _) [x, .Name y _] [] _ => decide (f = "isinstance") && decide (y = tyS T) && gloB sc f && gloB sc y && !(isStar x) && chkE N sc ht a x
    | _ => false
  | .lrg a b, e => match e with
    | .Call (.Name f _) [.Call (.Name g _) [x, y] [] _] [] _ => !ht && decide (f = "list") && decide (g = "range") && gloB sc f && gloB sc g && !(isStar x) && !(isStar y) && chkE N sc ht a x && chkE N sc ht b y
    | _ => false
  | .els i b, e => match e with
    | .Subscript (.Name x _) y _ => !(isSlice y) && decide (N[i]? = some x) && visB sc x && !(x == ("__debug__" : Str)) && !(x == ("__classdict__" : Str)) && chkE N sc ht b y
    | _ => false
  | .upp a, e => match e with
    | .Call (.Attribute x m apos) [] [] pos => decide (m = "upper") && (apos.endLine == pos.line) && nameSub x && chkE N sc ht a x
    | _ => false
  | .lix a b, e => match e with
    | .Call (.Attribute x m apos) [y] [] pos => decide (m = "index") && (apos.endLine == pos.line) && nameSub x && !(isStar y) && chkE N sc ht a x && chkE N sc ht b y
    | _ => false
  | .srd a, e => match e with
    | .Call (.Name f _) [x] [] _ => !ht && decide (f = "sorted") && gloB sc f && !(isStar x) && chkE N sc ht a x
    | _ => false
  | .srp a, e => match e with
    | .Call (.Name f _) [x] [] _ => !ht && decide (f = "sorted") && gloB sc f && !(isStar x) && chkE N sc ht a x
    | _ => false
  | .srs a, e => match e with
    | .Call (.Name f _) [.Call (.Name g _) [x] [] _] [] _ => !ht && decide (f = "sorted") && decide (g = "set") && gloB sc f && gloB sc g && !(isStar x) && chkE N sc ht a x
    | _ => false
  | .sorR a, e => match e with
    | .Call (.Name f _) [x] [⟨some g, .Constant (.bool m) _ _, _⟩] _ => !ht && decide (f = "sorted") && decide (g = "reverse") && m && gloB sc f && !(isStar x) && chkE N sc ht a x
    | _ => false
  | .chain3 o1 o2 o3 a b c d, e => match e with
    | .Compare x [p1, p2, p3] [y, z, w] _ => decide (p1 = copOf o1) && decide (p2 = copOf o2) && decide (p3 = copOf o3) && ([Cop.lt, .le, .gt, .ge].contains o1) && ([Cop.lt, .le, .gt, .ge].contains o2) && ([Cop.lt, .le, .gt, .ge].contains o3) && !(isSet w) && chkE N sc ht a x && chkE N sc ht b y && chkE N sc ht c z && chkE N sc ht d w
    | _ => false
  | .fj ps, e => match e with
    | .JoinedStr (v1 :: v2 :: rest) _ => chkF N sc ps (v1 :: v2 :: rest)
    | _ => false
  | .jn s a, e => match e with
    | .Call (.Attribute (.Constant (.str z) _ _) m apos) [x] [] pos => decide (z = s) && decide (m = "join") && (apos.endLine == pos.line) && !(isStar x) && chkE N sc ht a x
    | _ => false
  | .dgt a b, e => match e with
    | .Subscript x y _ => !(isSlice y) && chkE N sc ht a x && chkE N sc ht b y
    | _ => false
  | .dg1 a b, e => match e with
    | .Call (.Attribute x m apos) [y] [] pos => decide (m = "get") && (apos.endLine == pos.line) && nameSub x && !(isStar y) && chkE N sc ht a x && chkE N sc ht b y
    | _ => false
  | .dg2 a b c, e => match e with
    | .Call (.Attribute x m apos) [y, z] [] pos => decide (m = "get") && (apos.endLine == pos.line) && nameSub x && !(isStar y) && !(isStar z) && chkE N sc ht a x && chkE N sc ht b y && chkE N sc ht c z
    | _ => false
  | .din neg a b, e => match e with
    | .Compare x [op] [y] _ => decide (op = if neg = true then CmpOp.NotIn else CmpOp.In) && !(isSet y) && chkE N sc ht a x && chkE N sc ht b y
    | _ => false
  | .spl a s, e => match e with
    | .Call (.Attribute x m apos) [.Constant (.str z) _ _] [] pos => decide (z = s) && decide (m = "split") && (apos.endLine == pos.line) && nameSub x && chkE N sc ht a x
    | _ => false
  | .xis i C, e => match e with
    | .Call (.Name f _) [.Name x _, .Name y _] [] _ => decide (f = "isinstance") && gloB sc f && decide (y = C) && gloB sc y && decide (N[i]? = some x) && visB sc x && !(x == ("__debug__" : Str)) && !(x == ("__classdict__" : Str))
    | _ => false
  | .xat i f, e => match e with
    | .Attribute (.Name x _) g _ => decide (g = f) && decide (N[i]? = some x) && visB sc x && !(x == ("__debug__" : Str)) && !(x == ("__classdict__" : Str))
    | _ => false
  | .comp own tg ik ies ifs elt, e => match e with
    | .ListComp eltE [⟨tgE, iter, ifsE, a⟩] scope _ => !ht && decide (a = 0) && blkC N sc scope own && (slots tg).all (fun i => decide (i ∈ own.map (·.2))) && decide (ifs.length ≤ 1) && ifs.all tOk && !(isSet iter) && chkT N (locB (relS scope sc)) tg tgE && itOk sc ik tgE iter && chkEs N sc ht ies (itArgs ik iter) &&
        chkEs N (relS scope sc) ht ifs ifsE && chkE N (relS scope sc) ht elt eltE
    | _ => false
def chkEs (N : List Str) (sc : Scope) (ht : Bool) : List E → List Expr → Bool
  | [], xs => xs.isEmpty
  | e :: es, xs => match xs with
    | x :: xs => !(isStar x) && chkE N sc ht e x && chkEs N sc ht es xs
    | [] => false
end
end
end SV

set_option Elab.async false
set_option linter.all false
set_option maxRecDepth 100000
set_option maxHeartbeats 8000000
namespace SV
open PySem PySem.Spec PyProof.Rows L2
/-! ### where one stands -/
def blts : List Str := ["len", "sum", "list", "max", "min", "tuple", "int", "str", "range", "zip", "enumerate", "isinstance", "bool", "all", "any", "sorted", "set"]
def veB : List Value := [.type "ValueError", .type "Exception", .type "BaseException", .type "object"]
structure ExF (X : Cx) (f : Str) : Prop where
  ex : ∃ C, X.mg f = some (.ref C) ∧ PySem.W.excIn X.K C veB "ValueError.__new__" = true ∧ PySem.W.keepIn X.K (.ref C) = true ∧ PySem.W.subIn X.K (.ref C) (.type "BaseException") = some true ∧ PySem.W.typeIn X.K (.ref C) = some (.type "type")
/-- the class x: isinstance asks its instances of y, with the answer b; so does an except clause -/
def ClsF0 (K : Fr) (mg : Str → Option Value) (x y : Str) (b : Bool) : Prop := ∃ C, mg x = some (.ref C) ∧ ExcC K C ∧ ∃ cv, PySem.W.kitOne K (.ref C) cv = some b ∧ ((mg y = some cv ∧ (∃ cr, cv = .ref cr) ∧ PySem.W.exmOne K (.ref C) cv = some b) ∨ (mg y = none ∧ y = "ValueError" ∧ cv = .type "ValueError"))
def FldF0 (K : Fr) (mg : Str → Option Value) (x f : Str) : Prop := ∃ C, mg x = some (.ref C) ∧ XfC K C ∧ PySem.W.findIn K (.ref C) f = some none
abbrev ClsF (X : Cx) (x y : Str) (b : Bool) : Prop := ClsF0 X.K X.mg x y b
abbrev FldF (X : Cx) (x f : Str) : Prop := FldF0 X.K X.mg x f
/-- an exception's own __init__: self.f is its argument -/
def spInit (K : Fr) (f : Str) : Sp := fun vs H Q _ => ∃ (a C : Addr) (n : Int), vs = [.ref a, .int n] ∧ OexC K C ∧ PySem.W.findIn K (.ref C) f = some none ∧ H a = some (exo a C none) ∧ ∀ dx, H dx = none → dx ≠ a → Q .non (upd (upd H dx (exd dx [(f, .int n)])) a (exo a C (some dx)))
def MkF (X : Cx) (C f : Str) : Prop := ∃ (Ca fI : Addr) (k : Nat) (fd : FuncData) (ps : List Str), X.mg C = some (.ref Ca) ∧ OexC X.K Ca ∧ PySem.W.findIn X.K (.ref Ca) f = some none ∧ PySem.W.findIn X.K (.ref Ca) "__init__" = some (some (.ref fI)) ∧ PySem.W.typeIn X.K (.ref fI) = some (.type "function") ∧
  FnOk X.prog X.w X.K X.mg X.base (L2.CX X.prog X.w) k fI fd ps (spInit X.K f) ∧ Room (k + 1) X.A ∧ Binds X.K fd ps []
structure Kx (X : Cx) (S : Sg) (N : List Str) (sc : Scope) (ht : Bool) : Prop where
  hn : X.N = N
  hsc : X.env.scope = sc
  kind : X.env.scope.kind = .function
  calm : ht = false → X.calm = true
  cool : ht = false → S.x = none
  nd : X.N.Nodup
  free : ∀ b ∈ blts, X.mg b = none
  glo : GlOk X S
  call : ∀ f sp, S.T f = some sp → CallOk X f sp
  hu : X.A.units + 65 < cLine
  exc : ∀ f, S.X f = true → ExF X f
  cls : ∀ x y b, S.sub x y = some b → ClsF X x y b
  fld : ∀ x f, S.fld x f = true → FldF X x f
  mi : ∀ C f, S.mi C = some f → MkF X C f
  xok : ∀ a nm dd, S.x = some (a, nm, dd) → ∃ C oe, X.mg nm = some (.ref C) ∧ (a, oe) ∈ X.pn ∧ Zc (.ref C) dd oe ∧ ∃ vs, oe.data = .fields vs
theorem b2 {a b : Bool} (h : (a && b) = true) : a = true ∧ b = true := Bool.and_eq_true_iff.mp h
theorem nb {a : Bool} (h : (!a) = true) : a = false := by cases a <;> simp_all
section
variable {X : Cx} {S : Sg} {Wx : WX} {N : List Str} {sc : Scope} {ht : Bool}
theorem Kx.vis (k : Kx X S N sc ht) {x : Str} (h : visB sc x = true) : Vis X.env.scope x := by
  rw [k.hsc]
  unfold visB at h
  split at h <;> first | exact .inl (by assumption) | exact .inr (.inl (by assumption)) | exact .inr (.inr (by assumption)) | cases h
theorem Kx.gl (k : Kx X S N sc ht) {x : Str} (h : gloB sc x = true) : Gl X x ∧ (x == ("__debug__" : Str)) = false := by
  unfold gloB at h
  obtain ⟨h1, h2⟩ := b2 h
  refine ⟨?_, nb h2⟩
  show X.env.scope.names.lookup x = _
  rw [k.hsc]
  split at h1 <;> first | assumption | cases h1
theorem Kx.loc (k : Kx X S N sc ht) {x : Str} (h : locB sc x = true) : X.env.scope.names.lookup x = some .local := by
  rw [k.hsc]
  unfold locB at h
  split at h <;> first | assumption | cases h
theorem Kx.loB (k : Kx X S N sc ht) : ∀ x, locB sc x = true → Loc X.env.scope x ∧ (X.fn x = true ∨ X.env.scope.names.lookup x = some .local) := fun x h => ⟨.inl (k.loc h), .inr (k.loc h)⟩
theorem Kx.loC (k : Kx X S N sc ht) (hf : ∀ x, X.fn x = true) : ∀ x, locC sc x = true → Loc X.env.scope x ∧ (X.fn x = true ∨ X.env.scope.names.lookup x = some .local) := fun x h => by
  refine ⟨?_, .inl (hf x)⟩
  rw [k.hsc]
  unfold locC at h
  split at h <;> first | exact .inl (by assumption) | exact .inr (by assumption) | cases h
theorem star_of {x : Expr} {xs : List Expr} {env : PySem.Env} (h : isStar x = false) : starEach (x :: xs) env = (false, eval x env) :: starEach xs env := by
  cases x <;> first | rfl | cases h
theorem noSet {x : Expr} (op : CmpOp) (h : isSet x = false) : behindInMarks op x = false := by
  cases x <;> first | rfl | cases h
theorem noSlice {x : Expr} (h : isSlice x = false) : PlainIx x := by
  intro o i
  cases x <;> first | rfl | cases h
theorem noFold {x : Expr} {env : PySem.Env} (h : isSet x = false) : ∀ v, foldedSetIterable x env v = pure v := by
  intro v
  cases x <;> first | rfl | cases h
theorem blts_ty (T : Ty) : tyS T ∈ blts := by cases T <;> decide
theorem blts_bi (b : Bi) : biName b ∈ blts := by cases b <;> decide
theorem nostars : ∀ {cs : List E} {xs : List Expr} {env : PySem.Env} {pos : Pos}, chkEs N sc ht cs xs = true → (backTo pos (starEach xs env)).any (·.1) = false
  | [], xs, env, pos, h => by
    unfold chkEs at h
    cases xs <;> first | rfl | cases h
  | c :: cs, [], env, pos, h => by unfold chkEs at h; cases h
  | c :: cs, x :: xs, env, pos, h => by
    unfold chkEs at h
    obtain ⟨h1, h3⟩ := b2 h
    obtain ⟨h1, h2⟩ := b2 h1
    rw [star_of (nb h1)]
    have := nostars (env := env) (pos := pos) h3
    show (false || _) = false
    rw [Bool.false_or]
    exact this
/-! targets -/
mutual
theorem soundT {X : Cx} {N : List Str} {lo : Str → Bool} (n : X.N = N) (nd : X.N.Nodup) (hlo : ∀ x, lo x = true → Loc X.env.scope x ∧ (X.fn x = true ∨ X.env.scope.names.lookup x = some .local)) (hc : X.calm = true) : ∀ (t : Tg) (e : Expr), chkT N lo t e = true → PG X e (gOf X.K t)
  | .nm i, e, h => by
    unfold chkT at h
    cases e with
    | Name x pos =>
      obtain ⟨h1, h2⟩ := b2 h
      obtain ⟨l1, l2⟩ := hlo x h2
      unfold gOf
      exact pg_name nd (by rw [n]; exact of_decide_eq_true h1) l1 l2
    | _ => cases h
  | .tp ts, e, h => by
    unfold chkT at h
    cases e with
    | Tuple es k pos =>
      have h2 : chkTs N lo ts es = true := h
      unfold gOf
      obtain ⟨h3, h4, h5⟩ := soundTs n nd hlo hc ts es h2
      exact pg_tup hc h3 h4 h5
    | _ => cases h
theorem soundTs {X : Cx} {N : List Str} {lo : Str → Bool} (n : X.N = N) (nd : X.N.Nodup) (hlo : ∀ x, lo x = true → Loc X.env.scope x ∧ (X.fn x = true ∨ X.env.scope.names.lookup x = some .local)) (hc : X.calm = true) : ∀ (ts : List Tg) (es : List Expr), chkTs N lo ts es = true → PGs X es (gsOf X.K ts) ∧ (assignEach es X.env).length = tgLen ts ∧ (assignEach es X.env).findIdx? (·.1) = none
  | [], es, h => by
    unfold chkTs at h
    cases es with
    | nil =>
      unfold gsOf tgLen
      exact ⟨pgs_nil, rfl, rfl⟩
    | cons _ _ => cases h
  | t :: ts, [], h => by unfold chkTs at h; cases h
  | t :: ts, e :: es, h => by
    unfold chkTs at h
    obtain ⟨h1, h2⟩ := b2 h
    have q1 := soundT n nd hlo hc t e h1
    obtain ⟨q2, q3, q4⟩ := soundTs n nd hlo hc ts es h2
    have e1 : assignEach (e :: es) X.env = (false, assign e X.env) :: assignEach es X.env := by
      cases t with
      | nm i =>
        unfold chkT at h1
        cases e <;> first | rfl | cases h1
      | tp ts =>
        unfold chkT at h1
        cases e <;> first | rfl | cases h1
    unfold gsOf tgLen
    refine ⟨pgs_cons q1 q2 (by rw [e1] <;> rfl), ?_, ?_⟩
    · rw [e1, List.length_cons, q3]
    · rw [e1, List.findIdx?_cons, q4] <;> rfl
end
theorem Kx.it (k : Kx X S N sc ht) {ik : Ik} {cs : List E} {tg iter : Expr} (ho : itOk sc ik tg iter = true) (hc : chkEs N sc ht cs (itArgs ik iter) = true) (ha : PA X (itArgs ik iter) (VEs X S Wx cs)) (h1 : ∀ c x, cs = [c] → itArgs ik iter = [x] → PE X x (VE X S Wx c)) : PI X tg iter (VI X S Wx ik cs) := by
  cases ik with
  | seq =>
    match cs, hc with
    | [c], hc => exact vi_seq (h1 c iter rfl rfl)
    | [], hc => unfold chkEs itArgs at hc; cases hc
    | c :: d :: cs, hc =>
      unfold itArgs chkEs at hc
      obtain ⟨_, hc⟩ := b2 hc
      unfold chkEs at hc
      cases hc
  | rng =>
    match iter, ho with
    | .Call (.Name x p) args [] pos, ho =>
      obtain ⟨ho, h4⟩ := b2 ho
      obtain ⟨h2, h3⟩ := b2 ho
      obtain rfl := of_decide_eq_true h2
      obtain ⟨g, _⟩ := k.gl h3
      match args, h4, cs, hc, ha with
      | [a], _, [c], hc, ha => exact vi_rng1 g (k.free _ (by decide)) ha (by
          unfold itArgs chkEs at hc
          exact star_of (nb (b2 (b2 hc).1).1))
      | [a, b], _, [c, d], hc, ha =>
        unfold itArgs chkEs at hc
        obtain ⟨hc1, hc2⟩ := b2 hc
        unfold chkEs at hc2
        have e1 := star_of (xs := [b]) (env := X.env) (nb (b2 hc1).1)
        have e2 := star_of (xs := []) (env := X.env) (nb (b2 (b2 hc2).1).1)
        exact vi_rng2 g (k.free _ (by decide)) ha (by rw [e1, e2] <;> rfl) (by rw [e2] <;> rfl)
      | [a], _, [], hc, ha => unfold itArgs chkEs at hc; cases hc
      | [a], _, c :: d :: cs, hc, ha =>
        unfold itArgs chkEs at hc
        obtain ⟨_, hc⟩ := b2 hc
        unfold chkEs at hc
        cases hc
      | [a, b], _, [], hc, ha => unfold itArgs chkEs at hc; cases hc
      | [a, b], _, [c], hc, ha =>
        unfold itArgs chkEs at hc
        obtain ⟨_, hc⟩ := b2 hc
        unfold chkEs at hc
        cases hc
      | [a, b], _, c :: d :: e :: cs, hc, ha =>
        unfold itArgs chkEs at hc
        obtain ⟨_, hc⟩ := b2 hc
        unfold chkEs at hc
        obtain ⟨_, hc⟩ := b2 hc
        unfold chkEs at hc
        cases hc
  | rn3 =>
    match iter, ho with
    | .Call (.Name x p) args [] pos, ho =>
      obtain ⟨ho, h4⟩ := b2 ho
      obtain ⟨h2, h3⟩ := b2 ho
      obtain rfl := of_decide_eq_true h2
      obtain ⟨g, _⟩ := k.gl h3
      match args, h4, cs, hc, ha with
      | [a, b, d], _, [c1, c2, c3], hc, ha =>
        unfold itArgs chkEs at hc
        obtain ⟨hc1, hc2⟩ := b2 hc
        have e1 := star_of (xs := [b, d]) (env := X.env) (nb (b2 hc1).1)
        exact vi_rn3 g (k.free _ (by decide)) ha e1 (nostars hc2)
      | [a, b, d], _, [], hc, ha => unfold itArgs chkEs at hc; cases hc
      | [a, b, d], _, [c], hc, ha =>
        unfold itArgs chkEs at hc
        obtain ⟨_, hc⟩ := b2 hc
        unfold chkEs at hc
        cases hc
      | [a, b, d], _, [c, c2], hc, ha =>
        unfold itArgs chkEs at hc
        obtain ⟨_, hc⟩ := b2 hc
        unfold chkEs at hc
        obtain ⟨_, hc⟩ := b2 hc
        unfold chkEs at hc
        cases hc
      | [a, b, d], _, c :: c2 :: c3 :: c4 :: cs, hc, ha =>
        unfold itArgs chkEs at hc
        obtain ⟨_, hc⟩ := b2 hc
        unfold chkEs at hc
        obtain ⟨_, hc⟩ := b2 hc
        unfold chkEs at hc
        obtain ⟨_, hc⟩ := b2 hc
        unfold chkEs at hc
        cases hc
  | rnp =>
    match iter, ho with
    | .Call (.Name x p) args [] pos, ho =>
      obtain ⟨ho, h4⟩ := b2 ho
      obtain ⟨h2, h3⟩ := b2 ho
      obtain rfl := of_decide_eq_true h2
      obtain ⟨g, _⟩ := k.gl h3
      match args, h4, cs, hc, ha with
      | [a, b, d], _, [c1, c2, c3], hc, ha =>
        unfold itArgs chkEs at hc
        obtain ⟨hc1, hc2⟩ := b2 hc
        have e1 := star_of (xs := [b, d]) (env := X.env) (nb (b2 hc1).1)
        exact vi_rnp g (k.free _ (by decide)) ha e1 (nostars hc2)
      | [a, b, d], _, [], hc, ha => unfold itArgs chkEs at hc; cases hc
      | [a, b, d], _, [c], hc, ha =>
        unfold itArgs chkEs at hc
        obtain ⟨_, hc⟩ := b2 hc
        unfold chkEs at hc
        cases hc
      | [a, b, d], _, [c, c2], hc, ha =>
        unfold itArgs chkEs at hc
        obtain ⟨_, hc⟩ := b2 hc
        unfold chkEs at hc
        obtain ⟨_, hc⟩ := b2 hc
        unfold chkEs at hc
        cases hc
      | [a, b, d], _, c :: c2 :: c3 :: c4 :: cs, hc, ha =>
        unfold itArgs chkEs at hc
        obtain ⟨_, hc⟩ := b2 hc
        unfold chkEs at hc
        obtain ⟨_, hc⟩ := b2 hc
        unfold chkEs at hc
        obtain ⟨_, hc⟩ := b2 hc
        unfold chkEs at hc
        cases hc
  | zip =>
    match iter, ho with
    | .Call (.Name x p) args [] pos, ho =>
      obtain ⟨ho, h5⟩ := b2 ho
      obtain ⟨ho, h4⟩ := b2 ho
      obtain ⟨h2, h3⟩ := b2 ho
      obtain rfl := of_decide_eq_true h2
      obtain ⟨g, _⟩ := k.gl h3
      match tg, h5 with
      | .Tuple elts kk tp, _ =>
        match args, h4, cs, hc, ha with
        | [a, b], _, [c, d], hc, ha =>
          have hc' := hc
          unfold itArgs chkEs at hc
          obtain ⟨hc1, hc2⟩ := b2 hc
          have e1 := star_of (xs := [b]) (env := X.env) (nb (b2 hc1).1)
          exact vi_zip g (k.free _ (by decide)) ha e1 (nostars hc2)
        | [a, b], _, [], hc, ha => unfold itArgs chkEs at hc; cases hc
        | [a, b], _, [c], hc, ha =>
          unfold itArgs chkEs at hc
          obtain ⟨_, hc⟩ := b2 hc
          unfold chkEs at hc
          cases hc
        | [a, b], _, c :: d :: e :: cs, hc, ha =>
          unfold itArgs chkEs at hc
          obtain ⟨_, hc⟩ := b2 hc
          unfold chkEs at hc
          obtain ⟨_, hc⟩ := b2 hc
          unfold chkEs at hc
          cases hc
  | enum =>
    match iter, ho with
    | .Call (.Name x p) args [] pos, ho =>
      obtain ⟨ho, h5⟩ := b2 ho
      obtain ⟨ho, h4⟩ := b2 ho
      obtain ⟨h2, h3⟩ := b2 ho
      obtain rfl := of_decide_eq_true h2
      obtain ⟨g, _⟩ := k.gl h3
      match tg, h5 with
      | .Tuple elts kk tp, _ =>
        match args, h4, cs, hc, ha with
        | [a], _, [c], hc, ha => exact vi_enum g (k.free _ (by decide)) ha (by
            unfold itArgs chkEs at hc
            exact star_of (nb (b2 (b2 hc).1).1))
        | [a], _, [], hc, ha => unfold itArgs chkEs at hc; cases hc
        | [a], _, c :: d :: cs, hc, ha =>
          unfold itArgs chkEs at hc
          obtain ⟨_, hc⟩ := b2 hc
          unfold chkEs at hc
          cases hc
end
end SV

set_option Elab.async false
set_option linter.all false
set_option maxRecDepth 100000
set_option maxHeartbeats 400000
namespace SV
open PySem PySem.Spec PyProof.Rows L2
section
variable {S : Sg} {N : List Str} {ht : Bool}
theorem call_isX {X : Cx} {a D : Addr} {oe : Obj} {dd : Option Addr} (C : ExcC X.K D) (hp : (a, oe) ∈ X.pn) (hz : Zc (.ref D) dd oe) (hf : ∃ vs, oe.data = .fields vs) : CallR X (.builtin "isinstance") fun xs H Q => (∀ d, dd = some d → ∃ fs, H d = some (.xd fs)) ∧ rIsE X.K D a xs H Q := by
  intro pins s σ H xs us Q inv r q
  obtain ⟨hd, cc, cw, bb, rfl, hcw, ek, q⟩ := q
  match us, r with
  | [u1, u2], .cons r1 (.cons r2 .nil) =>
    obtain rfl : u1 = Value.ref a := r1
    obtain rfl := hcw _ r2
    have hget := (inv.pin (a, oe) (List.mem_append_left _ hp)).1
    obtain ⟨vs, hv⟩ := hf
    have nc : PySem.W.notCls oe = true := by unfold PySem.W.notCls; rw [hv] <;> rfl
    have J : ∃ od, PySem.W.InstAt s.heap a oe D od := by
      cases dd with
      | none => exact ⟨none, hget, hz.1, nc, by rw [hz.2]; trivial⟩
      | some d =>
        obtain ⟨fs, e⟩ := hd d rfl
        have ok : ObjOk X.prog X.w H s.heap d (.xd fs) := inv.hok d _ e
        obtain ⟨mA, hns, _⟩ := ok
        obtain ⟨od, ho, _⟩ := lookIn_ns hns
        exact ⟨some od, hget, hz.1, nc, by rw [hz.2]; exact ho⟩
    obtain ⟨od, J⟩ := J
    obtain ⟨cd, hcd, _⟩ := PySem.W.any_some C.hd
    have kx := PySem.W.kitx_exc (x := a) (od := od) (ox := oe) (Option.isSome_iff_exists.mpr ⟨cd, hcd⟩) C.hg C.hk C.hs C.ha C.hn C.ht C.hm
    exact PySem.W.kia_one kx inv.kIn J ek (fun z => nomatch z) fun tk => ⟨V.bl bb, H, inv.kept (t' := tk) fun _ _ y => y, rfl, q⟩
theorem pe_xfG {X : Cx} {a C : Addr} {oe : Obj} {d : Option Addr} {e : Expr} {te : TE} {pos : Pos} {n : Str} (T : XfC X.K C) (hno : PySem.W.findIn X.K (.ref C) n = some none) (hp : (a, oe) ∈ X.pn) (hz : Zc (.ref C) d oe) (hf : ∃ vs, oe.data = .fields vs) (he : PE X e te)
    (hb : attributeBase e n X.env (eval e X.env) = eval e X.env) : PE X (.Attribute e n pos) (tXf a (.ref C) d C n te) := by
  constructor
  intro pins s σ H Q inv w
  apply attr_of hb
  apply thn (he.run pins s σ H _ inv w)
  rintro u s1 ⟨x, H1, inv1, rx, rfl, ec, dd, fs, v, rfl, ea, l, q⟩
  obtain rfl : u = Value.ref a := rx
  have ha := (inv1.pin (a, oe) (List.mem_append_left _ hp)).1
  obtain ⟨vs, hv⟩ := hf
  have ok : ObjOk X.prog X.w H1 s1.heap dd (.xd fs) := inv1.hok dd _ ea
  obtain ⟨mA, hns, hr⟩ := ok
  obtain ⟨od, ho, hl⟩ := lookIn_ns hns
  have hrn := hr n
  rw [l] at hrn
  cases hm : mA n with
  | none => rw [hm] at hrn; exact hrn.elim
  | some u2 =>
    rw [hm] at hrn
    have J : PySem.W.InstAt s1.heap a oe C (some od) := ⟨ha, hz.1, by unfold PySem.W.notCls; rw [hv] <;> rfl, by rw [hz.2]; exact ho⟩
    exact HandSPX.exc_get inv1.kIn J T.ga T.gg T.exC (PySem.W.findObj_own T.hdC hno rfl (by rw [hl, hm])) (handed_of hrn) ⟨v, H1, inv1.tok _, hrn, q⟩
theorem ve_xis {X : Cx} {Wx : WX} {sc : Scope} {i : Nat} {C x : Str} {p p1 p2 pos : Pos} (k : Kx X S N sc ht) (pv : PE X (.Name x p1) (tVar i)) (gI : Gl X "isinstance") (gC : Gl X C) (hd : (C == ("__debug__" : Str)) = false) : PE X (.Call (.Name "isinstance" p) [.Name x p1, .Name C p2] [] pos) (VE X S Wx (.xis i C)) := by
  constructor
  intro pins s σ H Q inv w
  obtain ⟨P, ρ, W, sv, xw, w⟩ := w
  unfold wpE at w
  split at w
  · rename_i kd a dx pay hi
    unfold xisW at w
    split at w
    · rename_i b nm dd hx
      obtain ⟨rfl, hdd, w⟩ := w
      split at w
      · rename_i kk hs
        obtain ⟨Ca, oe, hmg, hpn, hz, hf⟩ := k.xok _ _ _ hx
        obtain ⟨Ca', hmg', EC, cv, hk, hv⟩ := k.cls _ _ _ hs
        obtain rfl : Ca = Ca' := by rw [hmg] at hmg'; cases hmg'; rfl
        obtain ⟨v, hσ, rv⟩ := sv.at_ i _ _ hi
        cases rv with
        | exo hpay =>
          have hdx : ∀ d, dd = some d → ∃ fs, H d = some (.xd fs) := fun d e => by
            rcases hdd with hdd | ⟨h1, h2⟩
            · rw [hdd] at e; cases e
            · rw [h1] at e
              cases e
              cases pay with
              | none => cases h2
              | some p => exact ⟨_, hpay p.1 p.2 rfl⟩
          have fin : ∀ c : V, (∀ u, RelV c u → u = cv) → rIsE X.K Ca a [.ref a, c] H Q := fun c hc => ⟨c, cv, kk, rfl, hc, hk, Bk.at w (.bl _) (fun _ _ e => nomatch e)⟩
          have cr := call_isX EC hpn hz hf
          have bo : bootBuiltins "isinstance" = some (.builtin "isinstance") := by decide +kernel
          rcases hv with ⟨hmC, ⟨cr2, rfl⟩, _⟩ | ⟨hmC, rfl, rfl⟩
          · exact (pe_callB cr gI (k.free _ (by decide)) bo (pa_cons pv (pa_cons (pe_glob (v := .ref cr2) gC hmC rfl hd) pa_nil rfl) rfl) (by decide) (by decide) rfl rfl).run pins s σ H Q inv ⟨_, hσ, hdx, fin _ fun u e => e⟩
          · exact (pe_callB cr gI (k.free _ (by decide)) bo (pa_cons pv (pa_cons (pe_bltn (v := .ty "ValueError") gC hmC (by decide +kernel) rfl (by decide) hd) pa_nil rfl) rfl) (by decide) (by decide) rfl rfl).run pins s σ H Q inv ⟨_, hσ, hdx, fin _ fun u e => e⟩
      · exact w.elim
    · exact w.elim
  · exact w.elim
theorem ve_xat {X : Cx} {Wx : WX} {sc : Scope} {i : Nat} {f x : Str} {p1 pos : Pos} (k : Kx X S N sc ht) (pv : PE X (.Name x p1) (tVar i)) : PE X (.Attribute (.Name x p1) f pos) (VE X S Wx (.xat i f)) := by
  constructor
  intro pins s σ H Q inv w
  obtain ⟨P, ρ, W, sv, xw, w⟩ := w
  unfold wpE at w
  split at w
  · rename_i kd a dx pay hi
    unfold xatW at w
    split at w
    · rename_i b nm dd hx
      obtain ⟨rfl, hdd, w⟩ := w
      split at w
      · rename_i g n
        obtain ⟨rfl, hs, w⟩ := w
        obtain ⟨Ca, oe, hmg, hpn, hz, hf⟩ := k.xok _ _ _ hx
        obtain ⟨Ca', hmg', EC, hno⟩ := k.fld _ _ hs
        obtain rfl : Ca = Ca' := by rw [hmg] at hmg'; cases hmg'; rfl
        obtain ⟨v, hσ, rv⟩ := sv.at_ i _ _ hi
        cases rv with
        | exo hpay =>
          exact (pe_xfG EC hno hpn hz hf pv rfl).run pins s σ H Q inv ⟨_, hσ, rfl, rfl, dx, _, .int n, hdd, hpay _ _ rfl, by simp [List.lookup], Bk.at w (.int _) (fun _ _ e => nomatch e)⟩
      · exact w.elim
    · exact w.elim
  · exact w.elim
end
end SV

set_option Elab.async false
set_option linter.all false
set_option maxRecDepth 100000
set_option maxHeartbeats 8000000
namespace SV
open PySem PySem.Spec PyProof.Rows L2
section
variable {S : Sg} {N : List Str} {ht : Bool}
theorem Kx.blk {X : Cx} {sc : Scope} (hh : ht = false) (k : Kx X S N sc ht) {scope : Scope} (hk : scope.kind = .function) (s : Shared) (H : Hp) (C : Addr) (cl : List (Str × Addr)) (fp : List Addr) : Kx (X.blk s H scope (compEnvC scope cl C X.env) fp) S N (relS scope sc) ht :=
  ⟨k.hn, by rw [← k.hsc] <;> rfl, hk, k.calm, k.cool, k.nd, k.free, k.glo, fun f sp h => ⟨(k.call f sp h).ex⟩, k.hu, fun f h => ⟨(k.exc f h).ex⟩, k.cls, k.fld, fun C f h => (let ⟨a, b, j, d, e, g⟩ := k.mi C f h; ⟨a, b, j, d, e, g⟩), fun a nm dd e => by rw [k.cool hh] at e; cases e⟩
theorem vT_of {X : Cx} {Wx : WX} {e : E} {x : Expr} (ht : tOk e = true) (hn : (∀ a, e ≠ .not a) ∧ (∀ es, e ≠ .and es) ∧ (∀ es, e ≠ .or es)) : True := trivial
/-- an expression that is no and, or, not, comparison, condition: as a test -/
theorem pv_ {X : Cx} {Wx : WX} {c : E} {e : Expr} (h : PE X e (VE X S Wx c)) (he : ∀ whole, isTrue e X.env whole = (do let v ← whole; standAt e.pos; holding [v] (truthy v))) : PE X e (VE X S Wx c) ∧ (tOk c = true → PT X e (VT X S Wx c)) := ⟨h, fun _ => vt_val h he⟩
theorem bi_part {X : Cx} {Wx : WX} {sc : Scope} {b : Bi} {es : List E} {xs : List Expr} {p pos : Pos} (hh : ht = false) (k : Kx X S N sc ht) (g : Gl X (biName b)) (h3 : (!(es.isEmpty)) = true) (h4 : chkEs N sc ht es xs = true) (q : PA X xs (VEs X S Wx es)) : PE X (.Call (.Name (biName b) p) xs [] pos) (VE X S Wx (.bi b es)) := by
  match es, xs, h3, h4, q with
  | c :: cs, y :: ys, _, h4, q =>
    unfold chkEs at h4
    obtain ⟨h4, h5⟩ := b2 h4
    exact ve_bi (k.calm hh) g (k.free _ (blts_bi b)) q (star_of (nb (b2 h4).1)) (nostars h5)
  | c :: cs, [], _, h4, q => unfold chkEs at h4; cases h4
theorem call_part {X : Cx} {Wx : WX} {sc : Scope} {f : Str} {es : List E} {xs : List Expr} {p pos : Pos} (k : Kx X S N sc ht) (tk : Takes X Wx) (g : Gl X f) (d : (f == ("__debug__" : Str)) = false) (h3 : (!(es.isEmpty)) = true) (h4 : chkEs N sc ht es xs = true) (q : PA X xs (VEs X S Wx es)) : PE X (.Call (.Name f p) xs [] pos) (VE X S Wx (.call f es)) := by
  match es, xs, h3, h4, q with
  | c :: cs, y :: ys, _, h4, q =>
    unfold chkEs at h4
    obtain ⟨h4, h5⟩ := b2 h4
    cases hT : S.T f with
    | some sp => exact ve_call (k.call f sp hT) hT tk g q d (star_of (nb (b2 h4).1)) (nostars h5)
    | none =>
      refine ⟨fun pins s σ H Q I q2 => ?_⟩
      obtain ⟨P, ρ, W, sv, xw, w⟩ := q2
      unfold wpE at w
      rw [hT] at w
      exact w.elim
  | c :: cs, [], _, h4, q => unfold chkEs at h4; cases h4
/-- an f-string's part -/
def tPart : Str ⊕ Nat → TE
  | .inl z => fun _ H Q => Q (.str z) H
  | .inr i => tFmt (tVar i)
theorem pj_of {X : Cx} {sc : Scope} (k : Kx X S N sc ht) : ∀ (ps : List (Str ⊕ Nat)) (es : List Expr), chkF N sc ps es = true → PJ X es (ps.map tPart)
  | [], es, h => by
    unfold chkF at h
    cases es with
    | nil => exact .nil
    | cons _ _ => cases h
  | .inl z :: ps, es, h => by
    unfold chkF at h
    split at h
    · obtain ⟨h1, h2⟩ := b2 h
      obtain rfl := of_decide_eq_true h1
      exact .cons pe_str (pj_of k ps _ h2)
    · cases h
  | .inr i :: ps, es, h => by
    unfold chkF at h
    split at h
    · obtain ⟨h, h6⟩ := b2 h
      obtain ⟨h, h5⟩ := b2 h
      obtain ⟨h, h4⟩ := b2 h
      obtain ⟨h, h3⟩ := b2 h
      obtain ⟨h1, h2⟩ := b2 h
      obtain rfl := of_decide_eq_true h1
      exact .cons (pe_fmt (pe_var (by rw [k.hn]; exact of_decide_eq_true h2) (k.vis h3) (nb h4) (nb h5))) (pj_of k ps _ h6)
    · cases h
theorem js_of {K : Fr} {P : Nat → Addr → Prop} {H : Hp} {ρ : Env} {σ : L2.St} (sv : Sv K H P ρ σ) {Q : D → Prop} {R : Str → Hp → Prop} (q : ∀ out, Q (.str out) → R out H) : ∀ (ps : List (Str ⊕ Nat)) (acc : Str), fjW ρ ps acc Q → tJs (ps.map tPart) acc σ H R
  | [], acc, h => q acc h
  | .inl z :: ps, acc, h => by
    unfold fjW at h
    exact ⟨z, rfl, h.1, js_of sv q ps _ h.2⟩
  | .inr i :: ps, acc, h => by
    unfold fjW at h
    split at h
    · rename_i p hp
      obtain ⟨v, h1, h2⟩ := sv.at_ i p.1 p.2 hp
      unfold fmtW at h
      split at h
      · rename_i y e
        rw [e] at h2
        cases h2
        exact ⟨_, h1, .inl ⟨y, rfl, h.1, y, rfl, h.2.1, js_of sv q ps _ h.2.2⟩⟩
      · rename_i j e
        rw [e] at h2
        cases h2
        exact ⟨_, h1, .inr ⟨j, rfl, h.1, _, rfl, h.2.1, js_of sv q ps _ h.2.2⟩⟩
      · exact h.elim
    · exact h.elim
theorem ve_fj {X : Cx} {Wx : WX} (ps : List (Str ⊕ Nat)) : ∀ σ H Q, VE X S Wx (.fj ps) σ H Q → tJs (ps.map tPart) Str.empty σ H fun out H1 => Q (.str out) H1 := by
  rintro σ H Q ⟨P, ρ, W, sv, xw, w⟩
  unfold wpE at w
  exact js_of sv (fun out h => (show Bk X.K _ H _ Q (.str out) from h).at (.str _) (fun _ _ e => nomatch e)) ps _ w
mutual
theorem soundE : ∀ (c : E) {X : Cx} {Wx : WX} {sc : Scope} (k : Kx X S N sc ht) (tk : Takes X Wx) (e : Expr), chkE N sc ht c e = true → PE X e (VE X S Wx c) ∧ (tOk c = true → PT X e (VT X S Wx c))
  | .var i, X, Wx, sc, k, tk, e, h => by
    unfold chkE at h
    cases e with
    | Name x pos =>
      obtain ⟨h, h4⟩ := b2 h
      obtain ⟨h, h3⟩ := b2 h
      obtain ⟨h1, h2⟩ := b2 h
      exact pv_ (PE.imp (pe_var (by rw [k.hn]; exact of_decide_eq_true h1) (k.vis h2) (nb h3) (nb h4)) ve_var) (by intro _; rfl)
    | _ => cases h
  | .int n, X, Wx, sc, k, tk, e, h => by
    unfold chkE at h
    cases e with
    | Constant v j pos =>
      cases v with
      | int m => rw [of_decide_eq_true h]; exact pv_ ve_int (by intro _; rfl)
      | _ => cases h
    | _ => cases h
  | .str n, X, Wx, sc, k, tk, e, h => by
    unfold chkE at h
    cases e with
    | Constant v j pos =>
      cases v with
      | str m => rw [of_decide_eq_true h]; exact pv_ ve_str (by intro _; rfl)
      | _ => cases h
    | _ => cases h
  | .bl n, X, Wx, sc, k, tk, e, h => by
    unfold chkE at h
    cases e with
    | Constant v j pos =>
      cases v with
      | bool m => rw [of_decide_eq_true h]; exact pv_ ve_bl (by intro _; rfl)
      | _ => cases h
    | _ => cases h
  | .non, X, Wx, sc, k, tk, e, h => by
    unfold chkE at h
    cases e with
    | Constant v j pos =>
      cases v with
      | none => exact pv_ ve_non (by intro _; rfl)
      | _ => cases h
    | _ => cases h
  | .glo z, X, Wx, sc, k, tk, e, h => by
    unfold chkE at h
    cases e with
    | Name x pos =>
      obtain ⟨h1, h2⟩ := b2 h
      obtain rfl := of_decide_eq_true h1
      obtain ⟨g, d⟩ := k.gl h2
      exact pv_ (ve_glo k.glo g d) (by intro _; rfl)
    | _ => cases h
  | .bin o a b, X, Wx, sc, k, tk, e, h => by
    unfold chkE at h
    cases e with
    | BinOp x op y pos =>
      obtain ⟨h, h3⟩ := b2 h
      obtain ⟨h1, h2⟩ := b2 h
      obtain rfl := of_decide_eq_true h1
      exact pv_ (ve_bin (soundE a k tk x h2).1 (soundE b k tk y h3).1) (by intro _; rfl)
    | _ => cases h
  | .neg a, X, Wx, sc, k, tk, e, h => by
    unfold chkE at h
    cases e with
    | UnaryOp op x pos =>
      cases op with
      | USub => exact pv_ (ve_neg (soundE a k tk x h).1) (by intro _; rfl)
      | _ => cases h
    | _ => cases h
  | .cmp o a b, X, Wx, sc, k, tk, e, h => by
    unfold chkE at h
    cases e with
    | Compare x ops ys pos =>
      match ops, ys, h with
      | [op], [y], h =>
        obtain ⟨h, h4⟩ := b2 h
        obtain ⟨h, h3⟩ := b2 h
        obtain ⟨h1, h2⟩ := b2 h
        obtain rfl := of_decide_eq_true h1
        exact ⟨ve_cmp k.hu (soundE a k tk x h3).1 (soundE b k tk y h4).1 (noSet _ (nb h2)), fun _ => vt_cmp k.hu (soundE a k tk x h3).1 (soundE b k tk y h4).1 (noSet _ (nb h2))⟩
    | _ => cases h
  | .chain o o' a b c, X, Wx, sc, k, tk, e, h => by
    unfold chkE at h
    cases e with
    | Compare x ops ys pos =>
      match ops, ys, h with
      | [op, op'], [y, z], h =>
        obtain ⟨h, h6⟩ := b2 h
        obtain ⟨h, h5⟩ := b2 h
        obtain ⟨h, h4⟩ := b2 h
        obtain ⟨h, h3⟩ := b2 h
        obtain ⟨h1, h2⟩ := b2 h
        obtain rfl := of_decide_eq_true h1
        obtain rfl := of_decide_eq_true h2
        exact ⟨ve_chain k.hu (soundE a k tk x h4).1 (soundE b k tk y h5).1 (soundE c k tk z h6).1 (noSet _ (nb h3)), fun _ => vt_chain k.hu (soundE a k tk x h4).1 (soundE b k tk y h5).1 (soundE c k tk z h6).1 (noSet _ (nb h3))⟩
    | _ => cases h
  | .isN a, X, Wx, sc, k, tk, e, h => by
    unfold chkE at h
    cases e with
    | Compare x ops ys pos =>
      match ops, ys, h with
      | [.Is], [.Constant .none _ _], h => exact ⟨ve_isN (soundE a k tk x h).1, fun _ => vt_isN (soundE a k tk x h).1⟩
    | _ => cases h
  | .notN a, X, Wx, sc, k, tk, e, h => by
    unfold chkE at h
    cases e with
    | Compare x ops ys pos =>
      match ops, ys, h with
      | [.IsNot], [.Constant .none _ _], h => exact ⟨ve_notN (soundE a k tk x h).1, fun _ => vt_notN (soundE a k tk x h).1⟩
    | _ => cases h
  | .and es, X, Wx, sc, k, tk, e, h => by
    unfold chkE at h
    cases e with
    | BoolOp op xs pos =>
      cases op with
      | And =>
        obtain ⟨h, h3⟩ := b2 h
        obtain ⟨h1, h2⟩ := b2 h
        exact ⟨ve_and (soundBA es k tk xs pos h1 h3), fun _ => vt_and (soundTA es k tk xs pos h1 h2 h3)⟩
      | _ => cases h
    | _ => cases h
  | .or es, X, Wx, sc, k, tk, e, h => by
    unfold chkE at h
    cases e with
    | BoolOp op xs pos =>
      cases op with
      | Or =>
        obtain ⟨h, h3⟩ := b2 h
        obtain ⟨h1, h2⟩ := b2 h
        exact ⟨ve_or (soundBO es k tk xs pos h1 h3), fun _ => vt_or (soundTO es k tk xs pos h1 h2 h3)⟩
      | _ => cases h
    | _ => cases h
  | .not a, X, Wx, sc, k, tk, e, h => by
    unfold chkE at h
    cases e with
    | UnaryOp op x pos =>
      cases op with
      | Not => exact ⟨ve_not (soundE a k tk x (b2 h).2).1, fun _ => vt_not ((soundE a k tk x (b2 h).2).2 (b2 h).1)⟩
      | _ => cases h
    | _ => cases h
  | .ite c a b, X, Wx, sc, k, tk, e, h => by
    unfold chkE at h
    cases e with
    | IfExp x y z pos =>
      obtain ⟨h, h4⟩ := b2 h
      obtain ⟨h, h3⟩ := b2 h
      obtain ⟨h1, h2⟩ := b2 h
      exact ⟨ve_ite ((soundE c k tk x h2).2 h1) (soundE a k tk y h3).1 (soundE b k tk z h4).1, fun q => nomatch q⟩
    | _ => cases h
  | .idx a i, X, Wx, sc, k, tk, e, h => by
    unfold chkE at h
    cases e with
    | Subscript x y pos =>
      obtain ⟨h, h3⟩ := b2 h
      obtain ⟨h1, h2⟩ := b2 h
      exact pv_ (ve_idx (soundE a k tk x h2).1 (soundE i k tk y h3).1 (noSlice (nb h1))) (by intro _; rfl)
    | _ => cases h
  | .slc a lo hi, X, Wx, sc, k, tk, e, h => by
    unfold chkE at h
    cases e with
    | Subscript x y pos =>
      cases y with
      | Slice l u st p2 =>
        cases st with
        | none =>
          obtain ⟨h, h3⟩ := b2 h
          obtain ⟨h1, h2⟩ := b2 h
          exact pv_ (ve_slc (soundE a k tk x h1).1 (soundP lo k tk l h2) (soundP hi k tk u h3)) (by intro _; rfl)
        | some _ => cases h
      | _ => cases h
    | _ => cases h
  | .rev a, X, Wx, sc, k, tk, e, h => by
    unfold chkE at h
    cases e with
    | Subscript x y pos =>
      match y, h with
      | .Slice none none (some (.UnaryOp .USub (.Constant (.int m) _ _) _)) _, h =>
        obtain ⟨h1, h2⟩ := b2 h
        obtain rfl := of_decide_eq_true h1
        exact pv_ (ve_rev (soundE a k tk x h2).1) (by intro _; rfl)
    | _ => cases h
  | .lst es, X, Wx, sc, k, tk, e, h => by
    unfold chkE at h
    cases e with
    | List xs pos => exact pv_ (ve_lst (soundEs es k tk xs h)) (by intro _; rfl)
    | _ => cases h
  | .tup es, X, Wx, sc, k, tk, e, h => by
    unfold chkE at h
    cases e with
    | Tuple xs j pos => exact pv_ (ve_tup (soundEs es k tk xs h)) (by intro _; rfl)
    | _ => cases h
  | .bi b es, X, Wx, sc, k, tk, e, h => by
    unfold chkE at h
    cases e with
    | Call f xs kws pos =>
      match f, kws, h with
      | .Name x p, [], h =>
        obtain ⟨h, h4⟩ := b2 h
        obtain ⟨h, h3⟩ := b2 h
        obtain ⟨h, h2⟩ := b2 h
        obtain ⟨h0, h1⟩ := b2 h
        obtain rfl := of_decide_eq_true h1
        obtain ⟨g, d⟩ := k.gl h2
        have q := soundEs es k tk xs h4
        exact pv_ (bi_part (nb h0) k g h3 h4 q) (by intro _; rfl)
    | _ => cases h
  | .call f es, X, Wx, sc, k, tk, e, h => by
    unfold chkE at h
    cases e with
    | Call g xs kws pos =>
      match g, kws, h with
      | .Name x p, [], h =>
        obtain ⟨h, h4⟩ := b2 h
        obtain ⟨h, h3⟩ := b2 h
        obtain ⟨h1, h2⟩ := b2 h
        obtain rfl := of_decide_eq_true h1
        obtain ⟨g, d⟩ := k.gl h2
        have q := soundEs es k tk xs h4
        exact pv_ (call_part k tk g d h3 h4 q) (by intro _; rfl)
    | _ => cases h
  | .isi a T, X, Wx, sc, k, tk, e, h => by
    unfold chkE at h
    split at h
    · rename_i f p1 x y p2 pos
      obtain ⟨h, h6⟩ := b2 h
      obtain ⟨h, h5⟩ := b2 h
      obtain ⟨h, h4⟩ := b2 h
      obtain ⟨h, h3⟩ := b2 h
      obtain ⟨h1, h2⟩ := b2 h
      obtain rfl := of_decide_eq_true h1
      obtain rfl := of_decide_eq_true h2
      exact pv_ (ve_isi (k.gl h3).1 (k.free _ (by decide)) (k.gl h4).1 (k.free _ (blts_ty T)) (soundE a k tk x h6).1 (star_of (nb h5)) rfl) (by intro _; rfl)
    · cases h
  | .upp a, X, Wx, sc, k, tk, e, h => by
    unfold chkE at h
    split at h
    · rename_i x m apos pos
      obtain ⟨h, h4⟩ := b2 h
      obtain ⟨h, h3⟩ := b2 h
      obtain ⟨h1, h2⟩ := b2 h
      obtain rfl := of_decide_eq_true h1
      exact pv_ (ve_upp (soundE a k tk x h4).1 (base_ok h3) h2) (by intro _; rfl)
    · cases h
  | .chain3 o1 o2 o3 a b c d, X, Wx, sc, k, tk, e, h => by
    unfold chkE at h
    split at h
    · rename_i x p1 p2 p3 y z w pos
      obtain ⟨h, h11⟩ := b2 h
      obtain ⟨h, h10⟩ := b2 h
      obtain ⟨h, h9⟩ := b2 h
      obtain ⟨h, h8⟩ := b2 h
      obtain ⟨h, h7⟩ := b2 h
      obtain ⟨h, h6⟩ := b2 h
      obtain ⟨h, h5⟩ := b2 h
      obtain ⟨h, h4⟩ := b2 h
      obtain ⟨h, h3⟩ := b2 h
      obtain ⟨h1, h2⟩ := b2 h
      obtain rfl := of_decide_eq_true h1
      obtain rfl := of_decide_eq_true h2
      obtain rfl := of_decide_eq_true h3
      have m4 : ∀ {o : Cop}, ([Cop.lt, .le, .gt, .ge].contains o) = true → o = .lt ∨ o = .le ∨ o = .gt ∨ o = .ge := fun {o} h => by simpa using h
      have c3 : PE X (.Compare x [copOf o1, copOf o2, copOf o3] [y, z, w] pos) (VE X S Wx (.chain3 o1 o2 o3 a b c d)) := PE.imp (pe_ch3 (m4 h4) (m4 h5) (m4 h6) (soundE a k tk x h8).1 (soundE b k tk y h9).1 (soundE c k tk z h10).1 (soundE d k tk w h11).1 (noSet _ (nb h7))) ve_ch3R
      exact ⟨c3, fun _ => pt_of_pe3 (m4 h4) (m4 h5) (m4 h6) (soundE a k tk x h8).1 (soundE b k tk y h9).1 (soundE c k tk z h10).1 (soundE d k tk w h11).1 (noSet _ (nb h7))⟩
    · cases h
  | .fj ps, X, Wx, sc, k, tk, e, h => by
    unfold chkE at h
    split at h
    · exact pv_ (PE.imp (pe_joined (pj_of k ps _ h)) (ve_fj ps)) (by intro _; rfl)
    · cases h
  | .jn s a, X, Wx, sc, k, tk, e, h => by
    unfold chkE at h
    split at h
    · rename_i z j p m apos x pos
      obtain ⟨h, h5⟩ := b2 h
      obtain ⟨h, h4⟩ := b2 h
      obtain ⟨h, h3⟩ := b2 h
      obtain ⟨h1, h2⟩ := b2 h
      obtain rfl := of_decide_eq_true h1
      obtain rfl := of_decide_eq_true h2
      exact pv_ (ve_jn (soundE a k tk x h5).1 (by rw [star_of (nb h4)] <;> rfl) h3) (by intro _; rfl)
    · cases h
  | .dgt a b, X, Wx, sc, k, tk, e, h => by
    unfold chkE at h
    cases e with
    | Subscript x y pos =>
      obtain ⟨h, h3⟩ := b2 h
      obtain ⟨h1, h2⟩ := b2 h
      exact pv_ (ve_dgt (by have := k.hu; omega) (soundE a k tk x h2).1 (soundE b k tk y h3).1 (by intro ov iv; cases y <;> first | rfl | cases h1)) (by intro _; rfl)
    | _ => cases h
  | .dg1 a b, X, Wx, sc, k, tk, e, h => by
    unfold chkE at h
    split at h
    · rename_i x m apos y pos
      obtain ⟨h, h6⟩ := b2 h
      obtain ⟨h, h5⟩ := b2 h
      obtain ⟨h, h4⟩ := b2 h
      obtain ⟨h, h3⟩ := b2 h
      obtain ⟨h1, h2⟩ := b2 h
      obtain rfl := of_decide_eq_true h1
      exact pv_ (ve_dg1 (by have := k.hu; omega) (soundE a k tk x h5).1 (soundE b k tk y h6).1 ⟨base_ok h3, by rw [star_of (nb h4)] <;> rfl, h2, by rw [star_of (nb h4)] <;> rfl⟩) (by intro _; rfl)
    · cases h
  | .dg2 a b c, X, Wx, sc, k, tk, e, h => by
    unfold chkE at h
    split at h
    · rename_i x m apos y z pos
      obtain ⟨h, h8⟩ := b2 h
      obtain ⟨h, h7⟩ := b2 h
      obtain ⟨h, h6⟩ := b2 h
      obtain ⟨h, h5⟩ := b2 h
      obtain ⟨h, h4⟩ := b2 h
      obtain ⟨h, h3⟩ := b2 h
      obtain ⟨h1, h2⟩ := b2 h
      obtain rfl := of_decide_eq_true h1
      exact pv_ (ve_dg2 (by have := k.hu; omega) (soundE a k tk x h6).1 (soundE b k tk y h7).1 (soundE c k tk z h8).1 ⟨base_ok h3, by rw [star_of (nb h4), star_of (nb h5)] <;> rfl, h2, by rw [star_of (nb h4), star_of (nb h5)] <;> rfl⟩) (by intro _; rfl)
    · cases h
  | .din neg a b, X, Wx, sc, k, tk, e, h => by
    unfold chkE at h
    split at h
    · rename_i x op y pos
      obtain ⟨h, h4⟩ := b2 h
      obtain ⟨h, h3⟩ := b2 h
      obtain ⟨h1, h2⟩ := b2 h
      obtain rfl := of_decide_eq_true h1
      exact ⟨ve_din (by have := k.hu; omega) (soundE a k tk x h3).1 (soundE b k tk y h4).1 (fun op => noSet op (nb h2)), fun _ => vt_din (by have := k.hu; omega) (soundE a k tk x h3).1 (soundE b k tk y h4).1 (fun op => noSet op (nb h2))⟩
    · cases h
  | .spl a s, X, Wx, sc, k, tk, e, h => by
    unfold chkE at h
    split at h
    · rename_i x m apos z j p pos
      obtain ⟨h, h5⟩ := b2 h
      obtain ⟨h, h4⟩ := b2 h
      obtain ⟨h, h3⟩ := b2 h
      obtain ⟨h1, h2⟩ := b2 h
      obtain rfl := of_decide_eq_true h1
      obtain rfl := of_decide_eq_true h2
      exact pv_ (ve_spl (soundE a k tk x h5).1 (base_ok h4) h3) (by intro _; rfl)
    · cases h
  | .lix a b, X, Wx, sc, k, tk, e, h => by
    unfold chkE at h
    split at h
    · rename_i x m apos y pos
      obtain ⟨h, h6⟩ := b2 h
      obtain ⟨h, h5⟩ := b2 h
      obtain ⟨h, h4⟩ := b2 h
      obtain ⟨h, h3⟩ := b2 h
      obtain ⟨h1, h2⟩ := b2 h
      obtain rfl := of_decide_eq_true h1
      exact pv_ (ve_lix k.hu (soundE a k tk x h5).1 (soundE b k tk y h6).1 (base_ok h3) h2 (by rw [star_of (nb h4)] <;> rfl)) (by intro _; rfl)
    · cases h
  | .srd a, X, Wx, sc, k, tk, e, h => by
    unfold chkE at h
    split at h
    · rename_i f p1 x pos
      obtain ⟨h, h7⟩ := b2 h
      obtain ⟨h, h6⟩ := b2 h
      obtain ⟨h, h4⟩ := b2 h
      obtain ⟨h1, h2⟩ := b2 h
      obtain rfl := of_decide_eq_true h2
      exact pv_ (ve_srd k.hu (k.gl h4).1 (k.free _ (by decide)) (soundE a k tk x h7).1 (by rw [star_of (nb h6)] <;> rfl)) (by intro _; rfl)
    · cases h
  | .srp a, X, Wx, sc, k, tk, e, h => by
    unfold chkE at h
    split at h
    · rename_i f p1 x pos
      obtain ⟨h, h7⟩ := b2 h
      obtain ⟨h, h6⟩ := b2 h
      obtain ⟨h, h4⟩ := b2 h
      obtain ⟨h1, h2⟩ := b2 h
      obtain rfl := of_decide_eq_true h2
      exact pv_ (ve_srp (k.gl h4).1 (k.free _ (by decide)) (soundE a k tk x h7).1 (by rw [star_of (nb h6)] <;> rfl)) (by intro _; rfl)
    · cases h
  | .srs a, X, Wx, sc, k, tk, e, h => by
    unfold chkE at h
    split at h
    · rename_i f p1 g p2 x p3 pos
      obtain ⟨h, h7⟩ := b2 h
      obtain ⟨h, h6⟩ := b2 h
      obtain ⟨h, h5⟩ := b2 h
      obtain ⟨h, h4⟩ := b2 h
      obtain ⟨h, h3⟩ := b2 h
      obtain ⟨h1, h2⟩ := b2 h
      obtain rfl := of_decide_eq_true h2
      obtain rfl := of_decide_eq_true h3
      exact pv_ (ve_srs (k.calm (nb h1)) (k.gl h4).1 (k.free _ (by decide)) (k.gl h5).1 (k.free _ (by decide)) (soundE a k tk x h7).1 (by rw [star_of (nb h6)] <;> rfl)) (by intro _; rfl)
    · cases h
  | .sorR a, X, Wx, sc, k, tk, e, h => by
    unfold chkE at h
    split at h
    · rename_i f p1 x g m j p2 kp pos
      obtain ⟨h, h7⟩ := b2 h
      obtain ⟨h, h6⟩ := b2 h
      obtain ⟨h, h5⟩ := b2 h
      obtain ⟨h, h4⟩ := b2 h
      obtain ⟨h, h3⟩ := b2 h
      obtain ⟨h1, h2⟩ := b2 h
      obtain rfl := of_decide_eq_true h2
      obtain rfl := of_decide_eq_true h3
      subst h4
      exact pv_ (ve_sorR (k.gl h5).1 (k.free _ (by decide)) (soundE a k tk x h7).1 (by rw [star_of (nb h6)] <;> rfl)) (by intro _; rfl)
    · cases h
  | .xis i C, X, Wx, sc, k, tk, e, h => by
    unfold chkE at h
    split at h
    · rename_i f p1 x p3 y p2 pos
      obtain ⟨h, h8⟩ := b2 h
      obtain ⟨h, h7⟩ := b2 h
      obtain ⟨h, h6⟩ := b2 h
      obtain ⟨h, h5⟩ := b2 h
      obtain ⟨h, h4⟩ := b2 h
      obtain ⟨h, h3⟩ := b2 h
      obtain ⟨h1, h2⟩ := b2 h
      obtain rfl := of_decide_eq_true h1
      obtain rfl := of_decide_eq_true h3
      exact pv_ (ve_xis k (pe_var (by rw [k.hn]; exact of_decide_eq_true h5) (k.vis h6) (nb h7) (nb h8)) (k.gl h2).1 (k.gl h4).1 (k.gl h4).2) (by intro _; rfl)
    · cases h
  | .xat i f, X, Wx, sc, k, tk, e, h => by
    unfold chkE at h
    split at h
    · rename_i x p1 g pos
      obtain ⟨h, h5⟩ := b2 h
      obtain ⟨h, h4⟩ := b2 h
      obtain ⟨h, h3⟩ := b2 h
      obtain ⟨h1, h2⟩ := b2 h
      obtain rfl := of_decide_eq_true h1
      exact pv_ (ve_xat k (pe_var (by rw [k.hn]; exact of_decide_eq_true h2) (k.vis h3) (nb h4) (nb h5))) (by intro _; rfl)
    · cases h
  | .els i b, X, Wx, sc, k, tk, e, h => by
    unfold chkE at h
    split at h
    · obtain ⟨h, h6⟩ := b2 h
      obtain ⟨h, h5⟩ := b2 h
      obtain ⟨h, h4⟩ := b2 h
      obtain ⟨h, h3⟩ := b2 h
      obtain ⟨h1, h2⟩ := b2 h
      exact pv_ (ve_els (pe_var (by rw [k.hn]; exact of_decide_eq_true h2) (k.vis h3) (nb h4) (nb h5)) (soundE b k tk _ h6).1 (noSlice (nb h1))) (by intro _; rfl)
    · cases h
  | .lrg a b, X, Wx, sc, k, tk, e, h => by
    unfold chkE at h
    split at h
    · rename_i f p1 g p2 x y pos2 pos
      obtain ⟨h, h8⟩ := b2 h
      obtain ⟨h, h7⟩ := b2 h
      obtain ⟨h, h6⟩ := b2 h
      obtain ⟨h, h5⟩ := b2 h
      obtain ⟨h, h4⟩ := b2 h
      obtain ⟨h, h3⟩ := b2 h
      obtain ⟨h, h2⟩ := b2 h
      obtain ⟨h0, h1⟩ := b2 h
      obtain rfl := of_decide_eq_true h1
      obtain rfl := of_decide_eq_true h2
      exact pv_ (ve_lrg (k.calm (nb h0)) (k.gl h3).1 (k.free _ (by decide)) (k.gl h4).1 (k.free _ (by decide)) (soundE a k tk x h7).1 (soundE b k tk y h8).1 (star_of (nb h5)) (star_of (nb h6)) (by rw [star_of (nb h6)]; rfl)) (by intro _; rfl)
    · cases h
  | .comp own tg ik ies ifs elt, X, Wx, sc, k, tk, e, h => by
    unfold chkE at h
    cases e with
    | ListComp eltE gens scope pos =>
      match gens, h with
      | [⟨tgE, iter, ifsE, a⟩], h =>
        obtain ⟨h, h11⟩ := b2 h
        obtain ⟨h, h10⟩ := b2 h
        obtain ⟨h, h9⟩ := b2 h
        obtain ⟨h, h8⟩ := b2 h
        obtain ⟨h, h7⟩ := b2 h
        obtain ⟨h, h6⟩ := b2 h
        obtain ⟨h, h5⟩ := b2 h
        obtain ⟨h, h4⟩ := b2 h
        obtain ⟨h, h3⟩ := b2 h
        obtain ⟨h, h2⟩ := b2 h
        obtain ⟨h0, h1⟩ := b2 h
        obtain rfl := of_decide_eq_true h1
        have hk : scope.kind = .function := (blkOk_by h2).kind
        have hsl : ∀ i ∈ slots tg, i ∈ own.map (·.2) := fun i hi => of_decide_eq_true (List.all_eq_true.mp h3 i hi)
        refine pv_ (ve_comp (k.calm (nb h0)) k.nd ⟨?_, ?_, hsl, of_decide_eq_true h4, fun s H C cl fp => ?_, fun s H C cl fp => ?_, fun s H C cl fp => ?_, noFold (nb h6)⟩) (by intro _; rfl)
        · exact k.it h8 h9 (soundEs ies k tk _ h9) (sound1 ies k tk _ h9)
        · rw [k.hn, k.hsc]; exact blkOk_by h2
        · have kb := k.blk (nb h0) hk s H C cl fp
          exact soundT kb.hn kb.nd kb.loB (kb.calm (nb h0)) tg tgE h7
        · exact soundI ifs (k.blk (nb h0) hk s H C cl fp) ifsE (of_decide_eq_true h4) h5 h10
        · exact (soundE elt (k.blk (nb h0) hk s H C cl fp) takes0 eltE h11).1
    | _ => cases h
theorem soundEs : ∀ (cs : List E) {X : Cx} {Wx : WX} {sc : Scope} (k : Kx X S N sc ht) (tk : Takes X Wx) (xs : List Expr), chkEs N sc ht cs xs = true → PA X xs (VEs X S Wx cs)
  | [], X, Wx, sc, k, tk, xs, h => by
    unfold chkEs at h
    cases xs with
    | nil => exact vs_nil
    | cons _ _ => cases h
  | c :: cs, X, Wx, sc, k, tk, [], h => by unfold chkEs at h; cases h
  | c :: cs, X, Wx, sc, k, tk, x :: xs, h => by
    unfold chkEs at h
    obtain ⟨h, h3⟩ := b2 h
    obtain ⟨h1, h2⟩ := b2 h
    exact vs_cons (soundE c k tk x h2).1 (soundEs cs k tk xs h3) (star_of (nb h1))
theorem sound1 : ∀ (cs : List E) {X : Cx} {Wx : WX} {sc : Scope} (k : Kx X S N sc ht) (tk : Takes X Wx) (xs : List Expr), chkEs N sc ht cs xs = true → ∀ c x, cs = [c] → xs = [x] → PE X x (VE X S Wx c)
  | [], X, Wx, sc, k, tk, xs, h, c, x, e1, e2 => nomatch e1
  | [c], X, Wx, sc, k, tk, xs, h, c', x, e1, e2 => by
    cases e1
    subst e2
    unfold chkEs at h
    exact (soundE c k tk x (b2 (b2 h).1).2).1
  | _ :: _ :: _, X, Wx, sc, k, tk, xs, h, c, x, e1, e2 => nomatch e1
theorem soundP : ∀ (cs : List E) {X : Cx} {Wx : WX} {sc : Scope} (k : Kx X S N sc ht) (tk : Takes X Wx) (x : Option Expr), chkEs N sc ht cs x.toList = true → (match cs, x with | [], none => True | [e], some y => PE X y (VE X S Wx e) | _, _ => False)
  | [], X, Wx, sc, k, tk, none, h => trivial
  | [], X, Wx, sc, k, tk, some x, h => by unfold chkEs at h; cases h
  | [c], X, Wx, sc, k, tk, none, h => by unfold chkEs at h; cases h
  | [c], X, Wx, sc, k, tk, some x, h => by
    have h' : chkEs N sc ht [c] [x] = true := h
    unfold chkEs at h'
    exact (soundE c k tk x (b2 (b2 h').1).2).1
  | _ :: _ :: _, X, Wx, sc, k, tk, none, h => by unfold chkEs at h; cases h
  | _ :: _ :: _, X, Wx, sc, k, tk, some x, h => by
    have h' : chkEs N sc ht _ [x] = true := h
    unfold chkEs at h'
    have h2 := (b2 h').2
    unfold chkEs at h2
    cases h2
theorem soundI : ∀ (cs : List E) {X : Cx} {sc : Scope} (k : Kx X S N sc ht) (xs : List Expr), cs.length ≤ 1 → cs.all tOk = true → chkEs N sc ht cs xs = true → PTs X xs (ttOf X S cs)
  | [], X, sc, k, xs, hl, ho, h => by
    unfold chkEs at h
    cases xs with
    | nil => exact pts_nil
    | cons _ _ => cases h
  | [c], X, sc, k, [], hl, ho, h => by unfold chkEs at h; cases h
  | [c], X, sc, k, [x], hl, ho, h => by
    unfold chkEs at h
    exact pts_one ((soundE c k takes0 x (b2 (b2 h).1).2).2 (by simpa using ho))
  | [c], X, sc, k, _ :: _ :: _, hl, ho, h => by
    unfold chkEs at h
    have h2 := (b2 h).2
    unfold chkEs at h2
    cases h2
  | _ :: _ :: _, X, sc, k, xs, hl, ho, h => absurd hl (by simp)
theorem soundBA : ∀ (cs : List E) {X : Cx} {Wx : WX} {sc : Scope} (k : Kx X S N sc ht) (tk : Takes X Wx) (xs : List Expr) (pos : Pos), (!(cs.isEmpty)) = true → chkEs N sc ht cs xs = true → PE X (.BoolOp .And xs pos) (VB X S Wx true cs)
  | [], X, Wx, sc, k, tk, xs, pos, hn, h => nomatch hn
  | c :: cs, X, Wx, sc, k, tk, [], pos, hn, h => by unfold chkEs at h; cases h
  | [c], X, Wx, sc, k, tk, x :: xs, pos, hn, h => by
    unfold chkEs at h
    obtain ⟨h, h3⟩ := b2 h
    obtain ⟨h1, h2⟩ := b2 h
    unfold chkEs at h3
    cases xs with
    | nil => exact vb_one (soundE c k tk x h2).1
    | cons _ _ => cases h3
  | c :: d :: cs, X, Wx, sc, k, tk, x :: [], pos, hn, h => by
    unfold chkEs at h
    have h3 := (b2 h).2
    unfold chkEs at h3
    cases h3
  | c :: d :: cs, X, Wx, sc, k, tk, x :: y :: xs, pos, hn, h => by
    unfold chkEs at h
    obtain ⟨h, h3⟩ := b2 h
    obtain ⟨h1, h2⟩ := b2 h
    exact vb_and (soundE c k tk x h2).1 (soundBA (d :: cs) k tk (y :: xs) pos rfl h3)
theorem soundBO : ∀ (cs : List E) {X : Cx} {Wx : WX} {sc : Scope} (k : Kx X S N sc ht) (tk : Takes X Wx) (xs : List Expr) (pos : Pos), (!(cs.isEmpty)) = true → chkEs N sc ht cs xs = true → PE X (.BoolOp .Or xs pos) (VB X S Wx false cs)
  | [], X, Wx, sc, k, tk, xs, pos, hn, h => nomatch hn
  | c :: cs, X, Wx, sc, k, tk, [], pos, hn, h => by unfold chkEs at h; cases h
  | [c], X, Wx, sc, k, tk, x :: xs, pos, hn, h => by
    unfold chkEs at h
    obtain ⟨h, h3⟩ := b2 h
    obtain ⟨h1, h2⟩ := b2 h
    unfold chkEs at h3
    cases xs with
    | nil => exact vb_one (soundE c k tk x h2).1
    | cons _ _ => cases h3
  | c :: d :: cs, X, Wx, sc, k, tk, x :: [], pos, hn, h => by
    unfold chkEs at h
    have h3 := (b2 h).2
    unfold chkEs at h3
    cases h3
  | c :: d :: cs, X, Wx, sc, k, tk, x :: y :: xs, pos, hn, h => by
    unfold chkEs at h
    obtain ⟨h, h3⟩ := b2 h
    obtain ⟨h1, h2⟩ := b2 h
    exact vb_or (soundE c k tk x h2).1 (soundBO (d :: cs) k tk (y :: xs) pos rfl h3)
theorem soundTA : ∀ (cs : List E) {X : Cx} {Wx : WX} {sc : Scope} (k : Kx X S N sc ht) (tk : Takes X Wx) (xs : List Expr) (pos : Pos), (!(cs.isEmpty)) = true → cs.all tOk = true → chkEs N sc ht cs xs = true → PW X (.BoolOp .And xs pos) (VBT X S Wx true cs)
  | [], X, Wx, sc, k, tk, xs, pos, hn, ho, h => nomatch hn
  | c :: cs, X, Wx, sc, k, tk, [], pos, hn, ho, h => by unfold chkEs at h; cases h
  | [c], X, Wx, sc, k, tk, x :: xs, pos, hn, ho, h => by
    unfold chkEs at h
    obtain ⟨h, h3⟩ := b2 h
    obtain ⟨h1, h2⟩ := b2 h
    unfold chkEs at h3
    cases xs with
    | nil => exact vbt_and1 ((soundE c k tk x h2).2 (by simpa using ho))
    | cons _ _ => cases h3
  | c :: d :: cs, X, Wx, sc, k, tk, x :: [], pos, hn, ho, h => by
    unfold chkEs at h
    have h3 := (b2 h).2
    unfold chkEs at h3
    cases h3
  | c :: d :: cs, X, Wx, sc, k, tk, x :: y :: xs, pos, hn, ho, h => by
    unfold chkEs at h
    obtain ⟨h, h3⟩ := b2 h
    obtain ⟨h1, h2⟩ := b2 h
    obtain ⟨o1, o2⟩ := b2 (show (tOk c && (d :: cs).all tOk) = true from ho)
    exact vbt_and ((soundE c k tk x h2).2 o1) (soundTA (d :: cs) k tk (y :: xs) pos rfl o2 h3)
theorem soundTO : ∀ (cs : List E) {X : Cx} {Wx : WX} {sc : Scope} (k : Kx X S N sc ht) (tk : Takes X Wx) (xs : List Expr) (pos : Pos), (!(cs.isEmpty)) = true → cs.all tOk = true → chkEs N sc ht cs xs = true → PW X (.BoolOp .Or xs pos) (VBT X S Wx false cs)
  | [], X, Wx, sc, k, tk, xs, pos, hn, ho, h => nomatch hn
  | c :: cs, X, Wx, sc, k, tk, [], pos, hn, ho, h => by unfold chkEs at h; cases h
  | [c], X, Wx, sc, k, tk, x :: xs, pos, hn, ho, h => by
    unfold chkEs at h
    obtain ⟨h, h3⟩ := b2 h
    obtain ⟨h1, h2⟩ := b2 h
    unfold chkEs at h3
    cases xs with
    | nil => exact vbt_or1 ((soundE c k tk x h2).2 (by simpa using ho))
    | cons _ _ => cases h3
  | c :: d :: cs, X, Wx, sc, k, tk, x :: [], pos, hn, ho, h => by
    unfold chkEs at h
    have h3 := (b2 h).2
    unfold chkEs at h3
    cases h3
  | c :: d :: cs, X, Wx, sc, k, tk, x :: y :: xs, pos, hn, ho, h => by
    unfold chkEs at h
    obtain ⟨h, h3⟩ := b2 h
    obtain ⟨h1, h2⟩ := b2 h
    obtain ⟨o1, o2⟩ := b2 (show (tOk c && (d :: cs).all tOk) = true from ho)
    exact vbt_or ((soundE c k tk x h2).2 o1) (soundTO (d :: cs) k tk (y :: xs) pos rfl o2 h3)
end
end
end SV

set_option Elab.async false
set_option linter.all false
set_option maxRecDepth 100000
set_option maxHeartbeats 4000000
namespace SV
open PySem PySem.Spec PyProof.Rows L2
/-! ### flat data -/
mutual
def flD : D → Bool
  | .lst _ => false
  | .scr _ => false
  | .tup ds => flDs ds
  | .dik _ => false
  | .dit _ => false
  | .ob _ _ => false
  | _ => true
def flDs : List D → Bool
  | [] => true
  | d :: ds => flD d && flDs ds
end
theorem flDs_at : ∀ {ds : List D} {j : Nat} {d : D}, flDs ds = true → ds[j]? = some d → flD d = true
  | d :: ds, 0, e, h, q => by
    unfold flDs at h
    simp at q; subst q
    exact (b2 h).1
  | d :: ds, j + 1, e, h, q => by
    unfold flDs at h
    exact flDs_at (b2 h).2 (by simpa using q)
  | [], j, e, h, q => by simp at q
theorem Rp.fl {K : Fr} {Z Z' : Addr → Prop} {H : Hp} {v : V} {d : D} (h : Rp K H Z v d) (f : flD d = true) : Rp K H Z' v d := by
  induction h with
  | non => exact .non
  | bl b => exact .bl b
  | int i => exact .int i
  | str x => exact .str x
  | lst h z hl r ih => unfold flD at f; cases f
  | tup h hl r ih =>
    unfold flD at f
    exact .tup h hl fun j v d e1 e2 => ih j v d e1 e2 (flDs_at f e2)
  | scr h => unfold flD at f; cases f
  | exo h => exact .exo h
  | dik h z hk r ih => unfold flD at f; cases f
  | dit h z hk r ih => unfold flD at f; cases f
  | ob h z hk r ih => unfold flD at f; cases f
  | hol v => exact .hol v
def flK : Kd → D → Bool
  | .sh, d => flD d
  | .ls k, d => match d with
    | .lst ds => ds.all (flK k)
    | _ => false
  | .lk _ _, _ => false
  | .bw _ k, d => flK k d
  | .dc k, d => match d with
    | .dik ds => ds.all fun e => flK k e.2
    | _ => false
  | .dt, d => match d with
    | .dit ds => ds.all fun e => flD e.2
    | _ => false
  | .ob ks, d => match d with
    | .ob _ ds => ds.all fun e => flK (ks e.1) e.2
    | _ => false
  | .lh _ _ _ _, _ => false
  | .t2 k1 k2, d => match d with
    | .tup [a, b] => flK k1 a && flK k2 b
    | _ => false
  | .t3 k1 k2 k3, d => match d with
    | .tup [a, b, c] => flK k1 a && flK k2 b && flK k3 c
    | _ => false
theorem Rk.fl {K : Fr} {Z Z' : Addr → Prop} {H : Hp} {c : Co} : ∀ {k : Kd} {pos : List Nat} {v : V} {d : D}, Rk K H Z c k pos v d → flK k d = true → Rk K H Z' c k pos v d
  | .sh, pos, v, d, h, f => Rp.fl (show Rp K H _ v d from h) f
  | .ls k, pos, v, d, h, f => by
    obtain ⟨p, vs, ds, rfl, rfl, hp, hH, hl, r⟩ := h
    unfold flK at f
    exact ⟨p, vs, ds, rfl, rfl, hp, hH, hl, fun j v' d' e1 e2 => Rk.fl (r j v' d' e1 e2) (List.all_eq_true.mp f d' (List.mem_of_getElem? e2))⟩
  | .lk _ _, pos, v, d, h, f => nomatch f
  | .bw _ k, pos, v, d, h, f => ⟨h.1, Rk.fl h.2 (by unfold flK at f; exact f)⟩
  | .dc k, pos, v, d, h, f => by
    obtain ⟨p, vs, ds, rfl, rfl, hp, hH, hl, r⟩ := h
    unfold flK at f
    exact ⟨p, vs, ds, rfl, rfl, hp, hH, hl, fun j v' d' e1 e2 => Rk.fl (r j v' d' e1 e2) (List.all_eq_true.mp f d' (List.mem_of_getElem? e2))⟩
  | .dt, pos, v, d, h, f => by
    obtain ⟨p, vs, ds, rfl, rfl, hp, hH, hl, r⟩ := h
    unfold flK at f
    exact ⟨p, vs, ds, rfl, rfl, hp, hH, hl, fun j v' d' e1 e2 => Rp.fl (r j v' d' e1 e2) (List.all_eq_true.mp f d' (List.mem_of_getElem? e2))⟩
  | .ob ks, pos, v, d, h, f => by
    obtain ⟨p, C, dx, vs, ds, rfl, rfl, hp, hH, hl, r⟩ := h
    unfold flK at f
    exact ⟨p, C, dx, vs, ds, rfl, rfl, hp, hH, hl, fun j v' d' e1 e2 => Rk.fl (r j v' d' e1 e2) (List.all_eq_true.mp f d' (List.mem_of_getElem? e2))⟩
  | .lh _ _ _ _, pos, v, d, h, f => nomatch f
  | .t2 k1 k2, pos, v, d, h, f => by
    obtain ⟨p, v1, v2, d1, d2, rfl, rfl, hT, r1, r2⟩ := h
    unfold flK at f
    obtain ⟨f1, f2⟩ := b2 f
    exact ⟨p, v1, v2, d1, d2, rfl, rfl, hT, Rk.fl r1 f1, Rk.fl r2 f2⟩
  | .t3 k1 k2 k3, pos, v, d, h, f => by
    obtain ⟨p, v1, v2, v3, d1, d2, d3, rfl, rfl, hT, r1, r2, r3⟩ := h
    unfold flK at f
    obtain ⟨f0, f3⟩ := b2 f
    obtain ⟨f1, f2⟩ := b2 f0
    exact ⟨p, v1, v2, v3, d1, d2, d3, rfl, rfl, hT, Rk.fl r1 f1, Rk.fl r2 f2, Rk.fl r3 f3⟩
/-- the shared parts stand in H -/
theorem Rk.domS {K : Fr} {Z : Addr → Prop} {H : Hp} {c : Co} : ∀ {k : Kd} {pos : List Nat} {v : V} {d : D}, Rk K H Z c k pos v d → Rk K H (fun a => Z a ∧ H a ≠ none) c k pos v d
  | .sh, pos, v, d, h => (Rp.dom (show Rp K H (fun a => Z a ∧ c a = none) v d from h)).z fun a z => ⟨⟨z.1.1, z.2⟩, z.1.2⟩
  | .ls k, pos, v, d, h => by
    obtain ⟨p, vs, ds, rfl, rfl, hp, hH, hl, r⟩ := h
    exact ⟨p, vs, ds, rfl, rfl, hp, hH, hl, fun j v' d' e1 e2 => Rk.domS (r j v' d' e1 e2)⟩
  | .lk p vs, pos, v, d, h => by
    obtain ⟨ds, rfl, rfl, hp, hH, r⟩ := h
    exact ⟨ds, rfl, rfl, hp, hH, r.dom.mo (Mo.ex (Same.refl _)) fun a z => ⟨⟨z.1.1, z.2⟩, z.1.2⟩⟩
  | .bw p k, pos, v, d, h => ⟨h.1, Rk.domS h.2⟩
  | .dc k, pos, v, d, h => by
    obtain ⟨p, vs, ds, rfl, rfl, hp, hH, hl, r⟩ := h
    exact ⟨p, vs, ds, rfl, rfl, hp, hH, hl, fun j v' d' e1 e2 => Rk.domS (r j v' d' e1 e2)⟩
  | .dt, pos, v, d, h => by
    obtain ⟨p, vs, ds, rfl, rfl, hp, hH, hl, r⟩ := h
    exact ⟨p, vs, ds, rfl, rfl, hp, hH, hl, fun j v' d' e1 e2 => (Rp.dom (r j v' d' e1 e2)).z fun a z => ⟨⟨z.1.1, z.2⟩, z.1.2⟩⟩
  | .ob ks, pos, v, d, h => by
    obtain ⟨p, C, dx, vs, ds, rfl, rfl, hp, hH, hl, r⟩ := h
    exact ⟨p, C, dx, vs, ds, rfl, rfl, hp, hH, hl, fun j v' d' e1 e2 => Rk.domS (r j v' d' e1 e2)⟩
  | .lh p vs n k, pos, v, d, h => by
    obtain ⟨ds, rfl, rfl, hp, hH, hl, r, r0⟩ := h
    exact ⟨ds, rfl, rfl, hp, hH, hl, fun j v' d' hn e1 e2 => Rk.domS (r j v' d' hn e1 e2), r0⟩
  | .t2 k1 k2, pos, v, d, h => by
    obtain ⟨p, v1, v2, d1, d2, rfl, rfl, hT, r1, r2⟩ := h
    exact ⟨p, v1, v2, d1, d2, rfl, rfl, hT, Rk.domS r1, Rk.domS r2⟩
  | .t3 k1 k2 k3, pos, v, d, h => by
    obtain ⟨p, v1, v2, v3, d1, d2, d3, rfl, rfl, hT, r1, r2, r3⟩ := h
    exact ⟨p, v1, v2, v3, d1, d2, d3, rfl, rfl, hT, Rk.domS r1, Rk.domS r2, Rk.domS r3⟩
/-- flat: nothing need be frozen -/
def fOr (c : Bool) (a b : Prop) : Prop := if c = true then a else b
theorem fOr.or {c : Bool} {a b : Prop} (h : fOr c a b) : (c = true ∧ a) ∨ b := by
  unfold fOr at h
  split at h
  · exact .inl ⟨by assumption, h⟩
  · exact .inr h
theorem fOr.mono {c : Bool} {a b a' b' : Prop} (h : fOr c a b) (f : a → a') (g : b → b') : fOr c a' b' := by
  unfold fOr at h ⊢
  split
  · rename_i e; rw [if_pos e] at h; exact f h
  · rename_i e; rw [if_neg e] at h; exact g h
/-! ### what is handed on: whose it is -/
inductive OE where
  | e (x : E) | mv (i : Nat) | cl (f : Str) (es : List E) | t2 (a b : OE) | l1 (a : OE) | l2 (a b : OE) | ci (f : Str) (es : List E) (j : Nat) | nl (k : Kd) | nd (t : Bool) | mvH (j i : Nat)
  | oc (own : List (Str × Nat)) (tg : Tg) (ik : Ik) (ies : List E) (o : OE) (ke : Kd)
def kOf (t : Bool) : D → Kd
  | .lst _ => if t then .ls .sh else .sh
  | _ => .sh
def disj (a b : List Nat) : Bool := a.all fun i => !(b.contains i)
def fzE (f : List Nat) (ρ : Env) : Env := ρ.zipIdx.map fun p => if f.contains p.2 then p.1.map fun q => (Kd.sh, q.2) else p.1
def mvE (m : List Nat) (ρ : Env) : Env := ρ.zipIdx.map fun p => if m.contains p.2 then none else p.1
/-- a key of a dict -/
def keyT (ks : List Key) : D := .tup (ks.map fun k => match k with
  | .inl i => .int i
  | .inr s => .str s)
/-- a place within a slot's own things -/
inductive Pl where
  | var (i : Nat) | at_ (p : Pl) (e : E)
/-- a list there is changed -/
inductive Mop where
  | app (o : OE) | clr | ins (e : E) (o : OE)
inductive Sm where
  | asg (i : Nat) (o : OE) | asgT (tg : Tg) (e : E) | app (i : Nat) (o : OE) (kw : Bool) | ext (i : Nat) (e : E) | setI (i : Nat) (ix : E) (o : OE) (kw : Bool)
  | expr (e : E) | ret (o : OE) | retN | ife (c : E) (a b : List Sm) | for_ (tg : Tg) (ik : Ik) (ies : List E) (b : List Sm) | whl (c : E) (b : List Sm)
  | raise (f m : Str) | pass | brk | cont
  | mut (pl : Pl) (op : Mop)
  | par (i j : Nat) (a b : OE) | setP (pl : Pl) (ix : E) (e : E) | swp (i : Nat) (a b : E) (c : E) | popT (tg : Tg) (i : Nat) | popB (j : Nat) (a : E) (i : Nat)
  | asgO (is : List Nat) (o : OE) | forO (tg : Tg) (i : Nat) (b : List Sm) | forD (tg : Tg) (i : Nat) (b : List Sm) | forA (m : Nat) (pl : Pl) (b : List Sm)
  | try1 (b : List Sm) (C : Str) (i : Nat) (h : List Sm) | tryN (b : List Sm) (C : Str) (h : List Sm) | tryC (b hs : List Sm) | hnd (C : Str) (o : Option Nat) (h : List Sm) | raiseI (C f : Str) (e : E)
  | dput (i : Nat) (ix x : E) | forM (m : Nat) (o : OE) (b : List Sm) | mutK (pl : Pl) (o : OE)
  | asgH (j i : Nat) | appH (j : Nat) (o : OE) | tkO (m l : Nat) (ix : E) | setH (l : Nat) (ix : E) (o : OE)
structure Ed where
  nx : Env → Prop
  rt : Kd → D → Prop
  ex : Exc → Env → Prop
  bk : Env → Prop
  ct : Env → Prop
def forW (b : Ed → Env → Prop) (tg : Tg) : List D → Ed → Env → Prop
  | [], D, ρ => D.nx ρ
  | d :: ds, D, ρ => bindT tg d ρ fun ρ' => b { D with nx := fun ρ => forW b tg ds D ρ, ct := fun ρ => forW b tg ds D ρ, bk := D.nx } ρ'
/-- over a list that slot i owns: it is locked the while -/
def forL (i : Nat) (p : Addr) (vs : List V) (es : List D) (b : Ed → Env → Prop) (tg : Tg) : List D → Ed → Env → Prop
  | [], D, ρ => ρ[i]? = some (some (.lk p vs, .lst es)) ∧ D.nx (ρ.set i (some (.ls .sh, .lst es)))
  | d :: ds, D, ρ => ρ[i]? = some (some (.lk p vs, .lst es)) ∧ bindT tg d ρ fun ρ' => b { D with nx := fun ρ => forL i p vs es b tg ds D ρ, ct := fun ρ => forL i p vs es b tg ds D ρ, bk := fun ρ => ρ[i]? = some (some (.lk p vs, .lst es)) ∧ D.nx (ρ.set i (some (.ls .sh, .lst es))) } ρ'
def whW (c : Env → (Bool → Prop) → Prop) (b : Ed → Env → Prop) : Nat → Ed → Env → Prop
  | 0, _, _ => False
  | n + 1, D, ρ => c ρ fun k => if k = true then b { D with nx := fun ρ => whW c b n D ρ, ct := fun ρ => whW c b n D ρ, bk := D.nx } ρ else D.nx ρ
def lstW (d : D) (Q : List D → Prop) : Prop := match d with
  | .lst es => Q es
  | _ => False
def intW (d : D) (Q : Int → Prop) : Prop := match d with
  | .int i => Q i
  | _ => False
/-- an element's kind in a list of such of kind k' (e: the list is empty): kept (kw) or given up -/
def elK (kw e : Bool) (k' k : Kd) (Q : Kd → Prop) : Prop := if kw = true then (k' = k ∨ e = true) ∧ Q k else Q .sh
/-- the parts of a tuple, each with its kind -/
def unpK : Kd → D → Option (List (Kd × D))
  | .sh, .tup ds => some (ds.map fun d => (.sh, d))
  | .t2 k1 k2, .tup [d1, d2] => some [(k1, d1), (k2, d2)]
  | .t3 k1 k2 k3, .tup [d1, d2, d3] => some [(k1, d1), (k2, d2), (k3, d3)]
  | _, _ => none
def partW (k : Kd) (d : D) (j : Nat) (Q : Kd → D → Prop) : Prop := match unpK k d with
  | some l => match l[j]? with
    | some p => Q p.1 p.2
    | none => False
  | none => False
/-- nothing is one's own -/
def shE (ρ : Env) : Env := ρ.map fun p => p.map fun q => (Kd.sh, q.2)
/-- the elements of a comprehension, each made anew and flat -/
def ocW (step : D → (Kd → D → List Nat → List Nat → Prop) → Prop) (ke : Kd) : List D → List D → (List D → Prop) → Prop
  | [], acc, Q => Q acc
  | x :: xs, acc, Q => step x fun k d _ m => m = [] ∧ k = ke ∧ flK ke d = true ∧ acc.length < sizeLine ∧ ocW step ke xs (acc ++ [d]) Q
section
variable (S : Sg)
def wpO (W : Exc → Prop) : OE → Env → (Kd → D → List Nat → List Nat → Prop) → Prop
  | .e x, ρ, Q => wpE S W x ρ fun d => fOr (flK (kOf (topf x) d) d) (Q (kOf (topf x) d) d [] []) (Q (kOf (topf x) d) d (als x) [])
  | .nl k, ρ, Q => Q (.ls k) (.lst []) [] []
  | .oc own tg ik ies o ke, ρ, Q => wpEs S W ies ρ fun ds => itW ik ds fun items => ocW (fun x K => bindT tg x (wipeE ρ (own.map (·.2))) fun ρ' => wpO (fun _ => False) o (shE ρ') K) ke items [] fun acc => Q (.ls ke) (.lst acc) [] []
  | .mvH j i, ρ, Q => match ρ[j]? with
    | some (some (.lh _ _ n k, .lst ds)) => match ρ[i]? with
      | some (some (.bw q k', d)) => i ≠ j ∧ k' = k ∧ ds[n]? = some (.hol q) ∧ Q (.ls k) (.lst (ds.set n d)) [] [j, i]
      | _ => False
    | some (some (.ls k, d)) => Q (.ls k) d [] [j]
    | _ => False
  | .nd t, ρ, Q => Q (if t = true then .dt else .dc .sh) (if t = true then .dit [] else .dik []) [] []
  | .mv i, ρ, Q => match ρ[i]? with
    | some (some p) => Q p.1 p.2 [] [i]
    | _ => False
  | .cl f es, ρ, Q => match S.T f with
    | some sp => wpEs S W es ρ fun ds => ∃ o, sp ds o ∧ match o with
      | .ret k d => fOr (flK k d) (Q k d [] []) (Q k d (alss es) [])
      | .exc x => W x
      | .any P E => (∀ k d, P k d → fOr (flK k d) (Q k d [] []) (Q k d (alss es) [])) ∧ ∀ x, E x → W x
    | none => False
  | .ci f es j, ρ, Q => match S.T f with
    | some sp => wpEs S W es ρ fun ds => ∃ o, sp ds o ∧ match o with
      | .ret k d => partW k d j fun k' d' => fOr (flK k' d') (Q k' d' [] []) (Q k' d' (alss es) [])
      | .exc x => W x
      | .any P E => (∀ k d, P k d → partW k d j fun k' d' => fOr (flK k' d') (Q k' d' [] []) (Q k' d' (alss es) [])) ∧ ∀ x, E x → W x
    | none => False
  | .t2 a b, ρ, Q => wpO W a ρ fun k1 d1 f1 m1 => wpO W b ρ fun k2 d2 f2 m2 => (disj f1 m2 && disj f2 m1 && disj m1 m2) = true ∧ Q (.t2 k1 k2) (.tup [d1, d2]) (f1 ++ f2) (m1 ++ m2)
  | .l1 a, ρ, Q => wpO W a ρ fun k d f m => Q (.ls k) (.lst [d]) f m
  | .l2 a b, ρ, Q => wpO W a ρ fun k1 d1 f1 m1 => wpO W b ρ fun k2 d2 f2 m2 => (disj f1 m2 && disj f2 m1 && disj m1 m2) = true ∧ k1 = k2 ∧ Q (.ls k1) (.lst [d1, d2]) (f1 ++ f2) (m1 ++ m2)
end
/-- the part at a place -/
def subK : Kd → D → List Nat → Option (Kd × D)
  | .bw _ k, d, js => subK k d js
  | k, d, [] => some (k, d)
  | .dc k, .dik ds, j :: js => match ds[j]? with
    | some d => subK k d.2 js
    | none => none
  | .ob ks, .ob _ ds, j :: js => match ds[j]? with
    | some d => subK (ks d.1) d.2 js
    | none => none
  | .ls k, .lst ds, j :: js => match ds[j]? with
    | some d => subK k d js
    | none => none
  | .t2 k1 k2, .tup [d1, d2], j :: js => match j with
    | 0 => subK k1 d1 js
    | 1 => subK k2 d2 js
    | _ => none
  | _, _, _ :: _ => none
/-- .. another in its stead -/
def putD : D → List Nat → D → D
  | _, [], x => x
  | .lst ds, j :: js, x => .lst (ds.set j (putD (ds.getD j .non) js x))
  | .tup ds, j :: js, x => .tup (ds.set j (putD (ds.getD j .non) js x))
  | .dik ds, j :: js, x => match ds[j]? with
    | some e => .dik (ds.set j (e.1, putD e.2 js x))
    | none => .dik ds
  | .ob C ds, j :: js, x => match ds[j]? with
    | some e => .ob C (ds.set j (e.1, putD e.2 js x))
    | none => .ob C ds
  | d, _ :: _, _ => d
/-- another kind at the place -/
def updK : Kd → List Nat → Kd → Option Kd
  | .bw a k, js, x => (updK k js x).map (.bw a)
  | _, [], x => some x
  | .t2 k1 k2, j :: js, x => match j with
    | 0 => (updK k1 js x).map fun k => .t2 k k2
    | 1 => (updK k2 js x).map fun k => .t2 k1 k
    | _ => none
  | _, _ :: _, _ => none
/-- over an own list of own lists at a place: each in its turn is slot m's own -/
def forAL (i m : Nat) (js : List Nat) (k : Kd) (d : D) (ke : Kd) (p : Addr) (vs : List V) (b : Ed → Env → Prop) : Nat → Nat → List D → Ed → Env → Prop
  | 0, _, es, D, ρ => D.nx (ρ.set i (some (k, putD d js (.lst es))))
  | r + 1, n, es, D, ρ => ∀ q kn, updK k js (.lh p vs n ke) = some kn →
      b { D with nx := fun ρ' => ∃ e', ρ'[m]? = some (some (.bw q ke, e')) ∧ ρ'[i]? = some (some (kn, putD d js (.lst (es.set n (.hol q))))) ∧ forAL i m js k d ke p vs b r (n + 1) (es.set n e') D (ρ'.set m none),
                 ct := fun ρ' => ∃ e', ρ'[m]? = some (some (.bw q ke, e')) ∧ ρ'[i]? = some (some (kn, putD d js (.lst (es.set n (.hol q))))) ∧ forAL i m js k d ke p vs b r (n + 1) (es.set n e') D (ρ'.set m none),
                 bk := fun _ => False } ((ρ.set i (some (kn, putD d js (.lst (es.set n (.hol q)))))).set m (some (.bw q ke, es.getD n .non)))
def sizD : D → Nat
  | .lst ds => ds.length
  | .tup ds => ds.length
  | _ => 0
def stepW (ρ : Env) (i : Nat) (js : List Nat) (j : Int) (Q : List Nat → Prop) : Prop := match ρ[i]? with
  | some (some (k, d)) => match subK k d js with
    | some (_, d') => match ixN (sizD d') j with
      | some n => (subK k d (js ++ [n])).isSome = true ∧ Q (js ++ [n])
      | none => False
    | none => False
  | _ => False
def wpPl (S : Sg) (W : Exc → Prop) : Pl → Env → (Nat → List Nat → Prop) → Prop
  | .var i, ρ, Q => match ρ[i]? with
    | some (some _) => Q i []
    | _ => False
  | .at_ p e, ρ, Q => wpPl S W p ρ fun i js => wpE S W e ρ fun y => intW y fun j => stepW ρ i js j (Q i)
def tgtW (ρ : Env) (i : Nat) (js : List Nat) (Q : Kd → D → List D → Prop) : Prop := match ρ[i]? with
  | some (some (k, d)) => match subK k d js with
    | some (.ls .sh, .lst ds) => Q k d ds
    | _ => False
  | _ => False
def insD (ds : List D) (n : Int) (d : D) : List D := ds.take n.toNat ++ [d] ++ ds.drop n.toNat
def mopW (S : Sg) (Dd : Ed) (ρ : Env) (i : Nat) (js : List Nat) (k : Kd) (d0 : D) (ds : List D) : Mop → Prop
  | .clr => Dd.nx (ρ.set i (some (k, putD d0 js (.lst []))))
  | .app o => wpO S (fun x => Dd.ex x ρ) o ρ fun _ d f m => disj f m = true ∧ disj [i] (f ++ m) = true ∧ ρ.length ≤ 777777 ∧ ds.length < sizeLine ∧ Dd.nx ((mvE m (fzE f ρ)).set i (some (k, putD d0 js (.lst (ds ++ [d])))))
  | .ins e o => wpE S (fun x => Dd.ex x ρ) e ρ fun y => intW y fun n => 0 ≤ n ∧ n < 2 ^ 63 ∧ wpO S (fun x => Dd.ex x ρ) o ρ fun _ d f m => disj f m = true ∧ disj [i] (f ++ m) = true ∧ ρ.length ≤ 777777 ∧ ds.length < sizeLine ∧ Dd.nx ((mvE m (fzE f ρ)).set i (some (k, putD d0 js (.lst (insD ds n d)))))
def setAll : List Nat → List (Kd × D) → Env → Env
  | i :: is, p :: ps, ρ => setAll is ps (ρ.set i (some p))
  | _, _, ρ => ρ
/-- a flat pair -/
def swpW (d : D) (Q : D → D → Prop) : Prop := match d with
  | .tup [x, y] => flD x = true ∧ flD y = true ∧ Q x y
  | _ => False
/-- an element of slot i's own list is stored -/
def setW (S : Sg) (i : Nat) (a : E) (x : D) (ρ : Env) (Q : Env → Prop) : Prop := match ρ[i]? with
  | some (some (.ls .sh, .lst ds)) => wpE S (fun _ => False) a ρ fun y => intW y fun j => ∃ n, ixN ds.length j = some n ∧ Q (ρ.set i (some (.ls .sh, .lst (ds.set n x))))
  | _ => False
def unpW (is : List Nat) (k : Kd) (d : D) (Q : List (Kd × D) → Prop) : Prop := match unpK k d with
  | some l => l.length = is.length ∧ Q l
  | none => False
def hotS (S : Sg) (a : Addr) (nm : Str) (dd : Option Addr) : Sg := { S with T := fun _ => none, X := fun _ => false, mi := fun _ => none, x := some (a, nm, dd) }
/-- an exception comes to a clause -/
def exW (S : Sg) (C : Str) (x : Exc) (no : Prop) (yes : Addr → Addr → Option (Str × Int) → Option Addr → Prop) : Prop := match S.sub x.name C with
  | some true => ∀ a dx, match x.pay with
    | none => yes a dx none none
    | some (f, .int n) => yes a dx (some (f, n)) (some dx)
    | some _ => False
  | some false => no
  | none => False
def tgtK (ρ : Env) (i : Nat) (js : List Nat) (Q : Kd → D → Kd → List D → Prop) : Prop := match ρ[i]? with
  | some (some (k, d)) => match subK k d js with
    | some (.ls ke, .lst ds) => Q k d ke ds
    | _ => False
  | _ => False
/-- over a handed list: each in its turn becomes slot m's own -/
def forML (m : Nat) (ke : Kd) (b : Ed → Env → Prop) : List D → Ed → Env → Prop
  | [], D, ρ => D.nx ρ
  | e :: es, D, ρ => b { D with nx := fun ρ' => ρ'.length ≤ 500000 ∧ forML m ke b es D ρ', ct := fun ρ' => ρ'.length ≤ 500000 ∧ forML m ke b es D ρ', bk := D.nx } (ρ.set m (some (ke, e)))
def lsW (k : Kd) (d : D) (Q : Kd → List D → Prop) : Prop := match k with
  | .ls ke => match d with
    | .lst es => Q ke es
    | _ => False
  | _ => False
/-- a slot's own dict, written at a key -/
def dputW (k : Kd) (d0 y d : D) (R : D → Prop) : Prop := match k with
  | .dc .sh => match d0 with
    | .dik kvs => match keyD y with
      | some q => kvs.length < sizeLine ∧ R (.dik (putKD kvs q d))
      | none => False
    | _ => False
  | .dt => match d0 with
    | .dit kvs => match y with
      | .tup ys => match keysD ys with
        | some q => kvs.length < sizeLine ∧ R (.dit (putKD kvs q d))
        | none => False
      | _ => False
    | _ => False
  | _ => False
/-- every clause's class is known -/
def allC (S : Sg) : List Sm → Prop
  | [] => True
  | s :: r => (match s with
    | .hnd C _ _ => S.sub C C = some true
    | _ => False) ∧ allC S r
/-- a clause's end: its name is gone -/
def edU (o : Option Nat) (D : Ed) : Ed := match o with
  | none => { D with ex := fun _ _ => False }
  | some i => { nx := fun r => D.nx (r.set i none), rt := D.rt, ex := fun _ _ => False, bk := fun r => D.bk (r.set i none), ct := fun r => D.ct (r.set i none) }
def envU (o : Option Nat) (ρ : Env) (a dx : Addr) (pay : Option (Str × Int)) : Env := match o with
  | none => ρ
  | some i => ρ.set i (some (.sh, .exo a dx pay))
mutual
def wpS (S : Sg) : Sm → Ed → Env → Prop
  | .asg i o, D, ρ => wpO S (fun x => D.ex x ρ) o ρ fun k d f m => disj f m = true ∧ D.nx ((mvE m (fzE f ρ)).set i (some (k, d)))
  | .asgT tg e, D, ρ => wpE S (fun x => D.ex x ρ) e ρ fun d => fOr (flD d) (bindT tg d ρ D.nx) (bindT tg d (fzE (als e) ρ) D.nx)
  | .app i o kw, D, ρ => match ρ[i]? with
    | some (some (.ls k', .lst ds)) => wpO S (fun x => D.ex x ρ) o ρ fun k d f m => disj f m = true ∧ disj [i] (f ++ m) = true ∧ ds.length < sizeLine ∧ elK kw ds.isEmpty k' k fun k2 => D.nx ((mvE m (fzE f ρ)).set i (some (.ls k2, .lst (ds ++ [d]))))
    | _ => False
  | .ext i e, D, ρ => match ρ[i]? with
    | some (some (.ls _, .lst ds)) => wpE S (fun x => D.ex x ρ) e ρ fun d => lstW d fun es => ds.length + es.length ≤ sizeLine ∧ fOr (flDs es) (D.nx (ρ.set i (some (.ls .sh, .lst (ds ++ es))))) (disj [i] (als e) = true ∧ D.nx ((fzE (als e) ρ).set i (some (.ls .sh, .lst (ds ++ es)))))
    | _ => False
  | .setI i ix o kw, D, ρ => match ρ[i]? with
    | some (some (.ls k', .lst ds)) => wpO S (fun x => D.ex x ρ) o ρ fun k d f m => wpE S (fun _ => False) ix ρ fun y => intW y fun j => disj f m = true ∧ disj [i] (f ++ m) = true ∧ ∃ n, ixN ds.length j = some n ∧ elK kw (ds.length == 1) k' k fun k2 => D.nx ((mvE m (fzE f ρ)).set i (some (.ls k2, .lst (ds.set n d))))
    | _ => False
  | .expr e, D, ρ => wpE S (fun x => D.ex x ρ) e ρ fun _ => D.nx ρ
  | .ret o, D, ρ => wpO S (fun x => D.ex x ρ) o ρ fun k d f m => disj f m = true ∧ D.rt k d
  | .retN, D, _ => D.rt .sh .non
  | .ife c a b, D, ρ => wpE S (fun x => D.ex x ρ) c ρ fun d => bW d fun k => if k = true then wpB' S a D ρ else wpB' S b D ρ
  | .for_ tg ik ies b, D, ρ => wpEs S (fun x => D.ex x ρ) ies ρ fun ds => itW ik ds fun items => forW (fun D' ρ' => wpB' S b D' ρ') tg items D (if ik = .rng then ρ else fzE (alss ies) ρ)
  | .whl c b, D, ρ => ∃ n, whW (fun ρ Q => wpE S (fun x => D.ex x ρ) c ρ fun d => bW d Q) (fun D' ρ' => wpB' S b D' ρ') n D ρ
  | .raise f _, D, ρ => S.X f = true ∧ D.ex ⟨f, none⟩ ρ
  | .pass, D, ρ => D.nx ρ
  | .brk, D, ρ => D.bk ρ
  | .cont, D, ρ => D.ct ρ
  | .mut pl op, D, ρ => wpPl S (fun x => D.ex x ρ) pl ρ fun i js => tgtW ρ i js fun k d ds => mopW S D ρ i js k d ds op
  | .par i j a b, D, ρ => wpO S (fun x => D.ex x ρ) (.t2 a b) ρ fun k d f m => disj f m = true ∧ ρ.length ≤ 888888 ∧ unpW [i, j] k d fun l => D.nx (setAll [i, j] l (mvE m (fzE f ρ)))
  | .dput i ix x, D, ρ => match ρ[i]? with
    | some (some (k, d0)) => wpE S (fun e => D.ex e ρ) x ρ fun d => wpE S (fun _ => False) ix ρ fun y => dputW k d0 y d fun d' => fOr (flD d) (D.nx (ρ.set i (some (k, d')))) (disj [i] (als x) = true ∧ D.nx ((fzE (als x) ρ).set i (some (k, d'))))
    | _ => False
  | .setP pl ix e, D, ρ => wpE S (fun x => D.ex x ρ) e ρ fun d => flD d = true ∧ wpPl S (fun _ => False) pl ρ fun i js => tgtW ρ i js fun k d0 ds => wpE S (fun _ => False) ix ρ fun y => intW y fun n => ∃ m, ixN ds.length n = some m ∧ D.nx (ρ.set i (some (k, putD d0 js (.lst (ds.set m d)))))
  | .swp i a b c, D, ρ => wpE S (fun x => D.ex x ρ) c ρ fun d => swpW d fun x y => setW S i a x ρ fun ρ' => setW S i b y ρ' D.nx
  | .popT tg i, D, ρ => match ρ[i]? with
    | some (some (.ls .sh, .lst ds)) => match ds.getLast? with
      | some d => bindT tg d (ρ.set i (some (.ls .sh, .lst ds.dropLast))) D.nx
      | none => False
    | _ => False
  | .popB j a i, D, ρ => wpE S (fun x => D.ex x ρ) a ρ fun x => intW x fun m => match ρ[i]? with
    | some (some (.ls .sh, .lst ds)) => match ds.getLast? with
      | some (.int n) => D.nx ((ρ.set i (some (.ls .sh, .lst ds.dropLast))).set j (some (.sh, .int (m + n))))
      | _ => False
    | _ => False
  | .forD tg i b, D, ρ => match ρ[i]? with
    | some (some (.dt, .dit ds)) => forW (fun D' ρ' => wpB' S b D' ρ') tg (ds.map fun e => keyT e.1) D (ρ.set i (some (.sh, .dit ds)))
    | _ => False
  | .forO tg i b, D, ρ => match ρ[i]? with
    | some (some (.ls .sh, .lst ds)) => ∀ p vs, forL i p vs ds (fun D' ρ' => wpB' S b D' ρ') tg ds D (ρ.set i (some (.lk p vs, .lst ds)))
    | _ => False
  | .forA m pl b, D, ρ => wpPl S (fun _ => False) pl ρ fun i js => match ρ[i]? with
    | some (some (k, d)) => match subK k d js with
      | some (.ls (.ls ke), .lst ds) => i ≠ m ∧ updK k js (.ls (.ls ke)) = some k ∧ ∀ p vs, forAL i m js k d (.ls ke) p vs (fun D' ρ' => wpB' S b D' ρ') ds.length 0 ds D ρ
      | _ => False
    | _ => False
  | .mutK pl o, D, ρ => wpPl S (fun x => D.ex x ρ) pl ρ fun i js => tgtK ρ i js fun k d0 ke ds => wpO S (fun x => D.ex x ρ) o ρ fun k2 d f m => disj f m = true ∧ disj [i] (f ++ m) = true ∧ ds.length < sizeLine ∧ k2 = ke ∧ D.nx ((mvE m (fzE f ρ)).set i (some (k, putD d0 js (.lst (ds ++ [d])))))
  | .asgH j i, D, ρ => match ρ[i]? with
    | some (some (.ls k, d)) => i ≠ j ∧ ∀ p q, D.nx ((ρ.set i (some (.bw q (.ls k), d))).set j (some (.lh p [.ref q] 0 (.ls k), .lst [.hol q])))
    | _ => False
  | .appH j o, D, ρ => match ρ[j]? with
    | some (some (.lh p vs n k, .lst ds)) => wpO S (fun x => D.ex x ρ) o ρ fun k2 d f m => disj f m = true ∧ disj [j] (f ++ m) = true ∧ ds.length < sizeLine ∧ n < ds.length ∧ k2 = k ∧ ∀ v, D.nx ((mvE m (fzE f ρ)).set j (some (.lh p (vs ++ [v]) n k, .lst (ds ++ [d]))))
    | _ => False
  | .tkO m l ix, D, ρ => match ρ[l]? with
    | some (some (.ls (.ls k), .lst ds)) => l ≠ m ∧ wpE S (fun _ => False) ix ρ fun y => intW y fun i => ∃ n, ixN ds.length i = some n ∧ ∀ p vs q, D.nx ((ρ.set l (some (.lh p vs n (.ls k), .lst (ds.set n (.hol q))))).set m (some (.bw q (.ls k), ds.getD n .non)))
    | _ => False
  | .setH l ix o, D, ρ => match ρ[l]? with
    | some (some (.lh _ _ n k, .lst ds)) => wpO S (fun x => D.ex x ρ) o ρ fun k2 d f m => wpE S (fun _ => False) ix ρ fun y => intW y fun i => disj f m = true ∧ disj [l] (f ++ m) = true ∧ ixN ds.length i = some n ∧ k2 = k ∧ D.nx ((mvE m (fzE f ρ)).set l (some (.ls k, .lst (ds.set n d))))
    | _ => False
  | .forM m o b, D, ρ => ρ.length ≤ 500000 ∧ wpO S (fun x => D.ex x ρ) o ρ fun k d f mv => disj f mv = true ∧ lsW k d fun ke es => forML m ke (fun D' ρ' => wpB' S b D' ρ') es D (mvE mv (fzE f ρ))
  | .asgO is o, D, ρ => wpO S (fun x => D.ex x ρ) o ρ fun k d f m => disj f m = true ∧ ρ.length ≤ 888888 ∧ unpW is k d fun l => D.nx (setAll is l (mvE m (fzE f ρ)))
  | .try1 b C i h, D, ρ => S.sub C C = some true ∧ wpB' S b { D with ex := fun x ρ' => exW S C x (D.ex x ρ') fun a dx pay dd => wpB' (hotS S a x.name dd) h { nx := fun r => D.nx (r.set i none), rt := D.rt, ex := fun _ _ => False, bk := fun r => D.bk (r.set i none), ct := fun r => D.ct (r.set i none) } (ρ'.set i (some (.sh, .exo a dx pay))) } ρ
  | .tryN b C h, D, ρ => S.sub C C = some true ∧ wpB' S b { D with ex := fun x ρ' => exW S C x (D.ex x ρ') fun a _ _ dd => wpB' (hotS S a x.name dd) h { D with ex := fun _ _ => False } ρ' } ρ
  | .tryC b hs, D, ρ => allC S hs ∧ wpB' S b { D with ex := fun x ρ' => wpHs S hs D x ρ' } ρ
  | .hnd _ _ _, _, _ => False
  | .raiseI C f e, D, ρ => S.mi C = some f ∧ wpE S (fun x => D.ex x ρ) e ρ fun d => intW d fun n => D.ex ⟨C, some (f, .int n)⟩ ρ
def wpHs (S : Sg) : List Sm → Ed → Exc → Env → Prop
  | [], D, x, ρ => D.ex x ρ
  | .hnd C o h :: r, D, x, ρ => exW S C x (wpHs S r D x ρ) fun a dx pay dd => wpB' (hotS S a x.name dd) h (edU o D) (envU o ρ a dx pay)
  | _ :: _, _, _, _ => False
def wpB' (S : Sg) : List Sm → Ed → Env → Prop
  | [], D, ρ => D.nx ρ
  | s :: ss, D, ρ => wpS S s { D with nx := fun ρ => wpB' S ss D ρ } ρ
end
/-! ### the state -/
structure Sr (K : Fr) (Z : Addr → Prop) (H0 H : Hp) (c : Co) (ρ : Env) (σ : L2.St) : Prop where
  len : ρ.length ≤ σ.length
  at_ : ∀ (i : Nat) k d, ρ[i]? = some (some (k, d)) → ∃ v, σ[i]? = some (some v) ∧ Rk K H Z c k [i] v d
  keep : Same H0 H
  new : ∀ a, c a ≠ none → H0 a = none ∧ Mut (H a)
  fsh : Fsh H0 Z
section
variable {K : Fr} {Z : Addr → Prop} {H0 H H' : Hp} {c : Co} {ρ : Env} {σ : L2.St}
def Pc (Z : Addr → Prop) (c : Co) (i : Nat) (a : Addr) : Prop := (Z a ∧ c a = none) ∨ ∃ s, c a = some (s ++ [i])
theorem Sr.sv (h : Sr K Z H0 H c ρ σ) : Sv K H (Pc Z c) ρ σ := ⟨h.len, fun i k d e => by
  obtain ⟨v, h1, h2⟩ := h.at_ i k d e
  exact ⟨v, h1, h2.rp⟩, fun i ds e => by
  obtain ⟨v, h1, p, vs, ds', rfl, e2, hc, hp, hl, r⟩ := h.at_ i _ _ e
  cases e2
  exact ⟨p, vs, h1, hp, hl, fun j v d a b => (show Rp K H (fun a => Z a ∧ c a = none) v d from r j v d a b).z fun a z => .inl z⟩⟩
theorem Rk.ex {k : Kd} {pos : List Nat} {v : V} {d : D} (h : Rk K H Z c k pos v d) (e : Same H H') : Rk K H' Z c k pos v d := h.mv (fun a o q _ => e a o q) (fun _ z => z) (fun _ _ z => z)
theorem Sr.ex (h : Sr K Z H0 H c ρ σ) (e : Same H H') : Sr K Z H0 H' c ρ σ := ⟨h.len, fun i k d q => by
    obtain ⟨v, h1, h2⟩ := h.at_ i k d q
    exact ⟨v, h1, h2.ex e⟩, h.keep.trans e, fun a q => ⟨(h.new a q).1, mut_ex e (h.new a q).2⟩, h.fsh⟩
/-- below slot i -/
def Rt (c : Co) (i : Nat) (a : Addr) : Prop := ∃ s, c a = some (s ++ [i])
theorem Rt.inj {i j : Nat} {a : Addr} (h : Rt c i a) (g : Rt c j a) : i = j := by
  obtain ⟨s, e⟩ := h
  obtain ⟨t, e2⟩ := g
  rw [e] at e2
  have := congrArg (fun l : List Nat => l.getLast?) (Option.some.inj e2)
  simpa using this
/-- a handed value: cc tells what of it is its own (from the place [0] on): made anew, or moved out of the slots m; the rest stands with the slots f, or is nobody's -/
def Ro (K : Fr) (Z : Addr → Prop) (c : Co) (Hs H H' : Hp) (k : Kd) (f m : List Nat) (v : V) (d : D) : Prop :=
  ∃ cc : Co, (∀ a, cc a ≠ none → (H a = none ∧ Mut (H' a)) ∨ ∃ i ∈ m, Rt c i a) ∧ Rk K H' (fun a => (Z a ∧ (c a = none ∨ (∃ i ∈ f, Rt c i a)) ∧ (Hs a ≠ none ∨ H a = none))) cc k [0] v d
theorem fzE_at {f : List Nat} {ρ : Env} {i : Nat} : (fzE f ρ)[i]? = (ρ[i]?).map fun p => if f.contains i then p.map fun q => (Kd.sh, q.2) else p := by
  unfold fzE
  rw [List.getElem?_map, List.getElem?_zipIdx]
  cases ρ[i]? <;> simp
theorem mvE_at {m : List Nat} {ρ : Env} {i : Nat} : (mvE m ρ)[i]? = (ρ[i]?).map fun p => if m.contains i then none else p := by
  unfold mvE
  rw [List.getElem?_map, List.getElem?_zipIdx]
  cases ρ[i]? <;> simp
theorem disj_at {a b : List Nat} (h : disj a b = true) {i : Nat} (ha : i ∈ a) : i ∉ b := by
  unfold disj at h
  have := List.all_eq_true.mp h i ha
  simpa using this
open Classical in
/-- the colours behind it: the value's own at pos, what f froze and m gave away nobody's -/
noncomputable def stl (c cc : Co) (f m pos : List Nat) : Co := fun a => match cc a with
  | some q => if q.getLast? = some 0 then some (q.dropLast ++ pos) else none
  | none => if (∃ i ∈ f, Rt c i a) ∨ (∃ i ∈ m, Rt c i a) then none else c a
theorem stl_some {cc : Co} {f m pos : List Nat} {a : Addr} {s : List Nat} (h : cc a = some (s ++ [0])) : stl c cc f m pos a = some (s ++ pos) := by
  unfold stl
  rw [h]
  simp
theorem stl_none {cc : Co} {f m pos : List Nat} {a : Addr} (h : cc a = none) (hf : ∀ i ∈ f, ¬ Rt c i a) (hm : ∀ i ∈ m, ¬ Rt c i a) : stl c cc f m pos a = c a := by
  unfold stl
  rw [h]
  exact if_neg fun z => by
    rcases z with ⟨i, hi, z⟩ | ⟨i, hi, z⟩
    · exact hf i hi z
    · exact hm i hi z
theorem stl_gone {cc : Co} {f m pos : List Nat} {a : Addr} (h : cc a = none) (hf : (∃ i ∈ f, Rt c i a) ∨ ∃ i ∈ m, Rt c i a) : stl c cc f m pos a = none := by
  unfold stl
  rw [h]
  exact if_pos hf
theorem stl_cn {cc : Co} {f m pos : List Nat} {a : Addr} (h : cc a = none) (hc : c a = none) : stl c cc f m pos a = none := by
  rw [stl_none h]
  · exact hc
  · rintro i _ ⟨s, e⟩; rw [hc] at e; cases e
  · rintro i _ ⟨s, e⟩; rw [hc] at e; cases e
/-- what a slot's datum becomes -/
theorem Sr.settle (h : Sr K Z H0 H c ρ σ) (e : Same H H') {k : Kd} {f m : List Nat} {v : V} {d : D} (dj : disj f m = true) (r : Ro K Z c H H H' k f m v d) (pos : List Nat) :
    ∃ c' : Co, Sr K Z H0 H' c' (mvE m (fzE f ρ)) σ ∧ Rk K H' Z c' k pos v d ∧ (∀ a i, i ∉ f → i ∉ m → Rt c i a → c' a = c a) ∧ (∀ a, H a ≠ none → (c a = none ∨ ∃ i ∈ f, Rt c i a) → c' a = none) := by
  obtain ⟨cc, hcc, rk⟩ := r
  have ccn : ∀ a, H a ≠ none → (∀ i ∈ m, ¬ Rt c i a) → cc a = none := fun a ha hm => by
    cases q : cc a with
    | none => rfl
    | some p =>
      rcases hcc a (by rw [q]; exact fun z => nomatch z) with z | ⟨i, hi, z⟩
      · exact absurd z.1 ha
      · exact absurd z (hm i hi)
  refine ⟨stl c cc f m pos, ⟨?_, fun i k' d' q => ?_, h.keep.trans e, fun a q => ?_, h.fsh⟩, ?_, fun a i hf hm z => ?_, fun a hd z => ?_⟩
  · have : (mvE m (fzE f ρ)).length = ρ.length := by unfold mvE fzE; simp
    rw [this]; exact h.len
  · rw [mvE_at, fzE_at] at q
    cases hρ : ρ[i]? with
    | none => rw [hρ] at q; cases q
    | some p =>
      rw [hρ] at q
      by_cases hm : m.contains i = true
      · simp [hm] at q
        exact absurd (by simpa using hm) q.1
      · have hm' : i ∉ m := by simpa using hm
        cases p with
        | none =>
          by_cases hf : f.contains i = true <;> simp [hm, hf] at q
        | some p =>
          obtain ⟨v', e1, r1⟩ := h.at_ i p.1 p.2 hρ
          have notm : ∀ a, Rt c i a → ∀ j ∈ m, ¬ Rt c j a := fun a z j hj z2 => hm' (z.inj z2 ▸ hj)
          have inH : ∀ a o, H a = some o → H a ≠ none := fun a o z => by rw [z]; exact fun z => nomatch z
          by_cases hf : f.contains i = true
          · have hf' : i ∈ f := by simpa using hf
            simp [hm', hf'] at q
            obtain ⟨rfl, rfl⟩ := q
            refine ⟨v', e1, ?_⟩
            have r2 : Rp K H (fun a => (Pc Z c i a) ∧ H a ≠ none) v' p.2 := r1.rp.dom
            refine (r2.ex e).z fun a z => ?_
            rcases z.1 with z1 | z1
            · exact ⟨z1.1, stl_cn (ccn a z.2 fun j _ z2 => by obtain ⟨s, z2⟩ := z2; rw [z1.2] at z2; cases z2) z1.2⟩
            · exact ⟨h.fsh a (h.new a (by obtain ⟨s, z1⟩ := z1; rw [z1]; exact fun z => nomatch z)).1, stl_gone (ccn a z.2 (notm a z1)) (.inl ⟨i, hf', z1⟩)⟩
          · have hf' : i ∉ f := by simpa using hf
            simp [hm', hf'] at q
            subst q
            refine ⟨v', e1, ?_⟩
            have sh : ∀ a, Z a ∧ c a = none → H a ≠ none → stl c cc f m pos a = none := fun a z hd => stl_cn (ccn a hd fun j _ z2 => by obtain ⟨s, z2⟩ := z2; rw [z.2] at z2; cases z2) z.2
            -- the sh parts stand in H: say so first
            have r2 : Rk K H (fun a => Z a ∧ H a ≠ none) c k' [i] v' d' := Rk.domS r1
            refine r2.mv (fun a o q _ => e a o q) (fun a z => ⟨z.1.1, sh a ⟨z.1.1, z.2⟩ z.1.2⟩) (fun a s z => ?_)
            have rt : Rt c i a := ⟨s, z⟩
            have hd := mut_ne (h.new a (by rw [z]; exact fun z => nomatch z)).2
            rw [stl_none (ccn a hd (notm a rt)) (fun j hj z2 => hf' (rt.inj z2 ▸ hj)) (notm a rt)]
            exact z
  · -- new
    cases q2 : cc a with
    | none =>
      have : c a ≠ none := fun z => q (stl_cn q2 z)
      exact ⟨(h.new a this).1, mut_ex e (h.new a this).2⟩
    | some p =>
      rcases hcc a (by rw [q2]; exact fun z => nomatch z) with z | ⟨i, hi, s, z⟩
      · exact ⟨h.keep.free z.1, z.2⟩
      · have : c a ≠ none := by rw [z]; exact fun z => nomatch z
        exact ⟨(h.new a this).1, mut_ex e (h.new a this).2⟩
  · refine rk.mv (fun a o q _ => q) (fun a z => ⟨z.1.1, ?_⟩) (fun a s z => stl_some z)
    rcases z.1.2.1 with z1 | z1
    · exact stl_cn z.2 z1
    · exact stl_gone z.2 (.inl z1)
  · have hd := mut_ne (h.new a (by obtain ⟨s, z⟩ := z; rw [z]; exact fun z => nomatch z)).2
    exact stl_none (ccn a hd fun j hj z2 => hm (z.inj z2 ▸ hj)) (fun j hj z2 => hf (z.inj z2 ▸ hj)) (fun j hj z2 => hm (z.inj z2 ▸ hj))
  · rcases z with z | ⟨i, hi, z⟩
    · exact stl_cn (ccn a hd fun j _ z2 => by obtain ⟨s, z2⟩ := z2; rw [z] at z2; cases z2) z
    · exact stl_gone (ccn a hd fun j hj z2 => disj_at dj hi (z.inj z2 ▸ hj)) (.inl ⟨i, hi, z⟩)
theorem mvE_nil : mvE [] ρ = ρ := by
  refine List.ext_getElem? fun i => ?_
  rw [mvE_at]
  cases ρ[i]? <;> simp
end
end SV

set_option Elab.async false
set_option linter.all false
set_option maxRecDepth 100000
set_option maxHeartbeats 4000000
namespace SV
open PySem PySem.Spec PyProof.Rows L2
section
variable {X : Cx} {S : Sg} {Wx : WX} {N : List Str} {sc : Scope} {ht : Bool}
def VO (X : Cx) (S : Sg) (Wx : WX) (o : OE) : TE := fun σ H Q => ∃ (Z : Addr → Prop) (H0 Hs : Hp) (c : Co) (ρ : Env) (W : Exc → Prop), Sr X.K Z H0 Hs c ρ σ ∧ Same Hs H ∧ XW X Wx W σ H ∧
  wpO S W o ρ fun k d f m => ∀ v H', Same H H' → Ro X.K Z c Hs H H' k f m v d → Q v H'
/-- .. and stands in H already -/
def Pd (Z : Addr → Prop) (c : Co) (Hs : Hp) (i : Nat) (a : Addr) : Prop := Pc Z c i a ∧ Hs a ≠ none
theorem Sr.svd {K : Fr} {Z : Addr → Prop} {H0 Hs H : Hp} {c : Co} {ρ : Env} {σ : L2.St} (h : Sr K Z H0 Hs c ρ σ) (e : Same Hs H) : Sv K H (Pd Z c Hs) ρ σ := (h.sv.p (fun i k d q a z => z) fun a z => z).ex e
theorem zal_pc {K : Fr} {Z : Addr → Prop} {H0 Hs H : Hp} {c : Co} {ρ : Env} {σ : L2.St} (h : Sr K Z H0 Hs c ρ σ) (e : Same Hs H) {as : List Nat} {a : Addr} (z : Zal (Pd Z c Hs) as H a) : Z a ∧ (c a = none ∨ ∃ i ∈ as, Rt c i a) ∧ (Hs a ≠ none ∨ H a = none) := by
  rcases z with ⟨i, hi, z, zd⟩ | z
  · rcases z with z | ⟨s, z⟩
    · exact ⟨z.1, .inl z.2, .inl zd⟩
    · exact ⟨h.fsh a (h.new a (by rw [z]; exact fun z => nomatch z)).1, .inr ⟨i, hi, s, z⟩, .inl zd⟩
  · refine ⟨h.fsh a (h.keep.free (e.free z)), .inl ?_, .inr z⟩
    cases q : c a with
    | none => rfl
    | some p => exact absurd (e.free z) (mut_ne (h.new a (by rw [q]; exact fun z => nomatch z)).2)
theorem vo_e_rd {x : E} : ∀ σ H Q, VO X S Wx (.e x) σ H Q → VE X S Wx x σ H Q := by
  rintro σ H Q ⟨Z, H0, Hs, c, ρ, W, sr, es0, xw, w⟩
  unfold wpO at w
  refine ⟨Pd Z c Hs, ρ, W, sr.svd es0, xw, wpE.mono (fun d hd v H' s r t => ?_) w⟩
  have ro : Ro X.K Z c Hs H H' (kOf (topf x) d) (als x) [] v d := by
    by_cases ht : topf x = true ∧ ∃ ds, d = .lst ds
    · obtain ⟨h1, ds, rfl⟩ := ht
      obtain ⟨p, vs, rfl, hp, hp', rr⟩ := t h1 ds rfl
      have e0 : kOf (topf x) (.lst ds) = .ls .sh := by rw [h1] <;> rfl
      rw [e0]
      refine ⟨fun a => if a = p then some [0] else none, fun a q => ?_, p, vs, ds, rfl, rfl, by simp, hp', rr.1, fun j v' d' e1 e2 => ?_⟩
      · by_cases e : a = p
        · subst e
          exact .inl ⟨hp, mut_lst hp'⟩
        · simp [e] at q
      · refine Rp.z (rr.2 j v' d' e1 e2) fun a z => ⟨zal_pc sr es0 z.1, by simp [z.2]⟩
    · have e0 : kOf (topf x) d = .sh := by
        cases d <;> first | rfl | (cases h1 : topf x <;> first | rfl | exact absurd ⟨h1, _, rfl⟩ ht)
      rw [e0]
      refine ⟨fun _ => none, fun a q => absurd rfl q, ?_⟩
      exact Rp.z r fun a z => ⟨zal_pc sr es0 z, rfl⟩
  rcases hd.or with ⟨fl, q⟩ | q
  · refine q v H' s ?_
    obtain ⟨cc, h1, h2⟩ := ro
    exact ⟨cc, h1, h2.fl fl⟩
  · exact q v H' s ro
theorem vo_e {x : E} {e : Expr} (h : PE X e (VE X S Wx x)) : PE X e (VO X S Wx (.e x)) := PE.imp h vo_e_rd
theorem vo_mv {i : Nat} {e : Expr} (h : PE X e (tVar i)) : PE X e (VO X S Wx (.mv i)) := by
  refine PE.imp h ?_
  rintro σ H Q ⟨Z, H0, Hs, c, ρ, W, sr, es0, xw, w⟩
  unfold wpO at w
  split at w
  · rename_i p hp
    obtain ⟨v, e1, r0⟩ := sr.at_ i p.1 p.2 hp
    have r := r0.domS.ex es0
    refine ⟨v, e1, w v H (Same.refl H) ⟨fun a => match c a with
      | some q => if q.getLast? = some i then some (q.dropLast ++ [0]) else none
      | none => none, fun a q => .inr ⟨i, by simp, ?_⟩, ?_⟩⟩
    · cases hc : c a with
      | none => simp [hc] at q
      | some l =>
        by_cases hl : l.getLast? = some i
        · refine ⟨l.dropLast, ?_⟩
          rw [hc]
          obtain ⟨ys, rfl⟩ := List.getLast?_eq_some_iff.mp hl
          simp
        · simp [hc, hl] at q
    · refine r.mv (fun a o q _ => q) (fun a z => ⟨⟨z.1.1, .inl z.2, .inl z.1.2⟩, ?_⟩) (fun a s z => ?_)
      · show (match c a with
          | some q => if q.getLast? = some i then some (q.dropLast ++ [0]) else none
          | none => none) = none
        rw [z.2]
      · show (match c a with
          | some q => if q.getLast? = some i then some (q.dropLast ++ [0]) else none
          | none => none) = _
        rw [z]
        simp
  · exact w.elim
/-- a list whose lent element comes back -/
theorem vo_mvH {j i : Nat} {e : Expr} (h : PE X e (tVar j)) : PE X e (VO X S Wx (.mvH j i)) := by
  by_cases hij : i = j
  · subst hij
    refine PE.imp (vo_mv (S := S) (Wx := Wx) h) ?_
    rintro σ H Q ⟨Z, H0, Hs, c, ρ, W, sr, es0, xw, w⟩
    refine ⟨Z, H0, Hs, c, ρ, W, sr, es0, xw, ?_⟩
    unfold wpO at w ⊢
    split at w
    · split at w
      · exact absurd rfl w.1
      · exact w.elim
    · rename_i e1
      rw [e1]
      exact w
    · exact w.elim
  refine ⟨fun pins s σ H Q I w0 => ?_⟩
  obtain ⟨Z, H0, Hs, c, ρ, W, sr, es0, xw, w⟩ := id w0
  unfold wpO at w
  split at w
  · rename_i p vs n k ds ej
    refine (h.run pins s σ H Q I ?_)
    split at w
    · rename_i q k' d ei
      obtain ⟨_, rfl, hn, w⟩ := w
      obtain ⟨vj, e1, rj0⟩ := sr.at_ j _ _ ej
      obtain ⟨vi, e2, ri0⟩ := sr.at_ i _ _ ei
      have rj := rj0.domS.ex es0
      have ri := ri0.domS.ex es0
      obtain ⟨ds', rfl, ed, hcp, hp, hl, rs, r0⟩ := rj
      cases ed
      obtain ⟨rfl, ri⟩ := ri
      let cc : Co := fun a => match c a with
        | some l => if l.getLast? = some j then some (l.dropLast ++ [0]) else if l.getLast? = some i then some (l.dropLast ++ [n, 0]) else none
        | none => none
      have cn : ∀ a, c a = none → cc a = none := fun a z => by
        show (match c a with
          | some l => if l.getLast? = some j then some (l.dropLast ++ [0]) else if l.getLast? = some i then some (l.dropLast ++ [n, 0]) else none
          | none => none) = none
        rw [z]
      have cj : ∀ a s, c a = some (s ++ [j]) → cc a = some (s ++ [0]) := fun a s z => by
        show (match c a with
          | some l => if l.getLast? = some j then some (l.dropLast ++ [0]) else if l.getLast? = some i then some (l.dropLast ++ [n, 0]) else none
          | none => none) = _
        rw [z]
        simp
      have ci : ∀ a s, c a = some (s ++ [i]) → cc a = some (s ++ [n, 0]) := fun a s z => by
        show (match c a with
          | some l => if l.getLast? = some j then some (l.dropLast ++ [0]) else if l.getLast? = some i then some (l.dropLast ++ [n, 0]) else none
          | none => none) = _
        rw [z]
        simp [hij]
      refine ⟨.ref p, e1, w _ H (Same.refl H) ⟨cc, fun a q => .inr ?_, p, vs, _, rfl, rfl, by simpa using cj p [] (by simpa using hcp), hp, by simpa using hl, fun m v' d' a b => ?_⟩⟩
      · cases hc : c a with
        | none => exact absurd (cn a hc) q
        | some l =>
          have q : (match c a with
            | some l => if l.getLast? = some j then some (l.dropLast ++ [0]) else if l.getLast? = some i then some (l.dropLast ++ [n, 0]) else none
            | none => none) ≠ none := q
          rw [hc] at q
          dsimp only at q
          by_cases h1 : l.getLast? = some j
          · refine ⟨j, by simp, l.dropLast, ?_⟩
            rw [hc]
            obtain ⟨ys, rfl⟩ := List.getLast?_eq_some_iff.mp h1
            simp
          · rw [if_neg h1] at q
            by_cases h2 : l.getLast? = some i
            · refine ⟨i, by simp, l.dropLast, ?_⟩
              rw [hc]
              obtain ⟨ys, rfl⟩ := List.getLast?_eq_some_iff.mp h2
              simp
            · rw [if_neg h2] at q
              exact absurd rfl q
      · have hz : ∀ a, (Z a ∧ Hs a ≠ none) ∧ c a = none → (Z a ∧ (c a = none ∨ (∃ i_1 ∈ ([] : List Nat), Rt c i_1 a)) ∧ (Hs a ≠ none ∨ H a = none)) ∧ cc a = none := fun a z => ⟨⟨z.1.1, .inl z.2, .inl z.1.2⟩, cn a z.2⟩
        by_cases hm : m = n
        · subst hm
          have hml := (List.getElem?_eq_some_iff.mp b).1
          rw [List.getElem?_set_self (by simpa using hml)] at b
          cases b
          obtain ⟨a0, rfl, e0⟩ := r0 v' _ a hn
          cases e0
          exact ri.mv (fun a o q _ => q) hz ci
        · rw [List.getElem?_set_ne (Ne.symm hm)] at b
          refine (rs m v' d' hm a b).mv (fun a o q _ => q) hz fun a s z => ?_
          have := cj a (s ++ [m]) (by simpa using z)
          simpa using this
    · exact w.elim
  · rename_i k d ej
    refine (vo_mv (Wx := Wx) (S := S) h).run pins s σ H Q I ⟨Z, H0, Hs, c, ρ, W, sr, es0, xw, ?_⟩
    unfold wpO
    rw [ej]
    exact w
  · exact w.elim
theorem vo_cl {f : Str} {sp : Spec1} {e : E} {es : List E} {x : Expr} {xs : List Expr} {p pos : Pos} (co : CallOk X f sp) (hT : S.T f = some sp) (tk : Takes X Wx) (hg : Gl X f) (ha : PA X (x :: xs) (VEs X S Wx (e :: es)))
    (hdb : (f == ("__debug__" : Str)) = false) (he : starEach (x :: xs) X.env = (false, eval x X.env) :: starEach xs X.env) (hpl : (backTo pos (starEach xs X.env)).any (·.1) = false) : PE X (.Call (.Name f p) (x :: xs) [] pos) (VO X S Wx (.cl f (e :: es))) := by
  obtain ⟨fa, fd, ps, k, F, hr, hm, hk, hb⟩ := co.ex
  refine PE.imp (pe_callS F hr hg hm hk hb (fun σ => passAt tk σ) ha hdb he hpl) ?_
  rintro σ H Q ⟨Z, H0, Hs, c, ρ, W, sr, es0, xw, h⟩
  unfold wpO at h
  rw [hT] at h
  refine ⟨Pd Z c Hs, ρ, W, sr.svd es0, xw, wpEs.mono (fun ds hx vs H1 s1 r1 => ?_) h⟩
  obtain ⟨o, ho, q⟩ := hx
  refine ⟨Zal (Pd Z c Hs) (alss (e :: es)) H, ds, o, Zal.fsh s1, r1, ho, ?_⟩
  have main : ∀ k d, fOr (flK k d) (∀ v H', Same H H' → Ro X.K Z c Hs H H' k [] [] v d → Q v H') (∀ v H', Same H H' → Ro X.K Z c Hs H H' k (alss (e :: es)) [] v d → Q v H') → ∀ v H' (cc : Co), Same H1 H' → (∀ a, cc a ≠ none → H1 a = none ∧ Mut (H' a)) → Rk X.K H' (Zal (Pd Z c Hs) (alss (e :: es)) H) cc k [0] v d → Q v H' := fun k d q v H' cc s2 hc rk => by
    have ro : Ro X.K Z c Hs H H' k (alss (e :: es)) [] v d := ⟨cc, fun a q => .inl ⟨s1.free (hc a q).1, (hc a q).2⟩, rk.mv (fun a o q _ => q) (fun a z => ⟨zal_pc sr es0 z.1, z.2⟩) (fun _ _ z => z)⟩
    rcases q.or with ⟨fl, q⟩ | q
    · refine q v H' (s1.trans s2) ?_
      obtain ⟨cc, h1, h2⟩ := ro
      exact ⟨cc, h1, h2.fl fl⟩
    · exact q v H' (s1.trans s2) ro
  cases o with
  | ret k d => exact main k d q
  | exc x => exact fun cls dd H' s2 r => xw x q cls dd H' (s1.trans s2) r
  | any P' E' => exact ⟨fun k d p => main k d (q.1 k d p), fun x px cls dd H' s2 r => xw x (q.2 x px) cls dd H' (s1.trans s2) r⟩
theorem Ro.part {K : Fr} {Z : Addr → Prop} {c : Co} {Hs H H' : Hp} {k : Kd} {f : List Nat} {v : V} {d : D} {l : List (Kd × D)} {j : Nat} {q : Kd × D} (r : Ro K Z c Hs H H' k f [] v d) (hu : unpK k d = some l) (hj : l[j]? = some q) :
    ∃ p vs u, v = .ref p ∧ SqT K H' p vs ∧ vs[j]? = some u ∧ Ro K Z c Hs H H' q.1 f [] u q.2 := by
  obtain ⟨cc, hcc, rk⟩ := r
  have sub : ∀ (m : Nat) (k' : Kd) (u : V) (d' : D), Rk K H' (fun a => (Z a ∧ (c a = none ∨ (∃ i ∈ f, Rt c i a)) ∧ (Hs a ≠ none ∨ H a = none))) cc k' [m, 0] u d' → Ro K Z c Hs H H' k' f [] u d' := fun m k' u d' rk' => by
    refine ⟨fun a => match cc a with
      | some q => if q.dropLast.getLast? = some m then some (q.dropLast.dropLast ++ [0]) else none
      | none => none, fun a q => ?_, ?_⟩
    · refine hcc a fun z => q ?_
      show (match cc a with
        | some q => if q.dropLast.getLast? = some m then some (q.dropLast.dropLast ++ [0]) else none
        | none => none) = none
      rw [z]
    · refine rk'.mv (fun a o q _ => q) (fun a z => ⟨z.1, ?_⟩) (fun a s z => ?_)
      · show (match cc a with
          | some q => if q.dropLast.getLast? = some m then some (q.dropLast.dropLast ++ [0]) else none
          | none => none) = none
        rw [z.2]
      · show (match cc a with
          | some q => if q.dropLast.getLast? = some m then some (q.dropLast.dropLast ++ [0]) else none
          | none => none) = _
        rw [z]
        have e1 : (s ++ [m, 0]).dropLast = s ++ [m] := by
          rw [show s ++ [m, 0] = (s ++ [m]) ++ [0] by simp, List.dropLast_concat]
        dsimp only
        rw [e1, List.getLast?_concat, if_pos rfl, List.dropLast_concat]
  match k, d, hu, rk with
  | .sh, .tup ds, hu, rk =>
    cases hu
    have rp : Rp K H' _ v (.tup ds) := rk
    obtain ⟨p, vs, rfl, hT, rs⟩ := rp.tupE
    rw [List.getElem?_map] at hj
    cases hd : ds[j]? with
    | none => rw [hd] at hj; cases hj
    | some d' =>
      rw [hd] at hj
      cases hj
      obtain ⟨u, hu, ru⟩ := rs.at hd
      exact ⟨p, vs, u, rfl, hT, hu, cc, hcc, ru⟩
  | .t2 k1 k2, .tup [d1, d2], hu, rk =>
    obtain ⟨p, v1, v2, d1', d2', rfl, e, hT, r1, r2⟩ := rk
    cases e
    cases hu
    match j, hj with
    | 0, hj => cases hj; exact ⟨p, _, v1, rfl, SqT.of hT, rfl, sub 0 _ _ _ r1⟩
    | 1, hj => cases hj; exact ⟨p, _, v2, rfl, SqT.of hT, rfl, sub 1 _ _ _ r2⟩
    | j + 2, hj => simp at hj
  | .t3 k1 k2 k3, .tup [d1, d2, d3], hu, rk =>
    obtain ⟨p, v1, v2, v3, d1', d2', d3', rfl, e, hT, r1, r2, r3⟩ := rk
    cases e
    cases hu
    match j, hj with
    | 0, hj => cases hj; exact ⟨p, _, v1, rfl, SqT.of hT, rfl, sub 0 _ _ _ r1⟩
    | 1, hj => cases hj; exact ⟨p, _, v2, rfl, SqT.of hT, rfl, sub 1 _ _ _ r2⟩
    | 2, hj => cases hj; exact ⟨p, _, v3, rfl, SqT.of hT, rfl, sub 2 _ _ _ r3⟩
    | j + 3, hj => simp at hj
theorem at_nnK {α : Type} {xs : List α} {i : Int} (h0 : 0 ≤ i) (h1 : i < xs.length) : atI xs i = xs[i.toNat]? := by
  unfold atI ixN
  rw [if_pos h0, if_pos h1] <;> rfl
theorem vo_ci {f : Str} {sp : Spec1} {e : E} {es : List E} {x : Expr} {xs : List Expr} {p pos pos2 pos3 : Pos} {j m : Nat} (co : CallOk X f sp) (hT : S.T f = some sp) (tk : Takes X Wx) (hg : Gl X f) (ha : PA X (x :: xs) (VEs X S Wx (e :: es)))
    (hdb : (f == ("__debug__" : Str)) = false) (he : starEach (x :: xs) X.env = (false, eval x X.env) :: starEach xs X.env) (hpl : (backTo pos (starEach xs X.env)).any (·.1) = false) : PE X (.Subscript (.Call (.Name f p) (x :: xs) [] pos) (.Constant (.int (j : Int)) m pos2) pos3) (VO X S Wx (.ci f (e :: es) j)) := by
  obtain ⟨fa, fd, ps, k, F, hr, hm, hk, hb⟩ := co.ex
  refine PE.imp (pe_ix ix_seq (pe_callS F hr hg hm hk hb (fun σ => passAt tk σ) ha hdb he hpl) pe_int (fun _ _ => rfl)) ?_
  rintro σ H Q ⟨Z, H0, Hs, c, ρ, W, sr, es0, xw, h⟩
  unfold wpO at h
  rw [hT] at h
  refine ⟨Pd Z c Hs, ρ, W, sr.svd es0, xw, wpEs.mono (fun ds hx vs H1 s1 r1 => ?_) h⟩
  obtain ⟨o, ho, q⟩ := hx
  refine ⟨Zal (Pd Z c Hs) (alss (e :: es)) H, ds, o, Zal.fsh s1, r1, ho, ?_⟩
  have main : ∀ k d, (partW k d j fun k' d' => fOr (flK k' d') (∀ v H', Same H H' → Ro X.K Z c Hs H H' k' [] [] v d' → Q v H') (∀ v H', Same H H' → Ro X.K Z c Hs H H' k' (alss (e :: es)) [] v d' → Q v H')) → ∀ v H' (cc : Co), Same H1 H' → (∀ a, cc a ≠ none → H1 a = none ∧ Mut (H' a)) → Rk X.K H' (Zal (Pd Z c Hs) (alss (e :: es)) H) cc k [0] v d → rIx X.K v (.int (j : Int)) H' Q := fun k d q v H' cc s2 hc rk => by
    have ro : Ro X.K Z c Hs H H' k (alss (e :: es)) [] v d := ⟨cc, fun a q => .inl ⟨s1.free (hc a q).1, (hc a q).2⟩, rk.mv (fun a o q _ => q) (fun a z => ⟨zal_pc sr es0 z.1, z.2⟩) (fun _ _ z => z)⟩
    unfold partW at q
    split at q
    · rename_i l hu
      split at q
      · rename_i pr hj
        obtain ⟨p', vs', u, rfl, hT', hu', ro'⟩ := ro.part hu hj
        refine .inr (.inl ⟨p', vs', _, u, rfl, rfl, hT', ?_, ?_⟩)
        · have hjl := (List.getElem?_eq_some_iff.mp hu').1
          rw [at_nnK (by omega) (by omega), Int.toNat_natCast]
          exact hu'
        · rcases q.or with ⟨fl, q⟩ | q
          · refine q u H' (s1.trans s2) ?_
            obtain ⟨cc, h1, h2⟩ := ro'
            exact ⟨cc, h1, h2.fl fl⟩
          · exact q u H' (s1.trans s2) ro'
      · exact q.elim
    · exact q.elim
  cases o with
  | ret k d => exact main k d q
  | exc x => exact fun cls dd H' s2 r => xw x q cls dd H' (s1.trans s2) r
  | any P' E' => exact ⟨fun k d p => main k d (q.1 k d p), fun x px cls dd H' s2 r => xw x (q.2 x px) cls dd H' (s1.trans s2) r⟩
theorem Rt.ne {c : Co} {i : Nat} {a : Addr} (h : Rt c i a) : c a ≠ none := by
  obtain ⟨s, e⟩ := h
  rw [e]; exact fun z => nomatch z
/-- two parts, side by side -/
theorem ro_two {K : Fr} {Z : Addr → Prop} {H0 Hs H H1 H2 : Hp} {c : Co} {ρ : Env} {σ : L2.St} (sr : Sr K Z H0 Hs c ρ σ) (s0 : Same Hs H) (s1 : Same H H1) (s2 : Same H1 H2) {k1 k2 : Kd} {f1 m1 f2 m2 : List Nat} {v1 v2 : V} {d1 d2 : D} (r1 : Ro K Z c Hs H H1 k1 f1 m1 v1 d1) (r2 : Ro K Z c Hs H1 H2 k2 f2 m2 v2 d2)
    (j12 : disj f1 m2 = true) (j21 : disj f2 m1 = true) (jm : disj m1 m2 = true) {p : Addr} (hp : H2 p = none) : Ro K Z c Hs H (upd H2 p (.tup [v1, v2])) (.t2 k1 k2) (f1 ++ f2) (m1 ++ m2) (.ref p) (.tup [d1, d2]) := by
  obtain ⟨c1, hc1, rk1⟩ := r1
  obtain ⟨c2, hc2, rk2⟩ := r2
  have e3 := same_new (o := HO.tup [v1, v2]) hp
  -- what the one has the other has not
  have x12 : ∀ a, c1 a ≠ none → c2 a = none := fun a h1 => by
    cases q : c2 a with
    | none => rfl
    | some l =>
      exfalso
      have h2 := hc2 a (by rw [q]; exact fun z => nomatch z)
      rcases hc1 a h1 with z1 | ⟨i, hi, z1⟩
      · rcases h2 with z2 | ⟨j, hj, z2⟩
        · exact mut_ne z1.2 z2.1
        · exact mut_ne (sr.new a z2.ne).2 (s0.free z1.1)
      · rcases h2 with z2 | ⟨j, hj, z2⟩
        · exact mut_ne (sr.new a z1.ne).2 (s0.free (s1.free z2.1))
        · exact disj_at jm hi (z1.inj z2 ▸ hj)
  let cc : Co := fun a => match c1 a with
    | some q => some (q.dropLast ++ [0, 0])
    | none => match c2 a with
      | some q => some (q.dropLast ++ [1, 0])
      | none => none
  have ccn : ∀ a, c1 a = none → c2 a = none → cc a = none := fun a h1 h2 => by
    show (match c1 a with
    | some q => some (q.dropLast ++ [0, 0])
    | none => match c2 a with
      | some q => some (q.dropLast ++ [1, 0])
      | none => none) = none
    rw [h1, h2]
  refine ⟨cc, fun a q => ?_, p, v1, v2, d1, d2, rfl, rfl, upd_same, ?_, ?_⟩
  · by_cases h1 : c1 a = none
    · by_cases h2 : c2 a = none
      · exact absurd (ccn a h1 h2) q
      · rcases hc2 a h2 with z | ⟨j, hj, z⟩
        · exact .inl ⟨s1.free z.1, mut_ex e3 z.2⟩
        · exact .inr ⟨j, List.mem_append_right _ hj, z⟩
    · rcases hc1 a h1 with z | ⟨j, hj, z⟩
      · exact .inl ⟨z.1, mut_ex e3 (mut_ex s2 z.2)⟩
      · exact .inr ⟨j, List.mem_append_left _ hj, z⟩
  · refine rk1.domS.mv (fun a o q _ => e3 a o (s2 a o q)) (fun a z => ⟨⟨z.1.1.1, ?_, z.1.1.2.2⟩, ccn a z.2 ?_⟩) (fun a s z => ?_)
    · rcases z.1.1.2.1 with w | ⟨i, hi, w⟩
      · exact .inl w
      · exact .inr ⟨i, List.mem_append_left _ hi, w⟩
    · cases q : c2 a with
      | none => rfl
      | some l =>
        exfalso
        rcases hc2 a (by rw [q]; exact fun z => nomatch z) with w | ⟨j, hj, w⟩
        · exact z.1.2 w.1
        · rcases z.1.1.2.1 with u | ⟨i, hi, u⟩
          · exact w.ne u
          · exact disj_at j12 hi (u.inj w ▸ hj)
    · show (match c1 a with
        | some q => some (q.dropLast ++ [0, 0])
        | none => _) = _
      rw [z]
      simp
  · refine rk2.mv (fun a o q _ => e3 a o q) (fun a z => ⟨⟨z.1.1, ?_, ?_⟩, ccn a ?_ z.2⟩) (fun a s z => ?_)
    · rcases z.1.2.1 with w | ⟨i, hi, w⟩
      · exact .inl w
      · exact .inr ⟨i, List.mem_append_right _ hi, w⟩
    · rcases z.1.2.2 with w | w
      · exact .inl w
      · exact .inr (s1.free w)
    · cases q : c1 a with
      | none => rfl
      | some l =>
        exfalso
        rcases hc1 a (by rw [q]; exact fun z => nomatch z) with w | ⟨j, hj, w⟩
        · rcases z.1.2.2 with u | u
          · exact u (s0.free w.1)
          · exact mut_ne w.2 u
        · rcases z.1.2.1 with u | ⟨i, hi, u⟩
          · exact w.ne u
          · exact disj_at j21 hi (u.inj w ▸ hj)
    · have h1 : c1 a = none := by
        cases q : c1 a with
        | none => rfl
        | some l =>
          have := x12 a (by rw [q]; exact fun z => nomatch z)
          rw [z] at this; cases this
      show (match c1 a with
        | some q => some (q.dropLast ++ [0, 0])
        | none => match c2 a with
          | some q => some (q.dropLast ++ [1, 0])
          | none => none) = _
      rw [h1, z]
      simp
theorem ro_l1 {K : Fr} {Z : Addr → Prop} {H0 Hs H H1 : Hp} {c : Co} {ρ : Env} {σ : L2.St} (sr : Sr K Z H0 Hs c ρ σ) (s0 : Same Hs H) (s1 : Same H H1) {k : Kd} {f m : List Nat} {v : V} {d : D} (r : Ro K Z c Hs H H1 k f m v d) {p : Addr} (hp : H1 p = none) : Ro K Z c Hs H (upd H1 p (.lst [v])) (.ls k) f m (.ref p) (.lst [d]) := by
  obtain ⟨c1, hc1, rk⟩ := r
  have e3 := same_new (o := HO.lst [v]) hp
  have p0 : H p = none := s1.free hp
  have ps : Hs p = none := s0.free p0
  have np1 : c1 p = none := by
    cases q : c1 p with
    | none => rfl
    | some l =>
      exfalso
      rcases hc1 p (by rw [q]; exact fun z => nomatch z) with w | ⟨j, hj, w⟩
      · exact mut_ne w.2 hp
      · exact mut_ne (sr.new p w.ne).2 ps
  let cc : Co := fun a => if a = p then some [0] else match c1 a with
    | some q => some (q.dropLast ++ [0, 0])
    | none => none
  have ccp : cc p = some [0] := if_pos rfl
  have ccn : ∀ a, a ≠ p → c1 a = none → cc a = none := fun a ha h1 => by
    refine (if_neg ha).trans ?_
    rw [h1]
  refine ⟨cc, fun a q => ?_, p, [v], [d], rfl, rfl, ccp, upd_same, rfl, fun j v' d' e1 e2 => ?_⟩
  · by_cases ha : a = p
    · subst ha
      exact .inl ⟨p0, by rw [upd_same]; trivial⟩
    · by_cases h1 : c1 a = none
      · exact absurd (ccn a ha h1) q
      · rcases hc1 a h1 with z | ⟨j, hj, z⟩
        · exact .inl ⟨z.1, mut_ex e3 z.2⟩
        · exact .inr ⟨j, hj, z⟩
  · match j, e1, e2 with
    | 0, e1, e2 =>
      cases e1; cases e2
      refine rk.domS.mv (fun a o q _ => e3 a o q) (fun a z => ⟨⟨z.1.1.1, z.1.1.2.1, z.1.1.2.2⟩, ccn a (fun h => z.1.2 (by rw [h]; exact hp)) z.2⟩) (fun a s z => ?_)
      have ha : a ≠ p := fun e => by rw [e, np1] at z; cases z
      show (if a = p then some [0] else match c1 a with
        | some q => some (q.dropLast ++ [0, 0])
        | none => none) = _
      rw [if_neg ha, z]
      simp
    | j + 1, e1, e2 => simp at e1
theorem ro_l2 {K : Fr} {Z : Addr → Prop} {H0 Hs H H1 H2 : Hp} {c : Co} {ρ : Env} {σ : L2.St} (sr : Sr K Z H0 Hs c ρ σ) (s0 : Same Hs H) (s1 : Same H H1) (s2 : Same H1 H2) {k : Kd} {f1 m1 f2 m2 : List Nat} {v1 v2 : V} {d1 d2 : D} (r1 : Ro K Z c Hs H H1 k f1 m1 v1 d1) (r2 : Ro K Z c Hs H1 H2 k f2 m2 v2 d2)
    (j12 : disj f1 m2 = true) (j21 : disj f2 m1 = true) (jm : disj m1 m2 = true) {p : Addr} (hp : H2 p = none) : Ro K Z c Hs H (upd H2 p (.lst [v1, v2])) (.ls k) (f1 ++ f2) (m1 ++ m2) (.ref p) (.lst [d1, d2]) := by
  obtain ⟨c1, hc1, rk1⟩ := r1
  obtain ⟨c2, hc2, rk2⟩ := r2
  have e3 := same_new (o := HO.lst [v1, v2]) hp
  have p1 : H1 p = none := s2.free hp
  have p0 : H p = none := s1.free p1
  have ps : Hs p = none := s0.free p0
  have np1 : c1 p = none := by
    cases q : c1 p with
    | none => rfl
    | some l =>
      exfalso
      rcases hc1 p (by rw [q]; exact fun z => nomatch z) with w | ⟨j, hj, w⟩
      · exact mut_ne w.2 p1
      · exact mut_ne (sr.new p w.ne).2 ps
  have np2 : c2 p = none := by
    cases q : c2 p with
    | none => rfl
    | some l =>
      exfalso
      rcases hc2 p (by rw [q]; exact fun z => nomatch z) with w | ⟨j, hj, w⟩
      · exact mut_ne w.2 hp
      · exact mut_ne (sr.new p w.ne).2 ps
  have x12 : ∀ a, c1 a ≠ none → c2 a = none := fun a h1 => by
    cases q : c2 a with
    | none => rfl
    | some l =>
      exfalso
      have h2 := hc2 a (by rw [q]; exact fun z => nomatch z)
      rcases hc1 a h1 with z1 | ⟨i, hi, z1⟩
      · rcases h2 with z2 | ⟨j, hj, z2⟩
        · exact mut_ne z1.2 z2.1
        · exact mut_ne (sr.new a z2.ne).2 (s0.free z1.1)
      · rcases h2 with z2 | ⟨j, hj, z2⟩
        · exact mut_ne (sr.new a z1.ne).2 (s0.free (s1.free z2.1))
        · exact disj_at jm hi (z1.inj z2 ▸ hj)
  let cc : Co := fun a => if a = p then some [0] else match c1 a with
    | some q => some (q.dropLast ++ [0, 0])
    | none => match c2 a with
      | some q => some (q.dropLast ++ [1, 0])
      | none => none
  have ccp : cc p = some [0] := if_pos rfl
  have ccn : ∀ a, a ≠ p → c1 a = none → c2 a = none → cc a = none := fun a ha h1 h2 => by
    refine (if_neg ha).trans ?_
    rw [h1, h2]
  refine ⟨cc, fun a q => ?_, p, [v1, v2], [d1, d2], rfl, rfl, ccp, upd_same, rfl, fun j v d e1 e2 => ?_⟩
  · by_cases ha : a = p
    · subst ha
      exact .inl ⟨p0, by rw [upd_same]; trivial⟩
    · by_cases h1 : c1 a = none
      · by_cases h2 : c2 a = none
        · exact absurd (ccn a ha h1 h2) q
        · rcases hc2 a h2 with z | ⟨j, hj, z⟩
          · exact .inl ⟨s1.free z.1, mut_ex e3 z.2⟩
          · exact .inr ⟨j, List.mem_append_right _ hj, z⟩
      · rcases hc1 a h1 with z | ⟨j, hj, z⟩
        · exact .inl ⟨z.1, mut_ex e3 (mut_ex s2 z.2)⟩
        · exact .inr ⟨j, List.mem_append_left _ hj, z⟩
  · match j, e1, e2 with
    | 0, e1, e2 =>
      cases e1; cases e2
      refine rk1.domS.mv (fun a o q _ => e3 a o (s2 a o q)) (fun a z => ⟨⟨z.1.1.1, ?_, z.1.1.2.2⟩, ccn a (fun h => z.1.2 (by rw [h]; exact p1)) z.2 ?_⟩) (fun a s z => ?_)
      · rcases z.1.1.2.1 with w | ⟨i, hi, w⟩
        · exact .inl w
        · exact .inr ⟨i, List.mem_append_left _ hi, w⟩
      · cases q : c2 a with
        | none => rfl
        | some l =>
          exfalso
          rcases hc2 a (by rw [q]; exact fun z => nomatch z) with w | ⟨j, hj, w⟩
          · exact z.1.2 w.1
          · rcases z.1.1.2.1 with u | ⟨i, hi, u⟩
            · exact w.ne u
            · exact disj_at j12 hi (u.inj w ▸ hj)
      · have ha : a ≠ p := by
          rintro rfl
          rw [np1] at z; cases z
        refine (if_neg ha).trans ?_
        rw [z]
        simp
    | 1, e1, e2 =>
      cases e1; cases e2
      refine rk2.domS.mv (fun a o q _ => e3 a o q) (fun a z => ⟨⟨z.1.1.1, ?_, ?_⟩, ccn a (fun h => z.1.2 (by rw [h]; exact hp)) ?_ z.2⟩) (fun a s z => ?_)
      · rcases z.1.1.2.1 with w | ⟨i, hi, w⟩
        · exact .inl w
        · exact .inr ⟨i, List.mem_append_right _ hi, w⟩
      · rcases z.1.1.2.2 with w | w
        · exact .inl w
        · exact .inr (s1.free w)
      · cases q : c1 a with
        | none => rfl
        | some l =>
          exfalso
          rcases hc1 a (by rw [q]; exact fun z => nomatch z) with w | ⟨j, hj, w⟩
          · rcases z.1.1.2.2 with u | u
            · exact u (s0.free w.1)
            · exact mut_ne w.2 u
          · rcases z.1.1.2.1 with u | ⟨i, hi, u⟩
            · exact w.ne u
            · exact disj_at j21 hi (u.inj w ▸ hj)
      · have h1 : c1 a = none := by
          cases q : c1 a with
          | none => rfl
          | some l =>
            have := x12 a (by rw [q]; exact fun z => nomatch z)
            rw [z] at this; cases this
        have ha : a ≠ p := by
          rintro rfl
          rw [np2] at z; cases z
        refine (if_neg ha).trans ?_
        rw [h1, z]
        simp
    | j + 2, e1, e2 => simp at e1
theorem ocW.mono {step step' : D → (Kd → D → List Nat → List Nat → Prop) → Prop} {ke : Kd} {Q Q' : List D → Prop} (q : ∀ d, Q d → Q' d) (st : ∀ x k k', (∀ a b f m, k a b f m → k' a b f m) → step x k → step' x k') : ∀ {xs acc : List D}, ocW step ke xs acc Q → ocW step' ke xs acc Q'
  | [], acc, h => q _ h
  | x :: xs, acc, h => st x _ _ (fun k d f m h => ⟨h.1, h.2.1, h.2.2.1, h.2.2.2.1, ocW.mono q st h.2.2.2.2⟩) h
theorem wpO.mono {W : Exc → Prop} : ∀ {o : OE} {ρ : Env} {Q Q' : Kd → D → List Nat → List Nat → Prop}, (∀ k d f m, Q k d f m → Q' k d f m) → wpO S W o ρ Q → wpO S W o ρ Q'
  | .e x, ρ, Q, Q', q, h => by
    unfold wpO at h ⊢
    refine wpE.mono (fun d hd => ?_) h
    exact hd.mono (q _ _ _ _) (q _ _ _ _)
  | .nl k, ρ, Q, Q', q, h => by
    unfold wpO at h ⊢
    exact q _ _ _ _ h
  | .oc own tg ik ies o ke, ρ, Q, Q', q, h => by
    unfold wpO at h ⊢
    exact wpEs.mono (fun ds hx => itW.mono (fun items hy => ocW.mono (fun acc hz => q _ _ _ _ hz) (fun x k k' hk hs => bindT.mono (fun ρ' hw => wpO.mono hk hw) hs) hy) hx) h
  | .mvH j i, ρ, Q, Q', q, h => by
    unfold wpO at h ⊢
    split at h
    · split at h
      · exact ⟨h.1, h.2.1, h.2.2.1, q _ _ _ _ h.2.2.2⟩
      · exact h.elim
    · exact q _ _ _ _ h
    · exact h.elim
  | .nd t, ρ, Q, Q', q, h => by
    unfold wpO at h ⊢
    exact q _ _ _ _ h
  | .mv i, ρ, Q, Q', q, h => by
    unfold wpO at h ⊢
    split at h <;> first | exact q _ _ _ _ h | exact h.elim
  | .cl f es, ρ, Q, Q', q, h => by
    unfold wpO at h ⊢
    split at h
    · refine wpEs.mono (fun ds hx => ?_) h
      obtain ⟨o, ho, hx⟩ := hx
      refine ⟨o, ho, ?_⟩
      cases o with
      | ret k d =>
        exact fOr.mono hx (q _ _ _ _) (q _ _ _ _)
      | exc x => exact hx
      | any P E => exact ⟨fun k d p => fOr.mono (hx.1 k d p) (q _ _ _ _) (q _ _ _ _), hx.2⟩
    · exact h
  | .ci f es j, ρ, Q, Q', q, h => by
    unfold wpO at h ⊢
    split at h
    · refine wpEs.mono (fun ds hx => ?_) h
      obtain ⟨o, ho, hx⟩ := hx
      refine ⟨o, ho, ?_⟩
      cases o with
      | ret k d =>
        dsimp only at hx ⊢
        unfold partW at hx ⊢
        split at hx
        · split at hx
          · exact fOr.mono hx (q _ _ _ _) (q _ _ _ _)
          · exact hx
        · exact hx
      | exc x => exact hx
      | any P E =>
        refine ⟨fun k d p => ?_, hx.2⟩
        have hx := hx.1 k d p
        unfold partW at hx ⊢
        split at hx
        · split at hx
          · exact fOr.mono hx (q _ _ _ _) (q _ _ _ _)
          · exact hx
        · exact hx
    · exact h
  | .t2 a b, ρ, Q, Q', q, h => by
    unfold wpO at h ⊢
    exact wpO.mono (fun _ _ _ _ h1 => wpO.mono (fun _ _ _ _ h2 => ⟨h2.1, q _ _ _ _ h2.2⟩) h1) h
  | .l1 a, ρ, Q, Q', q, h => by
    unfold wpO at h ⊢
    exact wpO.mono (fun _ _ _ _ h1 => q _ _ _ _ h1) h
  | .l2 a b, ρ, Q, Q', q, h => by
    unfold wpO at h ⊢
    exact wpO.mono (fun _ _ _ _ h1 => wpO.mono (fun _ _ _ _ h2 => ⟨h2.1, h2.2.1, q _ _ _ _ h2.2.2⟩) h1) h
theorem vo_l1 {a : OE} {x : Expr} {pos : Pos} (ha : PE X x (VO X S Wx a)) (h1 : isStar x = false) : PE X (.List [x] pos) (VO X S Wx (.l1 a)) := by
  refine PE.imp (pe_lst (pa_cons ha pa_nil (star_of h1))) ?_
  rintro σ H Q ⟨Z, H0, Hs, c, ρ, W, sr, es0, xw, w⟩
  unfold wpO at w
  refine ⟨Z, H0, Hs, c, ρ, W, sr, es0, xw, wpO.mono (fun k d f m w1 v H1 s1 r => ?_) w⟩
  refine ⟨by show 1 ≤ sizeLine; rw [sizeLine_eq]; decide, fun p hp => ?_⟩
  exact w1 _ _ (s1.trans (same_new hp)) (ro_l1 sr es0 s1 r hp)
theorem vo_l2 {a b : OE} {x y : Expr} {pos : Pos} (ha : PE X x (VO X S Wx a)) (hb : PE X y (VO X S Wx b)) (h1 : isStar x = false) (h2 : isStar y = false) : PE X (.List [x, y] pos) (VO X S Wx (.l2 a b)) := by
  refine PE.imp (pe_lst (pa_cons ha (pa_cons hb pa_nil (star_of h2)) (star_of h1))) ?_
  rintro σ H Q ⟨Z, H0, Hs, c, ρ, W, sr, es0, xw, w⟩
  unfold wpO at w
  refine ⟨Z, H0, Hs, c, ρ, W, sr, es0, xw, wpO.mono (fun k1 d1 f1 m1 w1 v1 H1 s1 r1 => ?_) w⟩
  refine ⟨Z, H0, Hs, c, ρ, W, sr, es0.trans s1, xw.ex s1, wpO.mono (fun k2 d2 f2 m2 w2 v2 H2 s2 r2 => ?_) w1⟩
  refine ⟨by show 2 ≤ sizeLine; rw [sizeLine_eq]; decide, fun p hp => ?_⟩
  obtain ⟨jj, ek, w3⟩ := w2
  obtain ⟨j, j3⟩ := b2 jj
  obtain ⟨j1, j2⟩ := b2 j
  subst ek
  exact w3 _ _ ((s1.trans s2).trans (same_new hp)) (ro_l2 sr es0 s1 s2 r1 r2 j1 j2 j3 hp)
theorem vo_t2 {a b : OE} {x y : Expr} {k : Nat} {pos : Pos} (ha : PE X x (VO X S Wx a)) (hb : PE X y (VO X S Wx b)) (h1 : isStar x = false) (h2 : isStar y = false) : PE X (.Tuple [x, y] k pos) (VO X S Wx (.t2 a b)) := by
  refine PE.imp (pe_tup (pa_cons ha (pa_cons hb pa_nil (star_of h2)) (star_of h1))) ?_
  rintro σ H Q ⟨Z, H0, Hs, c, ρ, W, sr, es0, xw, w⟩
  unfold wpO at w
  refine ⟨Z, H0, Hs, c, ρ, W, sr, es0, xw, wpO.mono (fun k1 d1 f1 m1 w1 v1 H1 s1 r1 => ?_) w⟩
  refine ⟨Z, H0, Hs, c, ρ, W, sr, es0.trans s1, xw.ex s1, wpO.mono (fun k2 d2 f2 m2 w2 v2 H2 s2 r2 => ?_) w1⟩
  refine ⟨by show 2 ≤ sizeLine; rw [sizeLine_eq]; decide, fun p hp => ?_⟩
  obtain ⟨j, j3⟩ := b2 w2.1
  obtain ⟨j1, j2⟩ := b2 j
  exact w2.2 _ _ ((s1.trans s2).trans (same_new hp)) (ro_two sr es0 s1 s2 r1 r2 j1 j2 j3 hp)
def chkO (N : List Str) (sc : Scope) (ht : Bool) : OE → Expr → Bool
  | .e x, e => chkE N sc ht x e
  | .mv i, e => chkE N sc ht (.var i) e
  | .nl k, e => match e with
    | .List [] _ => true
    | _ => false
  | .oc own tg ik ies o _, e => match e with
    | .ListComp eltE [⟨tgE, iter, [], a⟩] scope _ => !ht && decide (a = 0) && blkC N sc scope own && (slots tg).all (fun i => decide (i ∈ own.map (·.2))) && !(isSet iter) && chkT N (locB (relS scope sc)) tg tgE && itOk sc ik tgE iter && chkEs N sc ht ies (itArgs ik iter) && chkO N (relS scope sc) ht o eltE
    | _ => false
  | .mvH j _, e => chkE N sc ht (.var j) e
  | .nd t, e => match e with
    | .Dict [] [] _ => true
    | _ => false
  | .cl f es, e => chkE N sc ht (.call f es) e
  | .ci f es j, e => match e with
    | .Subscript x (.Constant (.int n) _ _) _ => decide (n = (j : Int)) && chkE N sc ht (.call f es) x
    | _ => false
  | .l1 a, e => match e with
    | .List [x] _ => !(isStar x) && chkO N sc ht a x
    | _ => false
  | .l2 a b, e => match e with
    | .List [x, y] _ => !(isStar x) && !(isStar y) && chkO N sc ht a x && chkO N sc ht b y
    | _ => false
  | .t2 a b, e => match e with
    | .Tuple [x, y] _ _ => !(isStar x) && !(isStar y) && chkO N sc ht a x && chkO N sc ht b y
    | _ => false
theorem sound_ci {f : Str} {es : List E} {j : Nat} {X : Cx} {Wx : WX} {sc : Scope} (k : Kx X S N sc ht) (tk : Takes X Wx) (e : Expr) (h : chkO N sc ht (.ci f es j) e = true) : PE X e (VO X S Wx (.ci f es j)) := by
  have key : ∃ y p xs pos m pos2 pos3, e = .Subscript (.Call (.Name y p) xs [] pos) (.Constant (.int (j : Int)) m pos2) pos3 ∧ y = f ∧ gloB sc y = true ∧ (!(es.isEmpty)) = true ∧ chkEs N sc ht es xs = true := by
    unfold chkO at h
    split at h
    · rename_i y n m pos2 pos3
      obtain ⟨h0, hh⟩ := b2 h
      have e0 := of_decide_eq_true h0
      unfold chkE at hh
      split at hh
      · rename_i y' p xs pos
        obtain ⟨hh, h4⟩ := b2 hh
        obtain ⟨hh, h3⟩ := b2 hh
        obtain ⟨h1, h2⟩ := b2 hh
        exact ⟨y', p, xs, pos, m, pos2, pos3, by rw [e0], of_decide_eq_true h1, h2, h3, h4⟩
      · cases hh
    · cases h
  obtain ⟨y, p, xs, pos, m, pos2, pos3, rfl, rfl, h2, h3, h4⟩ := key
  obtain ⟨g, d⟩ := k.gl h2
  cases es with
  | nil => cases h3
  | cons c cs =>
    cases xs with
    | nil => unfold chkEs at h4; cases h4
    | cons z zs =>
      have q := soundEs (c :: cs) k tk (z :: zs) h4
      unfold chkEs at h4
      obtain ⟨h4, h5⟩ := b2 h4
      cases hT : S.T y with
      | some sp => exact vo_ci (k.call y sp hT) hT tk g q d (star_of (nb (b2 h4).1)) (nostars h5)
      | none =>
        refine ⟨fun pins s σ H Q I q2 => ?_⟩
        obtain ⟨Z, H0, Hs, c, ρ, W, sr, es0, xw, w⟩ := q2
        unfold wpO at w
        rw [hT] at w
        exact w.elim
theorem vo_nl {k : Kd} {pos : Pos} : PE X (.List [] pos) (VO X S Wx (.nl k)) := by
  refine PE.imp (pe_lst pa_nil) ?_
  rintro σ H Q ⟨Z, H0, Hs, c, ρ, W, sr, es0, xw, w⟩
  unfold wpO at w
  refine ⟨by show 0 ≤ sizeLine; omega, fun p hp => w _ _ (same_new hp) ?_⟩
  refine ⟨fun a => if a = p then some [0] else none, fun a q => ?_, p, [], [], rfl, rfl, by simp, upd_same, rfl, fun j v' d' e1 e2 => by simp at e1⟩
  by_cases e : a = p
  · subst e
    exact .inl ⟨hp, mut_lst upd_same⟩
  · simp [e] at q
theorem shE_at {ρ : Env} {i : Nat} {k : Kd} {d : D} (h : (shE ρ)[i]? = some (some (k, d))) : k = .sh ∧ ∃ k0, ρ[i]? = some (some (k0, d)) := by
  unfold shE at h
  rw [List.getElem?_map] at h
  cases e : ρ[i]? with
  | none => rw [e] at h; cases h
  | some p =>
    rw [e] at h
    cases p with
    | none => cases h
    | some q =>
      cases h
      exact ⟨rfl, q.1, rfl⟩
def ostep (S : Sg) (tg : Tg) (own : List (Str × Nat)) (o : OE) (ρ : Env) : D → (Kd → D → List Nat → List Nat → Prop) → Prop := fun x K => bindT tg x (wipeE ρ (own.map (·.2))) fun ρ' => wpO S (fun _ => False) o (shE ρ') K
theorem oc_read {own : List (Str × Nat)} {tg : Tg} {ik : Ik} {ies : List E} {o : OE} {ke : Kd} (hsl : ∀ i ∈ slots tg, i ∈ own.map (·.2)) :
    ∀ σ H Q, VO X S Wx (.oc own tg ik ies o ke) σ H Q → tLc (VI X S Wx ik ies) (gOf X.K tg) (ttOf X S []) (VO X S W0 o) (own.map (·.2)) σ H Q := by
  rintro σ H Q ⟨Z, H0, Hs, c, ρ, W, sr, es0, xw, h⟩
  unfold wpO at h
  refine ⟨Pd Z c Hs, ρ, W, sr.svd es0, xw, wpEs.mono (fun ds hx => ?_) h⟩
  refine itW.mono (fun items hlc => ?_) hx
  intro J H1 G s1 it' g0 Da hD
  have sv := sr.svd es0
  have it := it'.up (Z' := fun a => Zal (Pd Z c Hs) (alss ies) H a ∧ H1 a ≠ none) fun a z => z.2
  have svD := (sv.ex s1).p (P' := fun i a => Pd Z c Hs i a ∧ H1 a ≠ none) (fun i k d e a z => z) fun a z => z
  have q0 := same_new (o := HO.lst []) hD
  have mo : ∀ {H2 : Hp} {ys ws : List V}, H2 Da = some (.lst ys) → Mo (fun a => Zal (Pd Z c Hs) (alss ies) H a ∧ H1 a ≠ none) H2 (upd H2 Da (.lst ws)) := fun {H2 ys ws} e a u ea z => by
    have hne : a ≠ Da := by
      rintro rfl
      rw [e] at ea
      cases ea
      rcases z with z | z
      · exact z.2 hD
      · exact z trivial
    rw [upd_ne hne]; exact ea
  refine lc_it it.w (Pv := fun i H2 => ∃ (acc : List D) (accV : List V) (cl : Co), H2 Da = some (.lst accV) ∧ (∀ a u, H1 a = some u → H2 a = some u) ∧ (∀ a, cl a ≠ none → H1 a = none ∧ a ≠ Da ∧ Mut (H2 a)) ∧ accV.length = acc.length ∧ (∀ (j : Nat) v d, accV[j]? = some v → acc[j]? = some d → Rk X.K H2 (fun _ => False) cl ke [j, 0] v d) ∧ G H2 ∧
    ocW (ostep S tg own o ρ) ke (items.drop i) acc fun acc => ∀ v H', Same H H' → Ro X.K Z c Hs H H' (.ls ke) [] [] v (.lst acc) → Q v H') ?_ (fun i H2 _ h => by obtain ⟨_, _, _, _, _, _, _, _, g, _⟩ := h; exact g) ?_ ?_
  · exact ⟨[], [], fun _ => none, upd_same, fun a u e => q0 a u e, fun a q => absurd rfl q, rfl, fun j v d e => by simp at e, it.st _ _ g0 (Mo.ex q0), hlc⟩
  · rintro i x H2 H3 hlt ⟨acc, accV, cl, e1, k1, hcl, hll, rk, g2, w⟩ ⟨s3, d, ed, rd⟩
    rw [List.drop_eq_getElem_cons hlt] at w
    have ed2 : items[i] = d := by
      rw [List.getElem?_eq_getElem hlt] at ed
      exact Option.some.inj ed
    rw [ed2] at w
    have eD3 : H3 Da = some (.lst accV) := s3 _ _ e1
    have svW := (svD.ex (H' := H3) fun a u e => s3 a u (k1 a u e)).wipe (own.map (·.2))
    have svI : Sv X.K H3 (fun j a => (if j ∈ own.map (·.2) then (Zal (Pd Z c Hs) (alss ies) H a ∧ H1 a ≠ none) else (Pd Z c Hs j a ∧ H1 a ≠ none)) ∨ (j = 999999 ∧ Pd Z c Hs 999999 a ∧ H1 a ≠ none)) (wipeE ρ (own.map (·.2))) (wipe σ (own.map (·.2))) := svW.p (fun j k d e a z => by
      rw [if_neg (wipeE_at e).1]
      exact .inl z.1) fun a z => .inr ⟨rfl, z.1⟩
    have gG : G H3 := it.st _ _ g2 (Mo.ex s3)
    unfold ocW at w
    unfold ostep at w
    refine bind_sv svI rd (fun j hj a z => .inl (by rw [if_pos (hsl j hj)]; exact z)) w fun ρ' σ' w' sv' o1 => ⟨wipe_only o1 hsl, ?_⟩
    have tt : ∀ (Q : Bool → Hp → Prop), Q true H3 → ttOf X S [] σ' H3 Q := fun Q h => h
    refine tt _ ?_
    rw [if_pos rfl]
    refine ⟨fun _ => True, H3, H3, fun _ => none, shE ρ', fun _ => False, ⟨?_, fun i k d e => ?_, Same.refl H3, fun a q => absurd rfl q, fun a _ => trivial⟩, Same.refl H3, fun _ f => f.elim, wpO.mono (fun k2 d2 f m hd2 y H4 s4 ro => ?_) w'⟩
    · have := sv'.len
      unfold shE
      simpa using this
    · obtain ⟨rfl, k0, e0⟩ := shE_at e
      obtain ⟨v, h1, h2⟩ := sv'.at_ i k0 d e0
      exact ⟨v, h1, h2.z fun _ _ => ⟨trivial, rfl⟩⟩
    · obtain ⟨rfl, rfl, hfl, hln, w4⟩ := hd2
      obtain ⟨cc, hcc, rk0⟩ := ro
      have rk1 : Rk X.K H4 (fun _ => False) cc k2 [0] y d2 := rk0.fl hfl
      have hcc : ∀ a, cc a ≠ none → H3 a = none ∧ Mut (H4 a) := fun a q => by
        rcases hcc a q with z | ⟨i, hi, _⟩
        · exact z
        · cases hi
      have eD4 : H4 Da = some (.lst accV) := s4 _ _ eD3
      let cl2 : Co := fun a => match cc a with
        | some r => some (r.dropLast ++ [acc.length, 0])
        | none => cl a
      have c2n : ∀ a, cc a = none → cl2 a = cl a := fun a z => by show (match cc a with | some r => some (r.dropLast ++ [acc.length, 0]) | none => cl a) = _; rw [z]
      have c2s : ∀ a s, cc a = some (s ++ [0]) → cl2 a = some (s ++ [acc.length, 0]) := fun a s z => by show (match cc a with | some r => some (r.dropLast ++ [acc.length, 0]) | none => cl a) = _; rw [z]; simp
      have nD : ∀ a, cc a ≠ none → a ≠ Da := fun a q => by
        rintro rfl
        rw [(hcc a q).1] at eD3; cases eD3
      refine ⟨accV, eD4, by rw [hll]; exact hln, acc ++ [d2], accV ++ [y], cl2, upd_same, fun a u e => ?_, fun a q => ?_, by simp [hll], fun j v d a b => ?_, it.st _ _ (it.st _ _ gG (Mo.ex s4)) (mo eD4), w4⟩
      · rw [upd_ne (ne_of_none e hD)]
        exact s4 _ _ (s3 _ _ (k1 a u e))
      · cases z : cc a with
        | some r =>
          have zn : cc a ≠ none := by rw [z]; exact fun z => nomatch z
          obtain ⟨h3, h4⟩ := hcc a zn
          exact ⟨Same.free (fun a u e => s3 a u (k1 a u e)) h3, nD a zn, by rw [upd_ne (nD a zn)]; exact h4⟩
        | none =>
          rw [c2n a z] at q
          obtain ⟨h3, h4, h5⟩ := hcl a q
          exact ⟨h3, h4, by rw [upd_ne h4]; exact mut_ex s4 (mut_ex s3 h5)⟩
      · by_cases hj : j < acc.length
        · rw [List.getElem?_append_left (by omega)] at a
          rw [List.getElem?_append_left hj] at b
          refine (rk j v d a b).mv (fun a u e z => ?_) (fun a z => z.1.elim) fun a s z => ?_
          · have hne : a ≠ Da := by
              rcases z with z | ⟨s, z⟩ | z
              · exact z.1.elim
              · exact (hcl a (by rw [z]; exact fun z => nomatch z)).2.1
              · rintro rfl
                rw [e1] at e; cases e
                exact z trivial
            rw [upd_ne hne]
            exact s4 _ _ (s3 _ _ e)
          · rw [c2n a ?_]
            · exact z
            · cases q : cc a with
              | none => rfl
              | some r =>
                have h1 := (hcc a (by rw [q]; exact fun z => nomatch z)).1
                have h2 := (hcl a (by rw [z]; exact fun z => nomatch z)).2.2
                exact absurd (Same.free s3 h1) (mut_ne h2)
        · have hj2 : j = acc.length := by
            have := (List.getElem?_eq_some_iff.mp b).1
            simp at this
            omega
          subst hj2
          rw [← hll] at a
          simp at a b
          subst a; subst b
          refine rk1.mv (fun a u e z => ?_) (fun a z => z.1.elim) fun a s z => c2s a s z
          have hne : a ≠ Da := by
            rcases z with z | ⟨s, z⟩ | z
            · exact z.1.elim
            · exact nD a (by rw [z]; exact fun z => nomatch z)
            · rintro rfl
              rw [eD4] at e; cases e
              exact z trivial
          rw [upd_ne hne]; exact e
  · rintro H2 ⟨acc, accV, cl, e1, k1, hcl, hll, rk, g2, w⟩
    rw [List.drop_eq_nil_of_le (Nat.le_refl _)] at w
    unfold ocW at w
    have e2 : Same H H2 := s1.trans fun a u e => k1 a u e
    refine w (.ref Da) H2 e2 ⟨fun a => if a = Da then some [0] else cl a, fun a q => .inl ?_, Da, accV, acc, rfl, rfl, by simp, e1, hll, fun j v d a b => (rk j v d a b).mv (fun a u e _ => e) (fun a z => z.1.elim) fun a s z => ?_⟩
    · by_cases h : a = Da
      · subst h
        exact ⟨s1.free hD, mut_lst e1⟩
      · simp only [if_neg h] at q
        obtain ⟨h3, _, h5⟩ := hcl a q
        exact ⟨s1.free h3, h5⟩
    · rw [if_neg (hcl a (by rw [z]; exact fun z => nomatch z)).2.1]
      simpa using z
theorem vo_nd {t : Bool} {pos : Pos} : PE X (.Dict [] [] pos) (VO X S Wx (.nd t)) := by
  have col : ∀ (H : Hp) (p : Addr) (o : HO), H p = none → Mut (some o) → ∀ a, (fun a => if a = p then some [0] else none : Addr → Option (List Nat)) a ≠ none → (H a = none ∧ Mut (upd H p o a)) := fun H p o hp mo a q => by
    by_cases e : a = p
    · subst e
      exact ⟨hp, by rw [upd_same]; exact mo⟩
    · simp [e] at q
  cases t with
  | false =>
    refine PE.imp pe_dnewK ?_
    rintro σ H Q ⟨Z, H0, Hs, c, ρ, W, sr, es0, xw, w⟩
    unfold wpO at w
    refine fun p hp => w _ _ (same_new hp) ?_
    exact ⟨fun a => if a = p then some [0] else none, fun a q => .inl (col H p (.dK []) hp trivial a q), p, [], [], rfl, rfl, by simp, upd_same, rfl, fun j v' d' e1 e2 => by simp at e1⟩
  | true =>
    refine PE.imp pe_dnewT ?_
    rintro σ H Q ⟨Z, H0, Hs, c, ρ, W, sr, es0, xw, w⟩
    unfold wpO at w
    refine fun p hp => w _ _ (same_new hp) ?_
    exact ⟨fun a => if a = p then some [0] else none, fun a q => .inl (col H p (.dT []) hp trivial a q), p, [], [], rfl, rfl, by simp, upd_same, rfl, fun j v' d' e1 e2 => by simp at e1⟩
theorem soundO : ∀ (o : OE) {X : Cx} {Wx : WX} {sc : Scope} (k : Kx X S N sc ht) (tk : Takes X Wx) (e : Expr), chkO N sc ht o e = true → PE X e (VO X S Wx o)
  | .e x, X, Wx, sc, k, tk, e, h => vo_e (soundE x k tk e h).1
  | .mv i, X, Wx, sc, k, tk, e, h => by
    unfold chkO chkE at h
    cases e with
    | Name x pos =>
      obtain ⟨h, h4⟩ := b2 h
      obtain ⟨h, h3⟩ := b2 h
      obtain ⟨h1, h2⟩ := b2 h
      exact vo_mv (pe_var (by rw [k.hn]; exact of_decide_eq_true h1) (k.vis h2) (nb h3) (nb h4))
    | _ => cases h
  | .cl f es, X, Wx, sc, k, tk, e, h => by
    unfold chkO chkE at h
    cases e with
    | Call g xs kws pos =>
      match g, kws, h with
      | .Name x p, [], h =>
        obtain ⟨h, h4⟩ := b2 h
        obtain ⟨h, h3⟩ := b2 h
        obtain ⟨h1, h2⟩ := b2 h
        obtain rfl := of_decide_eq_true h1
        obtain ⟨g, d⟩ := k.gl h2
        match es, xs, h3, h4 with
        | c :: cs, y :: ys, _, h4 =>
          have q := soundEs (c :: cs) k tk (y :: ys) h4
          unfold chkEs at h4
          obtain ⟨h4, h5⟩ := b2 h4
          cases hT : S.T x with
          | some sp => exact vo_cl (k.call x sp hT) hT tk g q d (star_of (nb (b2 h4).1)) (nostars h5)
          | none =>
            refine ⟨fun pins s σ H Q I q2 => ?_⟩
            obtain ⟨Z, H0, Hs, c, ρ, W, sr, es0, xw, w⟩ := q2
            unfold wpO at w
            rw [hT] at w
            exact w.elim
        | c :: cs, [], _, h4 => unfold chkEs at h4; cases h4
    | _ => cases h
  | .ci f es j, X, Wx, sc, k, tk, e, h => sound_ci k tk e h
  | .mvH j i, X, Wx, sc, k, tk, e, h => by
    unfold chkO chkE at h
    cases e with
    | Name x pos =>
      obtain ⟨h, h4⟩ := b2 h
      obtain ⟨h, h3⟩ := b2 h
      obtain ⟨h1, h2⟩ := b2 h
      exact vo_mvH (pe_var (by rw [k.hn]; exact of_decide_eq_true h1) (k.vis h2) (nb h3) (nb h4))
    | _ => cases h
  | .oc own tg ik ies o ke, X, Wx, sc, k, tk, e, h => by
    unfold chkO at h
    split at h
    · rename_i eltE tgE iter a scope pos
      obtain ⟨h, h9⟩ := b2 h
      obtain ⟨h, h8⟩ := b2 h
      obtain ⟨h, h7⟩ := b2 h
      obtain ⟨h, h6⟩ := b2 h
      obtain ⟨h, h5⟩ := b2 h
      obtain ⟨h, h4⟩ := b2 h
      obtain ⟨h, h3⟩ := b2 h
      obtain ⟨h0, h1⟩ := b2 h
      obtain rfl := of_decide_eq_true h1
      have hk : scope.kind = .function := (blkOk_by h3).kind
      have hsl : ∀ i ∈ slots tg, i ∈ own.map (·.2) := fun i hi => of_decide_eq_true (List.all_eq_true.mp h4 i hi)
      refine PE.imp (pe_lc (k.calm (nb h0)) k.nd (k.it h7 h8 (soundEs ies k tk _ h8) (sound1 ies k tk _ h8)) (by rw [k.hn, k.hsc]; exact blkOk_by h3) (fun s H C cl fp => ?_) (fun s H C cl fp => ?_) (fun s H C cl fp => ?_) (noFold (nb h5))) (oc_read hsl)
      · have kb := k.blk (nb h0) hk s H C cl fp
        exact soundT kb.hn kb.nd kb.loB (kb.calm (nb h0)) tg tgE h6
      · exact soundI [] (k.blk (nb h0) hk s H C cl fp) [] (by simp) rfl rfl
      · exact soundO o (k.blk (nb h0) hk s H C cl fp) takes0 eltE h9
    · cases h
  | .nd t, X, Wx, sc, k, tk, e, h => by
    unfold chkO at h
    split at h
    · exact vo_nd
    · cases h
  | .nl kd, X, Wx, sc, k, tk, e, h => by
    unfold chkO at h
    split at h
    · exact vo_nl
    · cases h
  | .l1 a, X, Wx, sc, k, tk, e, h => by
    unfold chkO at h
    split at h
    · rename_i x pos
      obtain ⟨h1, h2⟩ := b2 h
      exact vo_l1 (soundO a k tk x h2) (nb h1)
    · cases h
  | .l2 a b, X, Wx, sc, k, tk, e, h => by
    unfold chkO at h
    split at h
    · rename_i x y pos
      obtain ⟨h, h4⟩ := b2 h
      obtain ⟨h, h3⟩ := b2 h
      obtain ⟨h1, h2⟩ := b2 h
      exact vo_l2 (soundO a k tk x h3) (soundO b k tk y h4) (nb h1) (nb h2)
    · cases h
  | .t2 a b, X, Wx, sc, k, tk, e, h => by
    unfold chkO at h
    cases e with
    | Tuple xs j pos =>
      match xs, h with
      | [x, y], h =>
        obtain ⟨h, h4⟩ := b2 h
        obtain ⟨h, h3⟩ := b2 h
        obtain ⟨h1, h2⟩ := b2 h
        exact vo_t2 (soundO a k tk x h3) (soundO b k tk y h4) (nb h1) (nb h2)
    | _ => cases h
end
end SV

set_option Elab.async false
set_option linter.all false
set_option maxRecDepth 100000
set_option maxHeartbeats 4000000
namespace SV
open PySem PySem.Spec PyProof.Rows L2
section
variable {K : Fr} {Z : Addr → Prop} {H0 H H' : Hp} {c : Co} {ρ : Env} {σ : L2.St}
theorem Sr.setK (h : Sr K Z H0 H c ρ σ) {i : Nat} {k : Kd} {v : V} {d : D} (r : Rk K H Z c k [i] v d) : Sr K Z H0 H c (ρ.set i (some (k, d))) (σ.set i (some v)) := by
  refine ⟨by simpa using h.len, fun j k' d' e => ?_, h.keep, h.new, h.fsh⟩
  by_cases hj : j = i
  · subst hj
    have hl : j < ρ.length := by
      have := List.getElem?_eq_some_iff.mp e
      simpa using this.1
    rw [List.getElem?_set_self hl] at e
    cases e
    exact ⟨v, List.getElem?_set_self (Nat.lt_of_lt_of_le hl h.len), r⟩
  · rw [List.getElem?_set_ne (Ne.symm hj)] at e
    rw [List.getElem?_set_ne (Ne.symm hj)]
    exact h.at_ j k' d' e
/-- the list of slot i is written: the parts stay its own -/
theorem Sr.put (h : Sr K Z H0 H c ρ σ) {i : Nat} {p : Addr} {vs vs' : List V} {ds' : List D} {k : Kd} (hσ : σ[i]? = some (some (.ref p))) (hi : i < ρ.length) (hc : c p = some [i]) (hp : H p = some (.lst vs)) (hl : vs'.length = ds'.length)
    (r : ∀ (j : Nat) v d, vs'[j]? = some v → ds'[j]? = some d → Rk K H Z c k [j, i] v d) : Sr K Z H0 (upd H p (.lst vs')) c (ρ.set i (some (.ls k, .lst ds'))) σ := by
  have stay : ∀ a o, H a = some o → a ≠ p → upd H p (.lst vs') a = some o := fun a o e hne => by rw [upd_ne hne]; exact e
  have nm : ∀ a o, H a = some o → ¬ Mut (some o) → a ≠ p := fun a o e hm z => by subst z; rw [hp] at e; cases e; exact hm trivial
  refine ⟨by simpa using h.len, fun j k' d' e => ?_, fun a o e => stay a o (h.keep a o e) ?_, fun a q => ⟨(h.new a q).1, ?_⟩, h.fsh⟩
  · by_cases hj : j = i
    · subst hj
      rw [List.getElem?_set_self hi] at e
      cases e
      refine ⟨_, hσ, p, vs', ds', rfl, rfl, hc, upd_same, hl, fun n v d e1 e2 => (r n v d e1 e2).mv (fun a o q z => stay a o q ?_) (fun _ z => z) (fun _ _ z => z)⟩
      rcases z with z | ⟨s, z⟩ | z
      · rintro rfl; rw [hc] at z; exact nomatch z.2
      · rintro rfl
        rw [hc] at z
        have := congrArg List.length (Option.some.inj z)
        simp at this
      · exact nm a o q z
    · rw [List.getElem?_set_ne (Ne.symm hj)] at e
      obtain ⟨v, e1, r1⟩ := h.at_ j k' d' e
      refine ⟨v, e1, r1.mv (fun a o q z => stay a o q ?_) (fun _ z => z) (fun _ _ z => z)⟩
      rcases z with z | ⟨s, z⟩ | z
      · rintro rfl; rw [hc] at z; exact nomatch z.2
      · rintro rfl
        exact hj (Rt.inj (c := c) (a := a) ⟨s, z⟩ ⟨[], hc⟩)
      · exact nm a o q z
  · rintro rfl
    have := (h.new a (by rw [hc]; exact fun z => nomatch z)).1
    rw [this] at e; cases e
  · by_cases hap : a = p
    · subst hap; exact mut_lst upd_same
    · rw [upd_ne hap]; exact (h.new a q).2
/-- what slot i's own root is, is written anew -/
theorem Sr.putH (h : Sr K Z H0 H c ρ σ) {i : Nat} {p : Addr} {o : HO} {d' : D} {k : Kd} (hσ : σ[i]? = some (some (.ref p))) (hi : i < ρ.length) (hc : c p = some [i]) (hp : Mut (H p)) (mo : Mut (some o))
    (r : Rk K (upd H p o) Z c k [i] (.ref p) d') : Sr K Z H0 (upd H p o) c (ρ.set i (some (k, d'))) σ := by
  have stay : ∀ a u, H a = some u → a ≠ p → upd H p o a = some u := fun a u e hne => by rw [upd_ne hne]; exact e
  have nm : ∀ a u, H a = some u → ¬ Mut (some u) → a ≠ p := fun a u e hm z => by subst z; rw [e] at hp; exact hm hp
  refine ⟨by simpa using h.len, fun j k' d' e => ?_, fun a u e => stay a u (h.keep a u e) ?_, fun a q => ⟨(h.new a q).1, ?_⟩, h.fsh⟩
  · by_cases hj : j = i
    · subst hj
      rw [List.getElem?_set_self hi] at e
      cases e
      exact ⟨_, hσ, r⟩
    · rw [List.getElem?_set_ne (Ne.symm hj)] at e
      obtain ⟨v, e1, r1⟩ := h.at_ j k' d' e
      refine ⟨v, e1, r1.mv (fun a u q z => stay a u q ?_) (fun _ z => z) (fun _ _ z => z)⟩
      rcases z with z | ⟨s, z⟩ | z
      · rintro rfl; rw [hc] at z; exact nomatch z.2
      · rintro rfl
        exact hj (Rt.inj (c := c) (a := a) ⟨s, z⟩ ⟨[], hc⟩)
      · exact nm a u q z
  · rintro rfl
    have := (h.new a (by rw [hc]; exact fun z => nomatch z)).1
    rw [this] at e; cases e
  · by_cases hap : a = p
    · subst hap; rw [upd_same]; exact mo
    · rw [upd_ne hap]; exact (h.new a q).2
/-- .. the parts are given up -/
theorem Sr.putS (h : Sr K Z H0 H c ρ σ) {i : Nat} {p : Addr} {vs vs' : List V} {ds' : List D} (hσ : σ[i]? = some (some (.ref p))) (hi : i < ρ.length) (hc : c p = some [i]) (hp : H p = some (.lst vs)) (hl : vs'.length = ds'.length)
    (r : ∀ (j : Nat) v d, vs'[j]? = some v → ds'[j]? = some d → ∃ k n, Rk K H Z c k [n, i] v d) : ∃ c' : Co, Sr K Z H0 (upd H p (.lst vs')) c' (ρ.set i (some (.ls .sh, .lst ds'))) σ := by
  have dec : ∀ a, ∃ q : Option (List Nat), ((Rt c i a ∧ c a ≠ some [i]) → q = none) ∧ (¬ (Rt c i a ∧ c a ≠ some [i]) → q = c a) := fun a => by
    by_cases z : Rt c i a ∧ c a ≠ some [i]
    · exact ⟨none, fun _ => rfl, fun w => absurd z w⟩
    · exact ⟨c a, fun w => absurd w z, fun _ => rfl⟩
  let c' : Co := fun a => (dec a).choose
  have c1 : ∀ a, Rt c i a → c a ≠ some [i] → c' a = none := fun a z1 z2 => (dec a).choose_spec.1 ⟨z1, z2⟩
  have c2 : ∀ a, (Rt c i a → c a = some [i]) → c' a = c a := fun a z => (dec a).choose_spec.2 fun w => w.2 (z w.1)
  have h' : Sr K Z H0 H c' (ρ.set i none) σ := by
    refine ⟨by simpa using h.len, fun j k d e => ?_, h.keep, fun a q => ?_, h.fsh⟩
    · by_cases hj : j = i
      · subst hj
        rw [List.getElem?_set_self hi] at e
        cases e
      · rw [List.getElem?_set_ne (Ne.symm hj)] at e
        obtain ⟨v, e1, r1⟩ := h.at_ j k d e
        refine ⟨v, e1, r1.mv (fun a o q _ => q) (fun a z => ⟨z.1, ?_⟩) (fun a s z => ?_)⟩
        · rw [c2 a fun w => absurd z.2 w.ne]; exact z.2
        · rw [c2 a fun w => absurd (Rt.inj (c := c) (a := a) ⟨s, z⟩ w) hj]; exact z
    · refine h.new a fun z => q ?_
      rw [c2 a fun w => absurd z w.ne]; exact z
  have hc' : c' p = some [i] := by rw [c2 p fun _ => hc]; exact hc
  refine ⟨c', ?_⟩
  have q := h'.put (i := i) (k := .sh) (vs' := vs') (ds' := ds') hσ (by simpa using hi) hc' hp hl fun j v d e1 e2 => by
    obtain ⟨k, n, rk⟩ := r j v d e1 e2
    refine Rk.drop rk (fun a o q _ => q) (fun a z => ⟨z.1, ?_⟩) (fun a s z => ⟨h.fsh a (h.new a (by rw [z]; exact fun z => nomatch z)).1, ?_⟩)
    · rw [c2 a fun w => absurd z.2 w.ne]; exact z.2
    · refine c1 a ⟨s ++ [n], by simpa using z⟩ fun w => ?_
      rw [z] at w
      have := congrArg List.length (Option.some.inj w)
      simp at this
  rw [List.set_set] at q
  exact q
end
/-! ### statements -/
section
variable {X : Cx} {S : Sg} {Wx : WX} {N : List Str} {sc : Scope}
structure Cp (X : Cx) (Wx : WX) (Z : Addr → Prop) (H0 : Hp) (D : Ends) (Dd : Ed) : Prop where
  nx : ∀ ρ σ H c, Dd.nx ρ → Sr X.K Z H0 H c ρ σ → D.nx σ H
  rt : ∀ k d v H (c : Co), Dd.rt k d → Same H0 H → (∀ a, c a ≠ none → H0 a = none ∧ Mut (H a)) → Rk X.K H Z c k [0] v d → D.rt v H
  ex : ∀ x ρ σ H c cls dd, Dd.ex x ρ → Sr X.K Z H0 H c ρ σ → ExcR X.K X.mg H cls dd x → Wx cls dd σ H
  bk : ∀ ρ σ H c, Dd.bk ρ → Sr X.K Z H0 H c ρ σ → D.bk σ H
  ct : ∀ ρ σ H c, Dd.ct ρ → Sr X.K Z H0 H c ρ σ → D.ct σ H
def VS (X : Cx) (S : Sg) (Wx : WX) (st : Sm) : TS := fun D σ H => ∃ (Z : Addr → Prop) (H0 : Hp) (c : Co) (ρ : Env) (Dd : Ed), Sr X.K Z H0 H c ρ σ ∧ Cp X Wx Z H0 D Dd ∧ wpS S st Dd ρ
def VSs (X : Cx) (S : Sg) (Wx : WX) (ss : List Sm) : TS := fun D σ H => ∃ (Z : Addr → Prop) (H0 : Hp) (c : Co) (ρ : Env) (Dd : Ed), Sr X.K Z H0 H c ρ σ ∧ Cp X Wx Z H0 D Dd ∧ wpB' S ss Dd ρ
theorem PS.imp {st : Stmt} {t t' : TS} (h : PS X st t) (i : ∀ D σ H, t' D σ H → t D σ H) : PS X st t' := ⟨fun pins s σ H D I q => h.run pins s σ H D I (i D σ H q)⟩
theorem PSs.imp {st : List Stmt} {t t' : TS} (h : PSs X st t) (i : ∀ D σ H, t' D σ H → t D σ H) : PSs X st t' := ⟨fun pins s σ H D I q => h.run pins s σ H D I (i D σ H q)⟩
theorem Cp.xw {Z : Addr → Prop} {H0 H : Hp} {D : Ends} {Dd : Ed} {ρ : Env} {σ : L2.St} {c : Co} (cp : Cp X Wx Z H0 D Dd) (sr : Sr X.K Z H0 H c ρ σ) : XW X Wx (fun x => Dd.ex x ρ) σ H := fun x w cls dd H' s r => cp.ex x ρ σ H' c cls dd w (sr.ex s) r
theorem vss_nil : PSs X [] (VSs X S Wx []) := by
  refine PSs.imp pss_nil ?_
  rintro D σ H ⟨Z, H0, c, ρ, Dd, sr, cp, w⟩
  unfold wpB' at w
  exact cp.nx ρ σ H c w sr
theorem vss_cons {s : Sm} {ss : List Sm} {st : Stmt} {sts : List Stmt} (h1 : PS X st (VS X S Wx s)) (h2 : PSs X sts (VSs X S Wx ss)) : PSs X (st :: sts) (VSs X S Wx (s :: ss)) := by
  refine PSs.imp (pss_cons h1 h2) ?_
  rintro D σ H ⟨Z, H0, c, ρ, Dd, sr, cp, w⟩
  unfold wpB' at w
  have cp' : Cp X Wx Z H0 { D with nx := VSs X S Wx ss D } { Dd with nx := fun ρ => wpB' S ss Dd ρ } := ⟨fun ρ' σ' H' c' w' sr' => ⟨Z, H0, c', ρ', Dd, sr', cp, w'⟩, cp.rt, cp.ex, cp.bk, cp.ct⟩
  exact ⟨Z, H0, c, ρ, _, sr, cp', w⟩
theorem vs_asgR {i : Nat} {o : OE} : ∀ D σ H, VS X S Wx (.asg i o) D σ H → VO X S Wx o σ H fun x H1 => gName i x σ H1 D.nx := by
  rintro D σ H ⟨Z, H0, c, ρ, Dd, sr, cp, w⟩
  unfold wpS at w
  refine ⟨Z, H0, H, c, ρ, _, sr, Same.refl H, cp.xw sr, wpO.mono (fun k d f m ⟨dj, q⟩ v H' s ro => ?_) w⟩
  obtain ⟨c', sr', rk, _, _⟩ := sr.settle s dj ro [i]
  exact cp.nx _ _ H' c' q (sr'.setK rk)
theorem vs_ret {o : OE} {e : Expr} {pos : Pos} (h : PE X e (VO X S Wx o)) : PS X (.Return (some e) pos) (VS X S Wx (.ret o)) := by
  refine PS.imp (ps_ret h) ?_
  rintro D σ H ⟨Z, H0, c, ρ, Dd, sr, cp, w⟩
  unfold wpS at w
  refine ⟨Z, H0, H, c, ρ, _, sr, Same.refl H, cp.xw sr, wpO.mono (fun k d f m ⟨dj, q⟩ v H' s ro => ?_) w⟩
  obtain ⟨c', sr', rk, _, _⟩ := sr.settle s dj ro [0]
  exact cp.rt k d v H' c' q sr'.keep sr'.new rk
theorem vs_retN {pos : Pos} : PS X (.Return none pos) (VS X S Wx .retN) := by
  refine PS.imp ps_retN ?_
  rintro D σ H ⟨Z, H0, c, ρ, Dd, sr, cp, w⟩
  unfold wpS at w
  exact cp.rt .sh .non .non H (fun _ => none) w sr.keep (fun a q => absurd rfl q) (show Rp _ _ _ _ _ from .non)
theorem vs_expr {x : E} {e : Expr} {pos : Pos} (h : PE X e (VE X S Wx x)) (hs : swapsWith e none pos.line X.env = pure false) : PS X (.Expr e pos) (VS X S Wx (.expr x)) := by
  refine PS.imp (ps_expr h hs) ?_
  rintro D σ H ⟨Z, H0, c, ρ, Dd, sr, cp, w⟩
  unfold wpS at w
  exact ⟨Pc Z c, ρ, _, sr.sv, cp.xw sr, wpE.mono (fun d hd v H' s r _ => cp.nx ρ σ H' c hd (sr.ex s)) w⟩
theorem vs_ife {c : E} {a b : List Sm} {e : Expr} {xs ys : List Stmt} {pos : Pos} (hc : PT X e (VT X S Wx c)) (ha : PSs X xs (VSs X S Wx a)) (hb : PSs X ys (VSs X S Wx b)) : PS X (.If e xs ys pos) (VS X S Wx (.ife c a b)) := by
  refine PS.imp (ps_if hc ha hb) ?_
  rintro D σ H ⟨Z, H0, col, ρ, Dd, sr, cp, w⟩
  unfold wpS at w
  refine ⟨Pc Z col, ρ, _, sr.sv, cp.xw sr, wpE.mono (fun d hd => ?_) w⟩
  obtain ⟨k, rfl, q⟩ := bW.of hd
  refine ⟨k, rfl, fun H' s => ?_⟩
  cases k with
  | true => exact ⟨Z, H0, col, ρ, Dd, sr.ex s, cp, q⟩
  | false => exact ⟨Z, H0, col, ρ, Dd, sr.ex s, cp, q⟩
theorem vs_pass {pos : Pos} : PS X (.Pass pos) (VS X S Wx .pass) := by
  refine PS.imp ps_pass ?_
  rintro D σ H ⟨Z, H0, c, ρ, Dd, sr, cp, w⟩
  unfold wpS at w
  exact cp.nx ρ σ H c w sr
theorem vs_brk {pos : Pos} : PS X (.Break pos) (VS X S Wx .brk) := by
  refine PS.imp ps_break ?_
  rintro D σ H ⟨Z, H0, c, ρ, Dd, sr, cp, w⟩
  unfold wpS at w
  exact cp.bk ρ σ H c w sr
theorem vs_cont {pos : Pos} : PS X (.Continue pos) (VS X S Wx .cont) := by
  refine PS.imp ps_continue ?_
  rintro D σ H ⟨Z, H0, c, ρ, Dd, sr, cp, w⟩
  unfold wpS at w
  exact cp.ct ρ σ H c w sr
theorem vs_raise {f m : Str} {p p2 p3 pos : Pos} {j : Nat} (hc : X.calm = true) (tk : Takes X Wx) (ef : ExF X f) (hg : Gl X f) (hdb : (f == ("__debug__" : Str)) = false) : PS X (.Raise (some (.Call (.Name f p) [.Constant (.str m) j p2] [] p3)) none pos) (VS X S Wx (.raise f m)) := by
  obtain ⟨C, gC, xC, kC, bC, tC⟩ := ef.ex
  refine PS.imp (ps_raise hc tk (pmk_own PySem.F.excBase_ValueError xC gC kC (raises_own bC tC) hg hdb)) ?_
  rintro D σ H ⟨Z, H0, c, ρ, Dd, sr, cp, w⟩
  unfold wpS at w
  exact cp.ex _ ρ σ H c _ _ w.2 sr ⟨C, gC, rfl, rfl⟩
theorem fz_sr {K : Fr} {Z : Addr → Prop} {H0 H : Hp} {c : Co} {ρ : Env} {σ : L2.St} (h : Sr K Z H0 H c ρ σ) (f : List Nat) : ∃ c' : Co, Sr K Z H0 H c' (fzE f ρ) σ ∧ ∀ a, H a ≠ none → (c a = none ∨ ∃ i ∈ f, Rt c i a) → c' a = none := by
  obtain ⟨c', s', _, _, q⟩ := h.settle (f := f) (m := []) (k := .sh) (v := .non) (d := .non) (Same.refl H) (by unfold disj; simp) ⟨fun _ => none, fun a q => absurd rfl q, show Rp _ _ _ _ _ from .non⟩ [0]
  rw [mvE_nil] at s'
  exact ⟨c', s', q⟩
/-! the slots bound by a for, a tuple's parts -/
mutual
theorem bind_sr {K : Fr} {Z Zd : Addr → Prop} {H0 H : Hp} {c : Co} (hz : ∀ a, Zd a → Z a ∧ c a = none) : ∀ {t : Tg} {d : D} {x : V} {ρ : Env} {σ : L2.St} {Q : Env → Prop} {R : L2.St → Hp → Prop}, Sr K Z H0 H c ρ σ → Rp K H Zd x d → bindT t d ρ Q →
    (∀ ρ' σ', Q ρ' → Sr K Z H0 H c ρ' σ' → R σ' H) → gOf K t x σ H R
  | .nm i, d, x, ρ, σ, Q, R, sr, r, b, k => by
    unfold bindT at b
    unfold gOf gName
    exact k _ _ b (sr.setK (show Rp _ _ _ _ _ from r.z hz))
  | .tp ts, d, x, ρ, σ, Q, R, sr, r, b, k => by
    cases d with
    | tup ds =>
      have b2 : bindTs ts ds ρ Q := b
      obtain ⟨a, vs, rfl, ha, ra⟩ := r.tupE
      unfold gOf
      exact ⟨a, vs, rfl, ha, by rw [ra.1]; exact bindTs_len b2, binds_sr hz sr ra b2 k⟩
    | _ => exact (show False from b).elim
theorem binds_sr {K : Fr} {Z Zd : Addr → Prop} {H0 H : Hp} {c : Co} (hz : ∀ a, Zd a → Z a ∧ c a = none) : ∀ {ts : List Tg} {ds : List D} {xs : List V} {ρ : Env} {σ : L2.St} {Q : Env → Prop} {R : L2.St → Hp → Prop}, Sr K Z H0 H c ρ σ → Rps K H Zd xs ds → bindTs ts ds ρ Q →
    (∀ ρ' σ', Q ρ' → Sr K Z H0 H c ρ' σ' → R σ' H) → gsOf K ts xs σ H R
  | [], [], xs, ρ, σ, Q, R, sv, r, b, k => by
    have e : xs = [] := List.length_eq_zero_iff.mp r.1
    subst e
    unfold gsOf gNil
    exact ⟨rfl, k ρ σ b sv⟩
  | [], _ :: _, xs, ρ, σ, Q, R, sv, r, b, k => (show False from b).elim
  | t :: ts, [], xs, ρ, σ, Q, R, sv, r, b, k => (show False from b).elim
  | t :: ts, d :: ds, [], ρ, σ, Q, R, sv, r, b, k => absurd r.1 (by simp)
  | t :: ts, d :: ds, x :: xs, ρ, σ, Q, R, sv, r, b, k => by
    unfold gsOf gCons
    have r0 := r.2 0 x d rfl rfl
    have rt : Rps K H Zd xs ds := ⟨by simpa using r.1, fun j v' d' e1 e2 => r.2 (j + 1) v' d' (by simpa using e1) (by simpa using e2)⟩
    refine ⟨x, xs, rfl, bind_sr hz (Q := fun ρ' => bindTs ts ds ρ' Q) sv r0 b fun ρ1 σ1 b1 sv1 => ?_⟩
    exact binds_sr hz sv1 rt b1 k
end
theorem zal_pc0 {K : Fr} {Z : Addr → Prop} {H0 H : Hp} {c : Co} {ρ : Env} {σ : L2.St} (h : Sr K Z H0 H c ρ σ) {as : List Nat} {a : Addr} (z : Zal (Pc Z c) as H a) : Z a ∧ (c a = none ∨ ∃ i ∈ as, Rt c i a) := by
  rcases z with ⟨i, hi, z⟩ | z
  · rcases z with z | ⟨s, z⟩
    · exact ⟨z.1, .inl z.2⟩
    · exact ⟨h.fsh a (h.new a (by rw [z]; exact fun z => nomatch z)).1, .inr ⟨i, hi, s, z⟩⟩
  · refine ⟨h.fsh a (h.keep.free z), .inl ?_⟩
    cases q : c a with
    | none => rfl
    | some p => exact absurd z (mut_ne (h.new a (by rw [q]; exact fun z => nomatch z)).2)
theorem Sr.down {K : Fr} {Z : Addr → Prop} {H0 H0' H : Hp} {c : Co} {ρ : Env} {σ : L2.St} (h : Sr K Z H0' H c ρ σ) (s : Same H0 H0') (f : Fsh H0 Z) : Sr K Z H0 H c ρ σ := ⟨h.len, h.at_, s.trans h.keep, fun a q => ⟨s.free (h.new a q).1, (h.new a q).2⟩, f⟩
theorem Cp.up {Z : Addr → Prop} {H0 H0' : Hp} {D : Ends} {Dd : Ed} (h : Cp X Wx Z H0 D Dd) (s : Same H0 H0') (f : Fsh H0 Z) : Cp X Wx Z H0' D Dd :=
  ⟨fun ρ σ H c w sr => h.nx ρ σ H c w (sr.down s f), fun k d v H c w s' n r => h.rt k d v H c w (s.trans s') (fun a q => ⟨s.free (n a q).1, (n a q).2⟩) r, fun x ρ σ H c cls dd w sr r => h.ex x ρ σ H c cls dd w (sr.down s f) r,
    fun ρ σ H c w sr => h.bk ρ σ H c w (sr.down s f), fun ρ σ H c w sr => h.ct ρ σ H c w (sr.down s f)⟩
theorem Cp.loop {Z : Addr → Prop} {H0 : Hp} {D : Ends} {Dd : Ed} (h : Cp X Wx Z H0 D Dd) {N : L2.St → Hp → Prop} {M : Env → Prop} (k : ∀ ρ σ H c, M ρ → Sr X.K Z H0 H c ρ σ → N σ H) : Cp X Wx Z H0 { D with nx := N, ct := N, bk := D.nx } { Dd with nx := M, ct := M, bk := Dd.nx } :=
  ⟨k, h.rt, h.ex, h.nx, k⟩
/-- the heap without what is one's own -/
def less (H : Hp) (c : Co) : Hp := fun a => match c a with
  | none => H a
  | some _ => none
theorem less_n {H : Hp} {c : Co} {a : Addr} (h : c a = none) : less H c a = H a := by unfold less; rw [h]
theorem less_s {H : Hp} {c : Co} {a : Addr} (h : c a ≠ none) : less H c a = none := by
  unfold less
  cases q : c a with
  | none => exact absurd q h
  | some _ => rfl
theorem Sr.rebase {K : Fr} {Z : Addr → Prop} {H0 H : Hp} {c : Co} {ρ : Env} {σ : L2.St} (h : Sr K Z H0 H c ρ σ) : Sr K Z (less H c) H c ρ σ ∧ Same H0 (less H c) := by
  refine ⟨⟨h.len, h.at_, fun a o e => ?_, fun a q => ⟨less_s q, (h.new a q).2⟩, fun a q => ?_⟩, fun a o e => ?_⟩
  · by_cases z : c a = none
    · rw [less_n z] at e; exact e
    · rw [less_s z] at e; cases e
  · by_cases z : c a = none
    · rw [less_n z] at q; exact h.fsh a (h.keep.free q)
    · exact h.fsh a (h.new a z).1
  · have z : c a = none := by
      cases q : c a with
      | none => rfl
      | some _ =>
        have := (h.new a (by rw [q]; exact fun z => nomatch z)).1
        rw [this] at e; cases e
    rw [less_n z]; exact h.keep a o e
theorem vs_for {tg : Tg} {ik : Ik} {ies : List E} {b : List Sm} {tgE iter : Expr} {body : List Stmt} {pos : Pos} (po : PassesOwn (model X.prog X.w) X.A X.env X.xe) (hc : X.calm = true) (hi : PI X tgE iter (VI X S Wx ik ies)) (hg : PG X tgE (gOf X.K tg)) (hb : PSs X body (VSs X S Wx b))
    (hs : ∀ x, foldedSetIterable iter X.env x = pure x) : PS X (.For tgE iter body [] pos) (VS X S Wx (.for_ tg ik ies b)) := by
  refine PS.imp (ps_for po hc hi hg hb hs) ?_
  rintro D σ H ⟨Z, H0, c, ρ, Dd, sr, cp, w⟩
  unfold wpS at w
  refine ⟨Pc Z c, ρ, _, sr.sv, cp.xw sr, wpEs.mono (fun ds hx => itW.mono (fun items hf J H1 G s1 it g => ?_) hx) w⟩
  have sr1 := sr.ex s1
  obtain ⟨c1, sr2, hZ⟩ : ∃ c1 : Co, Sr X.K Z H0 H1 c1 (if ik = .rng then ρ else fzE (alss ies) ρ) σ ∧ ∀ a, (ik ≠ .rng ∧ Zal (Pc Z c) (alss ies) H a ∧ H1 a ≠ none) → Z a ∧ c1 a = none ∧ H1 a ≠ none := by
    by_cases hk : ik = .rng
    · rw [if_pos hk]
      exact ⟨c, sr1, fun a z => absurd hk z.1⟩
    · rw [if_neg hk]
      obtain ⟨c1, q1, q2⟩ := fz_sr sr1 (alss ies)
      refine ⟨c1, q1, fun a z => ?_⟩
      obtain ⟨z1, z2⟩ := zal_pc0 sr z.2.1
      exact ⟨z1, q2 a z.2.2 z2, z.2.2⟩
  obtain ⟨sr3, s03⟩ := sr2.rebase
  have cp3 := cp.up s03 sr.fsh
  have keepG : ∀ H', Same (less H1 c1) H' → G H' := fun H' s => it.st H1 H' g fun a o e z => s a o (by
    have : c1 a = none := by
      rcases z with z | z
      · exact (hZ a z).2.1
      · cases q : c1 a with
        | none => rfl
        | some _ =>
          have := (sr2.new a (by rw [q]; exact fun z => nomatch z)).2
          rw [e] at this
          exact absurd this z
    rw [less_n this]; exact e)
  refine for_it it.w (Pv := fun i σ' H' => ∃ c' ρ', Sr X.K Z (less H1 c1) H' c' ρ' σ' ∧ forW (fun D' ρ' => wpB' S b D' ρ') tg (items.drop i) Dd ρ') ⟨c1, _, sr3, hf⟩ (fun i σ' H' _ h => keepG H' h.choose_spec.choose_spec.1.keep) ?_ ?_
  · rintro i x σ' H2 H3 hlt ⟨c', ρ', sr', w'⟩ ⟨s3, d, ed, rd⟩
    rw [List.drop_eq_getElem_cons hlt] at w'
    have ed2 : items[i] = d := by
      rw [List.getElem?_eq_getElem hlt] at ed
      exact Option.some.inj ed
    rw [ed2] at w'
    unfold forW at w'
    have sr'' := sr'.ex s3
    refine bind_sr (Zd := fun a => ik ≠ .rng ∧ Zal (Pc Z c) (alss ies) H a ∧ H1 a ≠ none) (fun a z => ?_) sr'' rd w' fun ρ2 σ2 w2 sr2 => ?_
    · obtain ⟨z1, z2, z3⟩ := hZ a z
      refine ⟨z1, ?_⟩
      cases q : c' a with
      | none => rfl
      | some _ =>
        have := (sr''.new a (by rw [q]; exact fun z => nomatch z)).1
        rw [less_n z2] at this
        exact absurd this z3
    · exact ⟨Z, less H1 c1, c', ρ2, _, sr2, cp3.loop (M := fun ρ => forW (fun D' ρ' => wpB' S b D' ρ') tg (items.drop (i + 1)) Dd ρ) fun ρ σ H c w sr => ⟨c, ρ, sr, w⟩, w2⟩
  · rintro σ' H' ⟨c', ρ', sr', w'⟩
    rw [List.drop_eq_nil_of_le (Nat.le_refl _)] at w'
    unfold forW at w'
    exact cp3.nx ρ' σ' H' c' w' sr'
theorem vs_whl {c : E} {b : List Sm} {e : Expr} {body : List Stmt} {pos : Pos} (po : PassesOwn (model X.prog X.w) X.A X.env X.xe) (hc : PT X e (VT X S Wx c)) (hb : PSs X body (VSs X S Wx b)) : PS X (.While e body [] pos) (VS X S Wx (.whl c b)) := by
  refine PS.imp (ps_while po hc hb) ?_
  rintro D σ H ⟨Z, H0, col, ρ, Dd, sr, cp, w⟩
  unfold wpS at w
  obtain ⟨n, w⟩ := w
  refine ⟨fun m σ H => ∃ c' ρ', Sr X.K Z H0 H c' ρ' σ ∧ whW (fun ρ Q => wpE S (fun x => Dd.ex x ρ) c ρ fun d => bW d Q) (fun D' ρ' => wpB' S b D' ρ') m Dd ρ', ⟨n, col, ρ, sr, w⟩, ?_⟩
  rintro m σ H ⟨c', ρ', sr', w'⟩
  cases m with
  | zero => exact (show False from w').elim
  | succ m =>
    unfold whW at w'
    refine ⟨Pc Z c', ρ', _, sr'.sv, cp.xw sr', wpE.mono (fun d hd => ?_) w'⟩
    obtain ⟨k, rfl, q⟩ := bW.of hd
    refine ⟨k, rfl, fun H' s => ?_⟩
    cases k with
    | true =>
      rw [if_pos rfl] at q
      rw [if_pos rfl]
      refine ⟨_, fun σ' H' h => ⟨m, Nat.lt_succ_self m, h⟩, ?_⟩
      exact ⟨Z, H0, c', ρ', _, sr'.ex s, cp.loop (M := fun ρ' => whW (fun ρ Q => wpE S (fun x => Dd.ex x ρ) c ρ fun d => bW d Q) (fun D' ρ' => wpB' S b D' ρ') m Dd ρ') fun ρ σ H c w sr => ⟨c, ρ, sr, w⟩, q⟩
    | false =>
      rw [if_neg (by decide)] at q
      rw [if_neg (by decide)]
      exact cp.nx ρ' σ H' c' q (sr'.ex s)
/-! ### try -/
theorem Sr.drop1 {K : Fr} {Z : Addr → Prop} {H0 H : Hp} {c : Co} {ρ : Env} {σ : L2.St} (h : Sr K Z H0 H c ρ σ) (i : Nat) : Sr K Z H0 H c (ρ.set i none) (σ.set i none) := by
  refine ⟨by simpa using h.len, fun j k d e => ?_, h.keep, h.new, h.fsh⟩
  by_cases hj : j = i
  · subst hj
    have hl : j < ρ.length := by
      have := (List.getElem?_eq_some_iff.mp e).1
      simpa using this
    rw [List.getElem?_set_self hl] at e
    cases e
  · rw [List.getElem?_set_ne (Ne.symm hj)] at e
    rw [List.getElem?_set_ne (Ne.symm hj)]
    exact h.at_ j k d e
theorem exW.un {X : Cx} {Wx : WX} {S : Sg} {C : Str} {x : Exc} {no : Prop} {yes : Addr → Addr → Option (Str × Int) → Option Addr → Prop} (hcls : ∀ x y b, S.sub x y = some b → ClsF X x y b) {cr : Addr} (hC : X.mg C = some (.ref cr)) {H : Hp} {cls : Value} {dd : Option Addr} (r : ExcR X.K X.mg H cls dd x) (h : exW S C x no yes) :
    ∃ b, PySem.W.exmOne X.K cls (.ref cr) = some b ∧ (b = true → ∀ a, ∃ Cx, X.mg x.name = some (.ref Cx) ∧ cls = .ref Cx ∧ ∃ dx pay, (∀ f n, pay = some (f, n) → H dx = some (.xd [(f, .int n)])) ∧ yes a dx pay dd) ∧ (b = false → no) := by
  obtain ⟨Cx, hm, rfl, hp⟩ := r
  unfold exW at h
  have key : ∀ b, S.sub x.name C = some b → PySem.W.exmOne X.K (.ref Cx) (.ref cr) = some b := fun b e => by
    obtain ⟨C2, h2, _, cv, _, h3⟩ := hcls _ _ _ e
    rw [hm] at h2
    cases h2
    rcases h3 with ⟨h3, _, h4⟩ | ⟨h3, _⟩
    · rw [hC] at h3
      cases h3
      exact h4
    · rw [hC] at h3; cases h3
  split at h
  · rename_i e
    refine ⟨true, key _ e, fun _ a => ⟨Cx, hm, rfl, ?_⟩, fun z => nomatch z⟩
    cases hpay : x.pay with
    | none =>
      rw [hpay] at hp
      obtain rfl : dd = none := hp
      have := h a 0
      rw [hpay] at this
      exact ⟨0, none, (fun f n z => nomatch z), this⟩
    | some q =>
      obtain ⟨f, d⟩ := q
      rw [hpay] at hp
      obtain ⟨dx, v, rfl, hx, rv⟩ := hp
      have := h a dx
      rw [hpay] at this
      cases d with
      | int n =>
        cases rv
        exact ⟨dx, some (f, n), fun f' n' z => by cases z; exact hx, this⟩
      | _ => exact this.elim
  · rename_i e
    exact ⟨false, key _ e, (fun z => nomatch z), fun _ => h⟩
  · exact h.elim
theorem VSs.tr {b : List Sm} {pn : List (Addr × Obj)} {xe : Value → Shared → Prop} {W : WX} : ∀ D σ H, VSs X S W b D σ H → VSs (X.tr pn xe) S W b D σ H := fun D σ H ⟨Z, H0, c, ρ, Dd, sr, cp, w⟩ => ⟨Z, H0, c, ρ, Dd, sr, ⟨cp.nx, cp.rt, cp.ex, cp.bk, cp.ct⟩, w⟩
theorem VSs.su {b : List Sm} {a : Addr} {pn : List (Addr × Obj)} {W : WX} : ∀ D σ H, VSs X S W b D σ H → VSs (X.suite a pn) S W b D σ H := fun D σ H ⟨Z, H0, c, ρ, Dd, sr, cp, w⟩ => ⟨Z, H0, c, ρ, Dd, sr, ⟨cp.nx, cp.rt, cp.ex, cp.bk, cp.ct⟩, w⟩
theorem vs_try1 {b h : List Sm} {C : Str} {i : Nat} {n : Str} {cr : Addr} {body suite : List Stmt} {b₀ : Stmt} {np pos pos' : Pos} (hs : X.stack = X.env :: X.outer) (hf : X.env.frame = some X.env.locals) (hN : X.N.Nodup) (hi : X.N[i]? = some n) (hln : X.env.kindOf n = some .local) (hC : Gl X C ∧ (C == ("__debug__" : Str)) = false) (hmC : X.mg C = some (.ref cr)) (tk : Takes X Wx)
    (hcls : ∀ x y b, S.sub x y = some b → ClsF X x y b)
    (hb : ∀ (W : WX) (pn : List (Addr × Obj)) (xe : Value → Shared → Prop), Takes (X.tr pn xe) W → PassesOwn (model X.prog X.w) X.A X.env xe → PSs (X.tr pn xe) body (VSs (X.tr pn xe) S W b))
    (hh : ∀ (a : Addr) (oe : Obj) (d : Option Addr) (pn : List (Addr × Obj)) (nm : Str) (Ca : Addr), X.mg nm = some (.ref Ca) → Zc (.ref Ca) d oe → (∃ vs, oe.data = .fields vs) → PSs (X.suite a ((a, oe) :: pn)) (b₀ :: suite) (VSs (X.suite a ((a, oe) :: pn)) (hotS S a nm d) W0 h)) :
    PS X (.Try body [.ExceptHandler (some (.Name C np)) (some n) (b₀ :: suite) pos'] [] [] pos) (VS X S Wx (.try1 b C i h)) := by
  refine PS.imp (ps_try_as (tb := fun W => VSs X S W b) (ts := fun a cls d D σ H => ∃ nm Ca, X.mg nm = some (.ref Ca) ∧ cls = .ref Ca ∧ VSs X (hotS S a nm d) W0 h D σ H) hs hf hN hi hln ⟨hC.1, hC.2, .inl hmC⟩ tk (fun W pn xe t po => PSs.imp (hb W pn xe t po) VSs.tr) (fun a oe cls d pn hz hv => ⟨fun pins s σ H D I q => ?_⟩)) ?_
  · obtain ⟨nm, Ca, h1, rfl, q⟩ := q
    exact (hh a oe d pn nm Ca h1 hz hv).run pins s σ H D I (VSs.su _ _ _ q)
  · rintro D σ H ⟨Z, H0, c, ρ, Dd, sr, cp, w⟩
    unfold wpS at w
    refine ⟨Z, H0, c, ρ, { Dd with ex := fun x ρ' => exW S C x (Dd.ex x ρ') fun a dx pay dd => wpB' (hotS S a x.name dd) h { nx := fun r => Dd.nx (r.set i none), rt := Dd.rt, ex := fun _ _ => False, bk := fun r => Dd.bk (r.set i none), ct := fun r => Dd.ct (r.set i none) } (ρ'.set i (some (.sh, .exo a dx pay))) }, sr, ⟨cp.nx, cp.rt, fun x ρ' σ' H' c' cls dd w' sr' r' => ?_, cp.bk, cp.ct⟩, w.2⟩
    dsimp only at w'
    obtain ⟨bb, e, hy, hn⟩ := exW.un (X := X) (Wx := Wx) hcls hmC r' w'
    refine ⟨bb, e, fun hb a na => ?_, fun hb => cp.ex x ρ' σ' H' c' cls dd (hn hb) sr' r'⟩
    obtain ⟨Cx, hm, ec, dx, pay, hp, y⟩ := hy hb a
    refine ⟨x.name, Cx, hm, ec, Z, H0, c', _, _, sr'.setK (k := .sh) (show Rp _ _ _ _ _ from .exo hp), ?_, y⟩
    exact ⟨fun ρ σ H c w sr => cp.nx _ _ _ _ w (sr.drop1 i), cp.rt, fun _ _ _ _ _ _ _ w => w.elim, fun ρ σ H c w sr => cp.bk _ _ _ _ w (sr.drop1 i), fun ρ σ H c w sr => cp.ct _ _ _ _ w (sr.drop1 i)⟩
theorem vs_tryN {b h : List Sm} {C : Str} {cr : Addr} {body suite : List Stmt} {b₀ : Stmt} {np pos pos' : Pos} (hs : X.stack = X.env :: X.outer) (hf : X.env.frame = some X.env.locals) (hC : Gl X C ∧ (C == ("__debug__" : Str)) = false) (hmC : X.mg C = some (.ref cr)) (tk : Takes X Wx)
    (hcls : ∀ x y b, S.sub x y = some b → ClsF X x y b)
    (hb : ∀ (W : WX) (pn : List (Addr × Obj)) (xe : Value → Shared → Prop), Takes (X.tr pn xe) W → PassesOwn (model X.prog X.w) X.A X.env xe → PSs (X.tr pn xe) body (VSs (X.tr pn xe) S W b))
    (hh : ∀ (a : Addr) (oe : Obj) (d : Option Addr) (pn : List (Addr × Obj)) (nm : Str) (Ca : Addr), X.mg nm = some (.ref Ca) → Zc (.ref Ca) d oe → (∃ vs, oe.data = .fields vs) → PSs (X.suite a ((a, oe) :: pn)) (b₀ :: suite) (VSs (X.suite a ((a, oe) :: pn)) (hotS S a nm d) W0 h)) :
    PS X (.Try body [.ExceptHandler (some (.Name C np)) none (b₀ :: suite) pos'] [] [] pos) (VS X S Wx (.tryN b C h)) := by
  refine PS.imp (ps_try_only (tb := fun W => VSs X S W b) (ts := fun a cls d D σ H => ∃ nm Ca, X.mg nm = some (.ref Ca) ∧ cls = .ref Ca ∧ VSs X (hotS S a nm d) W0 h D σ H) hs hf ⟨hC.1, hC.2, .inl hmC⟩ tk (fun W pn xe t po => PSs.imp (hb W pn xe t po) VSs.tr) (fun a oe cls d pn hz hv => ⟨fun pins s σ H D I q => ?_⟩)) ?_
  · obtain ⟨nm, Ca, h1, rfl, q⟩ := q
    exact (hh a oe d pn nm Ca h1 hz hv).run pins s σ H D I (VSs.su _ _ _ q)
  · rintro D σ H ⟨Z, H0, c, ρ, Dd, sr, cp, w⟩
    unfold wpS at w
    refine ⟨Z, H0, c, ρ, { Dd with ex := fun x ρ' => exW S C x (Dd.ex x ρ') fun a _ _ dd => wpB' (hotS S a x.name dd) h { Dd with ex := fun _ _ => False } ρ' }, sr, ⟨cp.nx, cp.rt, fun x ρ' σ' H' c' cls dd w' sr' r' => ?_, cp.bk, cp.ct⟩, w.2⟩
    dsimp only at w'
    obtain ⟨bb, e, hy, hn⟩ := exW.un (X := X) (Wx := Wx) hcls hmC r' w'
    refine ⟨bb, e, fun hb a na => ?_, fun hb => cp.ex x ρ' σ' H' c' cls dd (hn hb) sr' r'⟩
    obtain ⟨Cx, hm, ec, dx, pay, hp, y⟩ := hy hb a
    exact ⟨x.name, Cx, hm, ec, Z, H0, c', _, { Dd with ex := fun _ _ => False }, sr', ⟨cp.nx, cp.rt, fun _ _ _ _ _ _ _ w => (show False from w).elim, cp.bk, cp.ct⟩, y⟩
theorem vs_raiseI {C f : Str} {e : E} {x : Expr} {p p3 pos : Pos} (hc : X.calm = true) (tk : Takes X Wx) (mk : MkF X C f) (hg : Gl X C) (hdb : (C == ("__debug__" : Str)) = false) (ha : PA X [x] (VEs X S Wx [e])) (he : starEach [x] X.env = (false, eval x X.env) :: starEach [] X.env) : PS X (.Raise (some (.Call (.Name C p) [x] [] p3)) none pos) (VS X S Wx (.raiseI C f e)) := by
  obtain ⟨Ca, fI, k, fd, ps, gC, T, hno, iC, tI, F1, hr, hb⟩ := mk
  refine PS.imp (ps_raise hc tk (pmk_oex T iC tI F1 hr hb (dvs := []) .nil (passes_call tk fun _ _ _ _ z => z.elim) hg gC ha hdb he rfl)) ?_
  rintro D σ H ⟨Z, H0, c, ρ, Dd, sr, cp, w⟩
  unfold wpS at w
  refine ⟨_, ρ, _, sr.sv, cp.xw sr, ?_⟩
  unfold wpEs wpEs
  refine wpE.mono (fun d hd vs H1 s1 r1 => ?_) w.2
  obtain ⟨v, rfl, rv⟩ := r1.one
  cases d <;> simp only [intW] at hd
  rename_i n
  cases rv
  refine ⟨by simp, fun a na => ⟨a, Ca, n, rfl, T, hno, upd_same, fun dx nd ne => ⟨rfl, dx, [(f, .int n)], upd_same, ?_, ?_, ?_⟩⟩⟩
  · rw [upd_ne ne, upd_same]
  · rw [upd_ne ne] at nd
    exact nd
  · rw [upd_ne ne] at nd
    refine cp.ex _ ρ σ _ c _ _ hd (sr.ex fun b o hb => ?_) ⟨Ca, gC, rfl, dx, _, rfl, upd_same, .int _⟩
    have hb1 := s1 b o hb
    have b1 : b ≠ a := ne_of_none hb1 na
    have b2 : b ≠ dx := ne_of_none hb1 nd
    rw [upd_ne b2, del_ne b1, upd_ne b1, upd_ne b2, upd_ne b1]
    exact hb1
end
end SV

set_option Elab.async false
set_option linter.all false
set_option maxRecDepth 100000
set_option maxHeartbeats 4000000
namespace SV
open PySem PySem.Spec PyProof.Rows L2
section
variable {X : Cx} {S : Sg} {Wx : WX} {N : List Str} {sc : Scope} {ht : Bool}
theorem vs_asgT {tg : Tg} {x : E} : ∀ D σ H, VS X S Wx (.asgT tg x) D σ H → VE X S Wx x σ H fun v H1 => gOf X.K tg v σ H1 D.nx := by
  rintro D σ H ⟨Z, H0, c, ρ, Dd, sr, cp, w⟩
  unfold wpS at w
  refine ⟨Pc Z c, ρ, _, sr.sv, cp.xw sr, wpE.mono (fun d hd v H' s r _ => ?_) w⟩
  rcases hd.or with ⟨fl, q⟩ | q
  · exact bind_sr (Zd := fun _ => False) (fun a z => z.elim) (sr.ex s) (r.fl fl) q fun ρ' σ' w' sr' => cp.nx ρ' σ' H' c w' sr'
  · obtain ⟨c', sr', hz⟩ := fz_sr (sr.ex s) (als x)
    refine bind_sr (Zd := fun a => Zal (Pc Z c) (als x) H a ∧ H' a ≠ none) (fun a z => ?_) sr' r.dom q fun ρ' σ' w' sr'' => cp.nx ρ' σ' H' c' w' sr''
    obtain ⟨z1, z2⟩ := zal_pc0 sr z.1
    exact ⟨z1, hz a z.2 z2⟩
theorem Sr.own {K : Fr} {Z : Addr → Prop} {H0 H : Hp} {c : Co} {ρ : Env} {σ : L2.St} (h : Sr K Z H0 H c ρ σ) {i : Nat} {k : Kd} {ds : List D} (e : ρ[i]? = some (some (.ls k, .lst ds))) :
    ∃ p vs, σ[i]? = some (some (.ref p)) ∧ c p = some [i] ∧ H p = some (.lst vs) ∧ vs.length = ds.length ∧ (∀ (j : Nat) v d, vs[j]? = some v → ds[j]? = some d → Rk K H Z c k [j, i] v d) ∧ i < ρ.length := by
  obtain ⟨v, e1, p, vs, ds', rfl, e2, hc, hp, hl, r⟩ := h.at_ i _ _ e
  cases e2
  exact ⟨p, vs, e1, hc, hp, hl, r, (List.getElem?_eq_some_iff.mp e).1⟩
theorem len_mf {m f : List Nat} {ρ : Env} : (mvE m (fzE f ρ)).length = ρ.length := by unfold mvE fzE; simp
/-- slot i's list behind a handed value: as it was -/
theorem Sr.own2 {K : Fr} {Z : Addr → Prop} {H0 H : Hp} {c : Co} {ρ : Env} {σ : L2.St} (h : Sr K Z H0 H c ρ σ) {i : Nat} {k : Kd} {ds : List D} (e : ρ[i]? = some (some (.ls k, .lst ds))) {f m : List Nat} (dj : disj [i] (f ++ m) = true) : (mvE m (fzE f ρ))[i]? = some (some (.ls k, .lst ds)) := by
  have hi : i ∉ f ++ m := disj_at dj (by simp)
  rw [mvE_at, fzE_at, e]
  have h1 : i ∉ f := fun z => hi (List.mem_append_left _ z)
  have h2 : i ∉ m := fun z => hi (List.mem_append_right _ z)
  simp [h1, h2]
theorem elK.put {K : Fr} {Z : Addr → Prop} {H0 H : Hp} {c : Co} {ρ : Env} {σ : L2.St} {kw e : Bool} {k' k : Kd} {Q : Kd → Prop} (q : elK kw e k' k Q) (h : Sr K Z H0 H c ρ σ) {i : Nat} {p : Addr} {vs vs' : List V} {ds' : List D} (hσ : σ[i]? = some (some (.ref p))) (hi : i < ρ.length) (hc : c p = some [i]) (hp : H p = some (.lst vs)) (hl : vs'.length = ds'.length)
    (r : ∀ (j : Nat) v d, vs'[j]? = some v → ds'[j]? = some d → (e = false ∧ Rk K H Z c k' [j, i] v d) ∨ Rk K H Z c k [j, i] v d) : ∃ c' k2, Q k2 ∧ Sr K Z H0 (upd H p (.lst vs')) c' (ρ.set i (some (.ls k2, .lst ds'))) σ := by
  unfold elK at q
  split at q
  · refine ⟨c, k, q.2, h.put hσ hi hc hp hl fun j v d e1 e2 => ?_⟩
    rcases r j v d e1 e2 with ⟨ee, r1⟩ | r1
    · rcases q.1 with rfl | z
      · exact r1
      · rw [ee] at z; cases z
    · exact r1
  · obtain ⟨c', s'⟩ := h.putS hσ hi hc hp hl fun j v d e1 e2 => by
      rcases r j v d e1 e2 with ⟨_, r⟩ | r
      · exact ⟨k', j, r⟩
      · exact ⟨k, j, r⟩
    exact ⟨c', .sh, q, s'⟩
theorem vs_appR {i : Nat} {o : OE} {kw : Bool} : ∀ D σ H, VS X S Wx (.app i o kw) D σ H → tDrop (tBM X.K "list" rAppend (tVar i) (tCons (VO X S Wx o) tNil)) D σ H := by
  rintro D σ H ⟨Z, H0, c, ρ, Dd, sr, cp, w⟩
  unfold wpS at w
  split at w
  · rename_i k' ds e
    obtain ⟨p, vs, hσ, hc, hp, hl, rs, hi⟩ := sr.own e
    refine ⟨.ref p, hσ, .inl ⟨rfl, vs, SqL.of hp⟩, ?_⟩
    refine ⟨Z, H0, H, c, ρ, _, sr, Same.refl H, cp.xw sr, wpO.mono (fun k d f m ⟨dj, di, hz, q⟩ v H' s ro => ?_) w⟩
    obtain ⟨c', sr', rk, kp, _⟩ := sr.settle s dj ro [ds.length, i]
    have e' := sr.own2 e di
    obtain ⟨p2, vs2, hσ2, hc2, hp2, hl2, rs2, hi2⟩ := sr'.own e'
    rw [hσ] at hσ2
    cases hσ2
    have ev : vs2 = vs := by
      have := s p _ hp
      rw [hp2] at this
      cases this; rfl
    subst ev
    obtain ⟨c3, k2, q3, s3⟩ := q.put sr' hσ hi2 hc2 hp2 (vs' := vs2 ++ [v]) (ds' := ds ++ [d]) (by simp [hl2]) fun j v' d' e1 e2 => by
      by_cases hj : j < ds.length
      · rw [List.getElem?_append_left (by omega)] at e1
        rw [List.getElem?_append_left hj] at e2
        refine .inl ⟨?_, rs2 j v' d' e1 e2⟩
        cases ds with
        | nil => simp at hj
        | cons _ _ => rfl
      · have hj2 : j = ds.length := by
          have := (List.getElem?_eq_some_iff.mp e2).1
          simp at this
          omega
        subst hj2
        rw [← hl2] at e1
        simp at e1
        simp at e2
        subst e1; subst e2
        exact .inr rk
    exact ⟨p, vs2, v, rfl, rfl, hp2, by rw [hl2]; exact hz, cp.nx _ _ _ c3 q3 s3⟩
  · exact w.elim
theorem dput_dk {K : Fr} {Z : Addr → Prop} {H0 H : Hp} {c : Co} {ρ : Env} {σ : L2.St} (sr : Sr K Z H0 H c ρ σ) {i : Nat} {k : Kd} {d0 y d : D} {vy v : V} {R : D → Prop} {Zy : Addr → Prop} (e : ρ[i]? = some (some (k, d0))) (ry : Rp K H Zy vy y) (rv : Rp K H (fun a => Z a ∧ c a = none) v d) (w : dputW k d0 y d R) :
    ∃ p H' d', σ[i]? = some (some (.ref p)) ∧ DPut H p vy v H' ∧ R d' ∧ Sr K Z H0 H' c (ρ.set i (some (k, d'))) σ := by
  have hi := (List.getElem?_eq_some_iff.mp e).1
  obtain ⟨u, hσ, rk⟩ := sr.at_ i k d0 e
  have mv : ∀ {p : Addr} {o : HO} {v : V} {d : D}, c p = some [i] → Rp K H (fun a => Z a ∧ c a = none) v d → Mut (H p) → Rp K (upd H p o) (fun a => Z a ∧ c a = none) v d := fun hc r mp => r.mo (fun a u e z => by
    rw [upd_ne ?_]
    · exact e
    · rintro rfl
      rcases z with z | z
      · rw [hc] at z; exact nomatch z.2
      · rw [e] at mp; exact z mp) (fun _ z => z)
  unfold dputW at w
  split at w
  · obtain ⟨p, kvs, ds, rfl, rfl, hc, hp, hk, r⟩ := rk
    dsimp only at w
    split at w
    · rename_i q hq
      have mp : Mut (H p) := by rw [hp]; trivial
      have kr : KR (fun v d => Rp K H (fun a => Z a ∧ c a = none) v d) (putK kvs q v) (putKD ds q d) := KR.put ⟨hk, r⟩ rv
      refine ⟨p, upd H p (.dK (putK kvs q v)), _, hσ, .inl ⟨kvs, q, hp, rp_key ry hq, ?_, rfl⟩, w.2, sr.putH hσ hi hc mp trivial ⟨p, _, _, rfl, rfl, hc, upd_same, kr.1, fun j v' d' e1 e2 => mv hc (kr.2 j v' d' e1 e2) mp⟩⟩
      have := congrArg List.length hk
      simp at this
      rw [this]; exact w.1
    · exact w.elim
  · obtain ⟨p, kvs, ds, rfl, rfl, hc, hp, hk, r⟩ := rk
    dsimp only at w
    split at w
    · obtain ⟨b, vs, rfl, hb, rb⟩ := ry.tupH
      split at w
      · rename_i q hq
        rw [rps_keys rb hq] at hb
        have mp : Mut (H p) := by rw [hp]; trivial
        have kr : KR (fun v d => Rp K H (fun a => Z a ∧ c a = none) v d) (putK kvs q v) (putKD ds q d) := KR.put ⟨hk, r⟩ rv
        refine ⟨p, upd H p (.dT (putK kvs q v)), _, hσ, .inr ⟨kvs, q, b, hp, rfl, hb, ?_, rfl⟩, w.2, sr.putH hσ hi hc mp trivial ⟨p, _, _, rfl, rfl, hc, upd_same, kr.1, fun j v' d' e1 e2 => mv hc (kr.2 j v' d' e1 e2) mp⟩⟩
        have := congrArg List.length hk
        simp at this
        rw [this]; exact w.1
      · exact w.elim
    · exact w.elim
  · exact w.elim
theorem vs_dput {i : Nat} {ix x : E} : ∀ D σ H, VS X S Wx (.dput i ix x) D σ H → sDPut (tVar i) (VE X S W0 ix) (VE X S Wx x) D σ H := by
  rintro D σ H ⟨Z, H0, c, ρ, Dd, sr, cp, w⟩
  unfold wpS at w
  split at w
  · rename_i k d0 e
    refine ⟨Pc Z c, ρ, _, sr.sv, cp.xw sr, wpE.mono (fun d hd v1 H1 s1 r1 _ => ?_) w⟩
    obtain ⟨u, hσ, _⟩ := sr.at_ i k d0 e
    refine ⟨u, hσ, ?_⟩
    refine ⟨Pc Z c, ρ, _, (sr.ex s1).sv, fun _ z => z.elim, wpE.mono (fun y hy v2 H2 s2 r2 _ => ?_) hd⟩
    have fin : ∀ (c' : Co) (ρ' : Env), Sr X.K Z H0 H2 c' ρ' σ → ρ'[i]? = some (some (k, d0)) → Rp X.K H2 (fun a => Z a ∧ c' a = none) v1 d → dputW k d0 y d (fun d' => Dd.nx (ρ'.set i (some (k, d')))) → ∃ a H4, u = .ref a ∧ DPut H2 a v2 v1 H4 ∧ D.nx σ H4 := fun c' ρ' sr' e' rv w' => by
      obtain ⟨p, H', d', h1, h2, h3, h4⟩ := dput_dk sr' e' r2 rv w'
      rw [hσ] at h1
      cases h1
      exact ⟨p, H', rfl, h2, cp.nx _ _ _ c' h3 h4⟩
    have spl : ∀ {A B : SV.D → Prop}, dputW k d0 y d (fun d' => fOr (flD d) (A d') (B d')) → (flD d = true ∧ dputW k d0 y d A) ∨ dputW k d0 y d B := fun {A B} h => by
      unfold dputW at h ⊢
      split at h <;> (try exact h.elim) <;> (split at h <;> (try exact h.elim))
      · split at h <;> (try exact h.elim)
        rcases h.2.or with ⟨fl, q⟩ | q
        · exact .inl ⟨fl, h.1, q⟩
        · exact .inr ⟨h.1, q⟩
      · split at h <;> (try exact h.elim)
        split at h <;> (try exact h.elim)
        rcases h.2.or with ⟨fl, q⟩ | q
        · exact .inl ⟨fl, h.1, q⟩
        · exact .inr ⟨h.1, q⟩
    rcases spl hy with ⟨fl, q⟩ | q
    · exact fin c ρ (sr.ex (s1.trans s2)) e ((r1.ex s2).fl fl) q
    · obtain ⟨c', sr', hz⟩ := fz_sr (sr.ex (s1.trans s2)) (als x)
      have dj : dputW k d0 y d (fun d' => Dd.nx ((fzE (als x) ρ).set i (some (k, d')))) ∧ disj [i] (als x) = true := by
        unfold dputW at q ⊢
        split at q <;> (try exact q.elim) <;> (split at q <;> (try exact q.elim))
        · split at q <;> (try exact q.elim)
          exact ⟨⟨q.1, q.2.2⟩, q.2.1⟩
        · split at q <;> (try exact q.elim)
          split at q <;> (try exact q.elim)
          exact ⟨⟨q.1, q.2.2⟩, q.2.1⟩
      refine fin c' _ sr' ?_ ?_ dj.1
      · have hi : i ∉ als x := disj_at dj.2 (by simp)
        rw [fzE_at, e]
        simp [hi]
      · refine (r1.ex s2).dom.z fun a z => ?_
        obtain ⟨z1, z2⟩ := zal_pc0 sr z.1
        exact ⟨z1, hz a z.2 z2⟩
  · exact w.elim
theorem vs_extR {i : Nat} {x : E} : ∀ D σ H, VS X S Wx (.ext i x) D σ H → tDrop (tBM X.K "list" rExtend (tVar i) (tCons (VE X S Wx x) tNil)) D σ H := by
  rintro D σ H ⟨Z, H0, c, ρ, Dd, sr, cp, w⟩
  unfold wpS at w
  split at w
  · rename_i k' ds e
    obtain ⟨p, vs, hσ, hc, hp, hl, rs, hi⟩ := sr.own e
    refine ⟨.ref p, hσ, .inl ⟨rfl, vs, SqL.of hp⟩, ?_⟩
    refine ⟨Pc Z c, ρ, _, sr.sv, cp.xw sr, wpE.mono (fun d hd v H' s r _ => ?_) w⟩
    cases d with
    | lst es =>
      obtain ⟨hz, q⟩ := (show _ ∧ _ from hd)
      obtain ⟨b, zs, rfl, hb, rb⟩ := r.lstE
      have sr1 := sr.ex s
      have hp1 := s p _ hp
      refine ⟨p, b, vs, zs, rfl, rfl, hp1, hb, by rw [hl, rb.1]; exact hz, ?_⟩
      rcases q.or with ⟨fl, q⟩ | ⟨di, q⟩
      · obtain ⟨c', s'⟩ := sr1.putS (vs' := vs ++ zs) (ds' := ds ++ es) hσ hi hc hp1 (by simp [hl, rb.1]) fun j v' d' e1 e2 => by
          by_cases hj : j < ds.length
          · rw [List.getElem?_append_left (by omega)] at e1
            rw [List.getElem?_append_left hj] at e2
            exact ⟨k', j, (rs j v' d' e1 e2).ex s⟩
          · rw [List.getElem?_append_right (by omega)] at e1
            rw [List.getElem?_append_right (by omega)] at e2
            rw [hl] at e1
            exact ⟨.sh, j, show Rp _ _ _ _ _ from (rb.2 _ v' d' e1 e2).fl (flDs_at fl e2)⟩
        exact cp.nx _ _ _ c' q s'
      · obtain ⟨c1, sr2, hzz⟩ := fz_sr sr1 (als x)
        have e' := sr1.own2 (f := als x) (m := []) e (by simpa using di)
        rw [mvE_nil] at e'
        obtain ⟨p2, vs2, hσ2, hc2, hp2, hl2, rs2, hi2⟩ := sr2.own e'
        rw [hσ] at hσ2
        cases hσ2
        have ev : vs2 = vs := by
          rw [hp2] at hp1
          cases hp1; rfl
        subst ev
        obtain ⟨c', s'⟩ := sr2.putS (vs' := vs2 ++ zs) (ds' := ds ++ es) hσ hi2 hc2 hp2 (by simp [hl, rb.1]) fun j v' d' e1 e2 => by
          by_cases hj : j < ds.length
          · rw [List.getElem?_append_left (by omega)] at e1
            rw [List.getElem?_append_left hj] at e2
            exact ⟨k', j, rs2 j v' d' e1 e2⟩
          · rw [List.getElem?_append_right (by omega)] at e1
            rw [List.getElem?_append_right (by omega)] at e2
            rw [hl] at e1
            refine ⟨.sh, j, show Rp _ _ _ _ _ from (rb.2 _ v' d' e1 e2).dom.z fun a z => ?_⟩
            obtain ⟨z1, z2⟩ := zal_pc0 sr z.1
            exact ⟨z1, hzz a z.2 z2⟩
        exact cp.nx _ _ _ c' q s'
    | _ => exact (show False from hd).elim
  · exact w.elim
theorem vs_setR {i : Nat} {ix : E} {o : OE} {kw : Bool} : ∀ D σ H, VS X S Wx (.setI i ix o kw) D σ H → VO X S Wx o σ H fun x H1 => gSub (tVar i) (VE X S W0 ix) rSetL x σ H1 D.nx := by
  rintro D σ H ⟨Z, H0, c, ρ, Dd, sr, cp, w⟩
  unfold wpS at w
  split at w
  · rename_i k' ds e
    obtain ⟨p, vs, hσ, hc, hp, hl, rs, hi⟩ := sr.own e
    refine ⟨Z, H0, H, c, ρ, _, sr, Same.refl H, cp.xw sr, wpO.mono (fun k d f m w1 v H' s ro => ?_) w⟩
    refine ⟨.ref p, hσ, ?_⟩
    refine ⟨Pc Z c, ρ, _, (sr.ex s).sv, fun _ z => z.elim, wpE.mono (fun y hy v2 H2 s2 r2 _ => ?_) w1⟩
    cases y with
    | int j =>
      obtain ⟨dj, di, n, hn, q⟩ := (show _ ∧ _ ∧ ∃ n, _ ∧ _ from hy)
      cases r2
      have ro2 : Ro X.K Z c H H H2 k f m v d := by
        obtain ⟨cc, h1, h2⟩ := ro
        exact ⟨cc, fun a q => (h1 a q).imp (fun z => ⟨z.1, mut_ex s2 z.2⟩) id, h2.ex s2⟩
      obtain ⟨c', sr', rk, kp, _⟩ := sr.settle (s.trans s2) dj ro2 [n, i]
      have e' := sr.own2 e di
      obtain ⟨p2, vs2, hσ2, hc2, hp2, hl2, rs2, hi2⟩ := sr'.own e'
      rw [hσ] at hσ2
      cases hσ2
      have ev : vs2 = vs := by
        have := (s.trans s2) p _ hp
        rw [hp2] at this
        cases this; rfl
      subst ev
      obtain ⟨c3, k2, q3, s3⟩ := q.put sr' hσ hi2 hc2 hp2 (vs' := vs2.set n v) (ds' := ds.set n d) (by simp [hl2]) fun j2 v' d' e1 e2 => by
        by_cases hj : j2 = n
        · subst hj
          have h1 : j2 < ds.length := by
            have := (List.getElem?_eq_some_iff.mp e2).1
            simpa using this
          rw [List.getElem?_set_self h1] at e2
          rw [List.getElem?_set_self (by omega)] at e1
          cases e1; cases e2
          exact .inr rk
        · rw [List.getElem?_set_ne (Ne.symm hj)] at e1 e2
          refine .inl ⟨?_, rs2 j2 v' d' e1 e2⟩
          have h1 := (List.getElem?_eq_some_iff.mp e2).1
          have h2 : n < ds.length := (ixN_seq hn).2.1
          have : ds.length ≠ 1 := by omega
          simpa using this
      exact ⟨p, vs2, j, n, rfl, rfl, hp2, by rw [hl2]; exact hn, cp.nx _ _ _ c3 q3 s3⟩
    | _ => exact (show False from hy).elim
  · exact w.elim
/-! ### the check of statements -/
/-! ### a tuple's parts, each to a slot of its own -/
def rcl (N : Nat) (is : List Nat) : Option (List Nat) → Option (List Nat)
  | none => none
  | some q => if q.getLast? = some N then some (q.dropLast.dropLast ++ [is.getD (q.dropLast.getLast?.getD 0) 0]) else some q
theorem rcl_in {N m : Nat} {is : List Nat} {s : List Nat} : rcl N is (some (s ++ [m, N])) = some (s ++ [is.getD m 0]) := by
  have e : s ++ [m, N] = (s ++ [m]) ++ [N] := by simp
  unfold rcl
  dsimp only
  rw [e, if_pos (by simp)]
  simp
theorem rcl_out {N k : Nat} {is : List Nat} {s : List Nat} (h : k ≠ N) : rcl N is (some (s ++ [k])) = some (s ++ [k]) := by
  unfold rcl
  dsimp only
  rw [if_neg (by simp; exact h)]
theorem rcl_nn {N : Nat} {is : List Nat} {q : Option (List Nat)} (h : rcl N is q ≠ none) : q ≠ none := by
  rintro rfl
  exact h rfl
theorem Sr.recl {K : Fr} {Z : Addr → Prop} {H0 H : Hp} {c : Co} {ρ : Env} {σ : L2.St} (h : Sr K Z H0 H c ρ σ) {N : Nat} (hN : ρ.length ≤ N) (is : List Nat) : Sr K Z H0 H (fun a => rcl N is (c a)) ρ σ := by
  refine ⟨h.len, fun i k d e => ?_, h.keep, fun a q => h.new a (rcl_nn q), h.fsh⟩
  obtain ⟨v, e1, r⟩ := h.at_ i k d e
  have hz : ∀ a, c a = none → rcl N is (c a) = none := fun a z => by rw [z]; rfl
  have hi : i ≠ N := by
    have := (List.getElem?_eq_some_iff.mp e).1
    omega
  refine ⟨v, e1, r.mv (fun a o q _ => q) (fun a z => ⟨z.1, hz a z.2⟩) fun a s z => ?_⟩
  show rcl N is (c a) = _
  rw [z]
  exact rcl_out hi
theorem Rk.part {K : Fr} {Z : Addr → Prop} {H : Hp} {c : Co} {N m : Nat} {is : List Nat} {k : Kd} {v : V} {d : D} (r : Rk K H Z c k [m, N] v d) : Rk K H Z (fun a => rcl N is (c a)) k [is.getD m 0] v d :=
  r.mv (fun a o q _ => q) (fun a z => ⟨z.1, by show rcl N is (c a) = none; rw [z.2]; rfl⟩) fun a s z => by
    show rcl N is (c a) = _
    rw [z]
    exact rcl_in
theorem Rk.unp {K : Fr} {Z : Addr → Prop} {H : Hp} {c : Co} {N : Nat} {is : List Nat} : ∀ {k : Kd} {v : V} {d : D} {l : List (Kd × D)}, Rk K H Z c k [N] v d → unpK k d = some l → ∃ p vs, v = .ref p ∧ SqT K H p vs ∧ vs.length = l.length ∧ ∀ (m : Nat) v' q, vs[m]? = some v' → l[m]? = some q → Rk K H Z (fun a => rcl N is (c a)) q.1 [is.getD m 0] v' q.2
  | .sh, v, d, l, r, e => by
    have r' : Rp K H (fun a => Z a ∧ c a = none) v d := r
    cases d <;> simp only [unpK] at e <;> try cases e
    rename_i ds
    obtain ⟨p, vs, rfl, hT, rs⟩ := r'.tupE
    refine ⟨p, vs, rfl, hT, by simpa using rs.1, fun m v' q e1 e2 => ?_⟩
    rw [List.getElem?_map] at e2
    cases hd : ds[m]? with
    | none => rw [hd] at e2; cases e2
    | some d' =>
      rw [hd] at e2
      cases e2
      exact (show Rp _ _ _ _ _ from (rs.2 m v' d' e1 hd).z fun a z => ⟨z.1, by show rcl N is (c a) = none; rw [z.2]; rfl⟩)
  | .t2 k1 k2, v, d, l, r, e => by
    obtain ⟨p, v1, v2, d1, d2, rfl, rfl, hT, r1, r2⟩ := r
    cases e
    refine ⟨p, [v1, v2], rfl, SqT.of hT, rfl, fun m v' q e1 e2 => ?_⟩
    match m, e1, e2 with
    | 0, e1, e2 => cases e1; cases e2; exact r1.part
    | 1, e1, e2 => cases e1; cases e2; exact r2.part
    | m + 2, e1, e2 => simp at e1
  | .t3 k1 k2 k3, v, d, l, r, e => by
    obtain ⟨p, v1, v2, v3, d1, d2, d3, rfl, rfl, hT, r1, r2, r3⟩ := r
    cases e
    refine ⟨p, [v1, v2, v3], rfl, SqT.of hT, rfl, fun m v' q e1 e2 => ?_⟩
    match m, e1, e2 with
    | 0, e1, e2 => cases e1; cases e2; exact r1.part
    | 1, e1, e2 => cases e1; cases e2; exact r2.part
    | 2, e1, e2 => cases e1; cases e2; exact r3.part
    | m + 3, e1, e2 => simp at e1
  | .ls k, v, d, l, r, e => by
    cases d <;> cases e
  | .lk p vs, v, d, l, r, e => by
    cases d <;> cases e
  | .bw p k, v, d, l, r, e => by
    cases d <;> cases e
  | .dc k, v, d, l, r, e => by
    cases d <;> cases e
  | .dt, v, d, l, r, e => by
    cases d <;> cases e
  | .ob ks, v, d, l, r, e => by
    cases d <;> cases e
  | .lh p vs n k, v, d, l, r, e => by
    cases d <;> cases e
theorem setAll_g {K : Fr} {Z : Addr → Prop} {H0 H : Hp} {c : Co} : ∀ {is : List Nat} {vs : List V} {l : List (Kd × D)} {ρ : Env} {σ : L2.St} {Q : L2.St → Hp → Prop}, Sr K Z H0 H c ρ σ → vs.length = is.length → l.length = is.length → (∀ (m : Nat) v' q, vs[m]? = some v' → l[m]? = some q → Rk K H Z c q.1 [is.getD m 0] v' q.2) → (∀ σ', Sr K Z H0 H c (setAll is l ρ) σ' → Q σ' H) → gsOf K (is.map .nm) vs σ H Q
  | [], [], l, ρ, σ, Q, sr, h1, h2, r, k => by
    have e : l = [] := List.length_eq_zero_iff.mp h2
    subst e
    exact ⟨rfl, k σ sr⟩
  | i :: is, v :: vs, q :: l, ρ, σ, Q, sr, h1, h2, r, k => by
    have r0 := r 0 v q rfl rfl
    refine ⟨v, vs, rfl, ?_⟩
    exact setAll_g (sr.setK r0) (by simpa using h1) (by simpa using h2) (fun m v' q' e1 e2 => by simpa using r (m + 1) v' q' (by simpa using e1) (by simpa using e2)) fun σ' s => k σ' s
  | [], _ :: _, l, ρ, σ, Q, sr, h1, h2, r, k => by simp at h1
  | _ :: _, [], l, ρ, σ, Q, sr, h1, h2, r, k => by simp at h1
  | _ :: _, _ :: _, [], ρ, σ, Q, sr, h1, h2, r, k => by simp at h2
theorem len_nm : ∀ is : List Nat, tgLen (is.map Tg.nm) = is.length
  | [] => rfl
  | i :: is => by show tgLen (is.map Tg.nm) + 1 = _; rw [len_nm is]; rfl
theorem vs_asgO {is : List Nat} {o : OE} : ∀ D σ H, VS X S Wx (.asgO is o) D σ H → VO X S Wx o σ H fun v H1 => gOf X.K (.tp (is.map .nm)) v σ H1 D.nx := by
  rintro D σ H ⟨Z, H0, c, ρ, Dd, sr, cp, w⟩
  unfold wpS at w
  refine ⟨Z, H0, H, c, ρ, _, sr, Same.refl H, cp.xw sr, wpO.mono (fun k d f m ⟨dj, hl, q⟩ v H' s ro => ?_) w⟩
  obtain ⟨c', sr', rk, _, _⟩ := sr.settle s dj ro [888888]
  unfold unpW at q
  split at q
  · rename_i l hu
    obtain ⟨p, vs, rfl, hT, h1, h2⟩ := rk.unp (is := is) hu
    exact ⟨p, vs, rfl, hT, by rw [h1, q.1, len_nm], setAll_g (sr'.recl (by rw [len_mf]; exact hl) is) (by rw [h1, q.1]) q.1 h2 fun σ' s2 => cp.nx _ _ _ _ q.2 s2⟩
  · exact q.elim
/-! ### over an own list -/
/-! ### a, b = x, y with plain local names -/
def tPar2 (i j : Nat) (ta : TA) : TS := fun D σ H => ta σ H fun vs H1 => ∃ u v, vs = [u, v] ∧ ∀ p, H1 p = none → D.nx ((σ.set i (some u)).set j (some v)) (upd H1 p (.tup [u, v]))
theorem ps_par2 {i j : Nat} {x y : Str} {a b : Expr} {ta : TA} {px py pt pos pt2 : Pos} {kt k2 : Nat} (hc : X.calm = true) (hN : X.N.Nodup) (hi : X.N[i]? = some x) (hj : X.N[j]? = some y) (hij : i ≠ j)
    (hx : X.env.scope.names.lookup x = some .local) (hy : X.env.scope.names.lookup y = some .local) (ha : PA X [a, b] ta)
    (hw : swappedStores [.Tuple [.Name x px, .Name y py] kt pt] (.Tuple [a, b] k2 pt2) X.env = pure (some [x, y]))
    (hs : swapsWithSole [.Tuple [.Name x px, .Name y py] kt pt] (.Tuple [a, b] k2 pt2) pos.line X.env = pure false := by rfl) :
    PS X (.Assign [.Tuple [.Name x px, .Name y py] kt pt] (.Tuple [a, b] k2 pt2) pos) (tPar2 i j ta) := by
  refine ⟨fun pins s σ H D I h => ?_⟩
  rw [exec_Assign_arm]
  refine wpAny_bind (wpAny_standAt ?_)
  rw [hs]
  refine wpAny_bind (wpAny_pure ?_)
  rw [if_neg (by decide)]
  refine wpAny_bind (Tuple_ (thn (ha.run _ pins s σ H _ I h) fun us s1 ⟨vs, H1, I1, r1, q1⟩ => ?_))
  obtain ⟨v1, v2, e1, q1⟩ := q1
  subst e1
  obtain ⟨u1, u2, rfl, r1', r2'⟩ : ∃ u1 u2, us = [u1, u2] ∧ RelV v1 u1 ∧ RelV v2 u2 := by
    cases r1 with
    | cons p q =>
      cases q with
      | cons p' q' =>
        cases q'
        exact ⟨_, _, rfl, p, p'⟩
  refine wpAny_newObj_type ?_ (by show 2 ≤ sizeLine; decide)
  have hf : H1 s1.heap.objs.size = none := I1.hok.fresh (Nat.le_refl _)
  have I2 : Inv X pins σ (upd H1 s1.heap.objs.size (.tup [v1, v2])) { s1 with heap := s1.heap.push { cls := .type "tuple", data := .seq [u1, u2].toArray } } := I1.laid (t' := s1.toks) (fun b u e => Heap.get?_push_of_some _ e) (Nat.le_refl _)
    ⟨by show 2 ≤ sizeLine; decide, [u1, u2], .cons r1' (.cons r2' .nil), ⟨_, Heap.get?_push_size _ rfl, rfl, _, rfl⟩⟩
  rw [hw]
  refine wpAny_bind (wpAny_pure ?_)
  show wpAny (model X.prog X.w) X.A (do rule "assign.swapped-stores"; let items ← unpackItems (.ref s1.heap.objs.size) 2 none; assignInOrder [fun v => bindName X.env y v, fun v => bindName X.env x v] items.reverse; pure Flow.next) _ _ _
  refine wpAny_bind (wpAny_rule (wpAny_bind (unpackItems_tuple (items := #[u1, u2]) (I.ok.hd hc) (IsTup.new s1.heap _) fun h' hx' => ?_)))
  have I3 := I2.kept (h' := h') (t' := s1.toks) fun b o e => hx' b o (Nat.ne_of_lt (Heap.lt_size e)) e
  show wpAny _ _ (assignInOrder [fun v => bindName X.env y v, fun v => bindName X.env x v] [u2, u1] >>= fun _ => pure Flow.next) _ _ _
  refine wpAny_bind (assignInOrder_cons (wpAny_bindName (store_ok I3 hN hj (.inl hy) r2' (fun s2 I4 => ?_) (.inr hy))))
  refine assignInOrder_cons (wpAny_bindName (store_ok I4 hN hi (.inl hx) r1' (fun s4 I6 => assignInOrder_nil (wpAny_pure ?_)) (.inr hx)))
  rw [List.set_comm _ _ (Ne.symm hij)] at I6
  exact ⟨_, _, I6, q1 _ hf⟩
theorem vs_par2 {i j : Nat} {a b : OE} : ∀ D σ H, VS X S Wx (.par i j a b) D σ H → tPar2 i j (tCons (VO X S Wx a) (tCons (VO X S Wx b) tNil)) D σ H := by
  rintro D σ H ⟨Z, H0, c, ρ, Dd, sr, cp, w⟩
  unfold wpS wpO at w
  refine ⟨Z, H0, H, c, ρ, _, sr, Same.refl H, cp.xw sr, wpO.mono (fun k1 d1 f1 m1 w1 v1 H1 s1 r1 => ?_) w⟩
  refine ⟨Z, H0, H, c, ρ, _, sr, s1, (cp.xw sr).ex s1, wpO.mono (fun k2 d2 f2 m2 w2 v2 H2 s2 r2 => ?_) w1⟩
  refine ⟨v1, v2, rfl, fun p hp => ?_⟩
  obtain ⟨jj, dj, hl, q⟩ := w2
  obtain ⟨j0, j3⟩ := b2 jj
  obtain ⟨j1, j2⟩ := b2 j0
  have s3 := (s1.trans s2).trans (same_new (o := HO.tup [v1, v2]) hp)
  obtain ⟨c', sr', rk, _, _⟩ := sr.settle s3 dj (ro_two sr (Same.refl H) s1 s2 r1 r2 j1 j2 j3 hp) [888888]
  obtain ⟨p', u1, u2, d1', d2', e1, e2, hT, k1', k2'⟩ := rk
  cases e1
  cases e2
  rw [upd_same] at hT
  cases hT
  have q2 : Dd.nx (setAll [i, j] [(k1, d1), (k2, d2)] (mvE (m1 ++ m2) (fzE (f1 ++ f2) ρ))) := q.2
  have r1' := k1'.part (N := 888888) (m := 0) (is := [i, j])
  have r2' := k2'.part (N := 888888) (m := 1) (is := [i, j])
  have sr2 := sr'.recl (N := 888888) (by rw [len_mf]; exact hl) [i, j]
  exact cp.nx _ _ _ _ q2 ((sr2.setK r1').setK r2')
def isTL : Expr → Bool
  | .Tuple _ _ _ => true
  | .List _ _ => true
  | _ => false
theorem nostarB {a b : Expr} (ha : isStar a = false) (hb : isStar b = false) : ([a, b].any fun | .Starred .. => true | _ => false) = false := by
  have h : ∀ x : Expr, isStar x = false → (match x with | .Starred .. => true | _ => false) = false := fun x h => by cases x <;> first | rfl | cases h
  simp only [List.any_cons, List.any_nil, Bool.or_false]
  rw [h a ha, h b hb] <;> rfl
theorem swap_some {x y : Str} {a b : Expr} {px py pt pt2 : Pos} {kt k2 : Nat} {env : PySem.Env} (hk : env.scope.kind = .function) (hx : env.scope.names.lookup x = some .local) (hy : env.scope.names.lookup y = some .local) (hp : (py.line == px.line) = true) (hxy : (x == y) = false)
    (h1 : (foldedForSure 8 a && foldedForSure 8 b) = false) (h2 : (constantsAlone 8 a && constantsAlone 8 b) = false) (ha : isStar a = false) (hb : isStar b = false) :
    swappedStores [.Tuple [.Name x px, .Name y py] kt pt] (.Tuple [a, b] k2 pt2) env = pure (some [x, y]) := by
  have b0 : env.blockKind = .function := by unfold PySem.Env.blockKind; rw [hk]; rfl
  have ex : env.kindOf x = some .local := hx
  have ey : env.kindOf y = some .local := hy
  have hp' : py.line = px.line := by simpa using hp
  have er : [x, y].eraseDups = [x, y] := by
    have : (y == x) = false := by rw [BEq.comm]; exact hxy
    simp [List.eraseDups_cons, this]
  have v1 : ([a, b].all (foldedForSure 8)) = false := by simpa using h1
  have v2 : ([a, b].all (constantsAlone 8)) = false := by simpa using h2
  have st := nostarB ha hb
  have fm : ([Expr.Name x px, Expr.Name y py].filterMap fun e => match e with
    | .Name id pos => if env.kindOf id == some .local && pos.line == (([Expr.Name x px, Expr.Name y py].head?.map (·.pos.line)).getD 0) then some id else none
    | _ => none) = [x, y] := by
    have e0 : (([Expr.Name x px, Expr.Name y py].head?.map (·.pos.line)).getD 0) = px.line := rfl
    rw [e0]
    simp only [List.filterMap_cons, List.filterMap_nil, ex, ey, hp', beq_self_eq_true, Bool.and_self, if_true]
  unfold swappedStores
  dsimp only [bind, pure]
  simp only [b0, v1, v2, List.length_cons, List.length_nil, Bool.false_eq_true, if_false]
  rw [if_neg (by decide)]
  refine (if_neg (fun h => absurd (st.symm.trans h) (by decide))).trans ?_
  have key : ∀ l : List Str, l = [x, y] → (if (l.length != 0 + 1 + 1 || l.eraseDups.length != l.length) = true then (Sem.pure none : Sem (Option (List Str))) else Sem.pure (some l)) = Sem.pure (some [x, y]) := by
    rintro l rfl
    rw [er]
    rfl
  exact key _ fm
/-- all constants: the plain way -/
theorem swap_const {ts vs : List Expr} {kt k2 : Nat} {pt pt2 : Pos} {env : PySem.Env} (h : vs.all (foldedForSure 8) = true) : swappedStores [.Tuple ts kt pt] (.Tuple vs k2 pt2) env = pure none := by
  unfold swappedStores
  dsimp only [bind, pure]
  simp only [h, if_true]
  split
  · rfl
  · split
    · rfl
    · split <;> rfl
/-- stores to subscripts: the plain way -/
theorem swap_subs {o1 i1 o2 i2 a b : Expr} {p1 p2 pt pt2 : Pos} {kt k2 : Nat} {env : PySem.Env} : swappedStores [.Tuple [.Subscript o1 i1 p1, .Subscript o2 i2 p2] kt pt] (.Tuple [a, b] k2 pt2) env = pure none := by
  unfold swappedStores
  dsimp only [bind, pure]
  split
  · rfl
  · split
    · rfl
    · rfl
def constTup : Expr → Bool
  | .Tuple vs _ _ => vs.all (foldedForSure 8)
  | _ => false
theorem noStoresC {ts : List Expr} {k : Nat} {p : Pos} {e : Expr} {env : PySem.Env} (h : (!(isTL e) || constTup e) = true) : swappedStores [.Tuple ts k p] e env = pure none := by
  cases h2 : isTL e with
  | false => cases e <;> first | rfl | cases h2
  | true =>
    rw [h2] at h
    cases e <;> first | exact swap_const h | cases h | cases h2
theorem pi_own {e tg : Expr} {t : TE} (h : PE X e t) : PI X tg e (fun σ H R => t σ H fun v H1 => ∃ (p : Addr) (vs : List V), v = .ref p ∧ SqL X.K H1 p vs ∧ R (Itl X.K p) H1) := by
  refine ⟨fun pins s σ H R I q => ?_⟩
  refine thn (h.run pins s σ H _ I q) fun v s1 hh => ?_
  obtain ⟨y, H1, I1, r1, p, vs, rfl, hq, q'⟩ := hh
  cases r1
  obtain ⟨its, rv, pl, hz⟩ := I1.list hq
  refine wpAny_pyIter_list pl.isList ?_
  refine ⟨s1.heap.objs.size, [s1.heap.objs.size], _, _, H1, rfl, I1.kept (t' := s1.toks) fun b o e => Heap.get?_push_of_some _ e, turn_list p _, ⟨_, Heap.get?_push_size _ rfl, rfl, rfl⟩, fun b hb => ?_, q'⟩
  have e : b = s1.heap.objs.size := by simpa using hb
  subst e
  exact I1.fpOk (Nat.le_refl _) (I1.hok.fresh (Nat.le_refl _))
theorem set_same {σ : L2.St} {i : Nat} {v : V} (h : σ[i]? = some (some v)) : σ.set i (some v) = σ := by
  refine List.ext_getElem? fun j => ?_
  by_cases hj : j = i
  · subst hj
    rw [List.getElem?_set_self (List.getElem?_eq_some_iff.mp h).1, h]
  · rw [List.getElem?_set_ne (Ne.symm hj)]
theorem vs_forO {tg : Tg} {i : Nat} {b : List Sm} {tgE iter : Expr} {body : List Stmt} {pos : Pos} (po : PassesOwn (model X.prog X.w) X.A X.env X.xe) (hc : X.calm = true) (hv : PE X iter (tVar i)) (hg : PG X tgE (gOf X.K tg)) (hb : PSs X body (VSs X S Wx b))
    (hs : ∀ x, foldedSetIterable iter X.env x = pure x) : PS X (.For tgE iter body [] pos) (VS X S Wx (.forO tg i b)) := by
  refine PS.imp (ps_for po hc (pi_own hv) hg hb hs) ?_
  rintro D σ H ⟨Z, H0, c, ρ, Dd, sr, cp, w⟩
  unfold wpS at w
  split at w
  · rename_i ds e
    obtain ⟨p, vs, hσ, hcp, hp, hl, rs, hi⟩ := sr.own e
    have w1 := w p vs
    refine ⟨.ref p, hσ, p, vs, rfl, SqL.of hp, ?_⟩
    have srk : Sr X.K Z H0 H c (ρ.set i (some (.lk p vs, .lst ds))) σ := by
      have := sr.setK (i := i) (k := .lk p vs) (v := .ref p) (d := .lst ds) ⟨ds, rfl, rfl, hcp, hp, hl, fun j v d e1 e2 => rs j v d e1 e2⟩
      rw [set_same hσ] at this
      exact this
    obtain ⟨sr3, s03⟩ := srk.rebase
    have cp3 := cp.up s03 sr.fsh
    have lk : ∀ {ρ' : Env} {σ' : L2.St} {H' : Hp} {c' : Co}, Sr X.K Z (less H c) H' c' ρ' σ' → ρ'[i]? = some (some (.lk p vs, .lst ds)) → σ'[i]? = some (some (.ref p)) ∧ c' p = some [i] ∧ H' p = some (.lst vs) ∧ Rps X.K H' (fun a => Z a ∧ c' a = none) vs ds := fun {ρ' σ' H' c'} s h => by
      obtain ⟨v, e1, ds', rfl, ed, e2, e3, e4⟩ := s.at_ i _ _ h
      cases ed
      exact ⟨e1, e2, e3, e4⟩
    have fin : ∀ {ρ' : Env} {σ' : L2.St} {H' : Hp} {c' : Co}, Sr X.K Z (less H c) H' c' ρ' σ' → (ρ'[i]? = some (some (.lk p vs, .lst ds)) ∧ Dd.nx (ρ'.set i (some (.ls .sh, .lst ds)))) → D.nx σ' H' := fun {ρ' σ' H' c'} s h => by
      obtain ⟨e1, e2, e3, e4⟩ := lk s h.1
      have s2 := s.setK (i := i) (k := .ls .sh) (v := .ref p) (d := .lst ds) ⟨p, vs, ds, rfl, rfl, e2, e3, e4.1, fun j v d a b => e4.2 j v d a b⟩
      rw [set_same e1] at s2
      exact cp3.nx _ _ _ _ h.2 s2
    have hf : ∀ {l : List SV.D} {ρ' : Env}, forL i p vs ds (fun D' ρ' => wpB' S b D' ρ') tg l Dd ρ' → ρ'[i]? = some (some (.lk p vs, .lst ds)) := fun {l ρ'} h => by
      cases l <;> exact h.1
    refine for_it (walk_list (K := X.K) (a := p) (xs := vs)) (Pv := fun n σ' H' => ∃ c' ρ', Sr X.K Z (less H c) H' c' ρ' σ' ∧ forL i p vs ds (fun D' ρ' => wpB' S b D' ρ') tg (ds.drop n) Dd ρ') ⟨c, _, sr3, w1⟩ (fun n σ' H' _ h => ?_) ?_ ?_
    · obtain ⟨c', ρ', s, w'⟩ := h
      exact SqL.of (lk s (hf w')).2.2.1
    · rintro n x σ' H2 H3 hlt ⟨c', ρ', sr', w'⟩ ⟨rfl, ex⟩
      have hlt2 : n < ds.length := by omega
      rw [List.drop_eq_getElem_cons hlt2] at w'
      obtain ⟨h1, w'⟩ := w'
      have rd := (lk sr' h1).2.2.2.2 n x ds[n] ex (by simp [hlt2])
      refine bind_sr (Zd := fun a => Z a ∧ c' a = none) (fun a z => z) sr' rd w' fun ρ2 σ2 w2 sr2 => ?_
      exact ⟨Z, less H c, c', ρ2, { Dd with nx := fun ρ => forL i p vs ds (fun D' ρ' => wpB' S b D' ρ') tg (ds.drop (n + 1)) Dd ρ, ct := fun ρ => forL i p vs ds (fun D' ρ' => wpB' S b D' ρ') tg (ds.drop (n + 1)) Dd ρ, bk := fun ρ => ρ[i]? = some (some (.lk p vs, .lst ds)) ∧ Dd.nx (ρ.set i (some (.ls .sh, .lst ds))) }, sr2, ⟨fun ρ σ H c w s => ⟨c, ρ, s, w⟩, cp3.rt, cp3.ex, fun ρ σ H c w s => fin s w, fun ρ σ H c w s => ⟨c, ρ, s, w⟩⟩, w2⟩
    · rintro σ' H' ⟨c', ρ', sr', w'⟩
      rw [List.drop_eq_nil_of_le (by omega)] at w'
      exact fin sr' w'
  · exact w.elim
def isComp : Expr → Bool
  | .ListComp _ _ _ _ => true
  | .SetComp _ _ _ _ => true
  | .DictComp _ _ _ _ _ => true
  | _ => false
def cellB (sc : Scope) (x : Str) : Bool := match sc.names.lookup x with
  | some .cell => true
  | _ => false
theorem cell_at {sc : Scope} {x : Str} (h : cellB sc x = true) : sc.names.lookup x = some .cell := by
  unfold cellB at h
  split at h <;> first | assumption | cases h
theorem cell_loc {sc : Scope} {x : Str} (h : cellB sc x = true) : locC sc x = true := by
  unfold locC
  rw [cell_at h]
theorem noSwapCell {elt : Expr} {gs : List Comprehension} {scope : Scope} {pos py : Pos} {y : Str} {l : Nat} {env : PySem.Env} (hy : env.scope.names.lookup y = some .cell) : swapsWith (.ListComp elt gs scope pos) (some (.Name y py)) l env = pure false := by
  have ky : env.kindOf y = some .cell := hy
  have e1 : (some NameKind.cell == some NameKind.local) = false := by decide
  unfold swapsWith
  simp only [ky, e1, Bool.and_false, Bool.false_and]
theorem noSwap {e : Expr} {t : Option Expr} {l : Nat} {env : PySem.Env} (h : isComp e = false) : swapsWith e t l env = pure false := by
  cases e <;> first | rfl | cases h
theorem noStores {ts : List Expr} {k : Nat} {p : Pos} {e : Expr} {env : PySem.Env} (h : isTL e = false) : swappedStores [.Tuple ts k p] e env = pure none := by
  cases e <;> first | rfl | cases h
theorem noStores2 {o i : Expr} {p : Pos} {e : Expr} {env : PySem.Env} : swappedStores [.Subscript o i p] e env = pure none := by
  cases e <;> rfl
def chkPl (N : List Str) (sc : Scope) (ht : Bool) : Pl → Expr → Bool
  | .var i, e => chkE N sc ht (.var i) e
  | .at_ p c, e => match e with
    | .Subscript x y _ => !(isSlice y) && chkPl N sc ht p x && chkE N sc ht c y
    | _ => false
def chkMop (N : List Str) (sc : Scope) (ht : Bool) : Mop → Str → List Expr → Bool
  | .clr, m, args => decide (m = "clear") && args.isEmpty
  | .app o, m, args => match args with
    | [e] => decide (m = "append") && !(isStar e) && chkO N sc ht o e
    | _ => false
  | .ins c o, m, args => match args with
    | [x, e] => decide (m = "insert") && !(isStar x) && !(isStar e) && chkE N sc ht c x && chkO N sc ht o e
    | _ => false
def nmU (N : List Str) (sc : Scope) : Option Str → Option Nat → Bool
  | none, none => true
  | some n, some i => decide (N[i]? = some n) && locB sc n
  | _, _ => false
mutual
def chkS (N : List Str) (sc : Scope) (ht : Bool) : Sm → Stmt → Bool
  | .asg i o, s => match s with
    | .Assign [.Name x py] e pos => decide (N[i]? = some x) && (match o with
      | .e (.comp own tg ik ies ifs elt) => (match e with
        | .ListComp eltE gs scope p => (cellB sc x || (locB sc x && (py.line == p.line) && !(scope.names.any fun (n, k) => n == x && (k == .local || k == .cell)))) && chkE N sc ht (.comp own tg ik ies ifs elt) (.ListComp eltE gs scope p)
        | _ => false)
      | .oc own tg ik ies o ke => (match e with
        | .ListComp eltE gs scope p => (cellB sc x || (locB sc x && (py.line == p.line) && !(scope.names.any fun (n, k) => n == x && (k == .local || k == .cell)))) && chkO N sc ht (.oc own tg ik ies o ke) (.ListComp eltE gs scope p)
        | _ => false)
      | o => locC sc x && !(isComp e) && chkO N sc ht o e)
    | _ => false
  | .asgT tg c, s => match s with
    | .Assign [.Tuple ts k p] e _ => !ht && !(isComp e) && (!(isTL e) || constTup e) && chkE N sc ht c e && chkT N (locC sc) tg (.Tuple ts k p)
    | _ => false
  | .app i o _, s => match s with
    | .Expr (.Call (.Attribute (.Name x px) m apos) [e] [] cpos) _ => decide (m = "append") && (apos.endLine == cpos.line) && !(isStar e) && chkE N sc ht (.var i) (.Name x px) && chkO N sc ht o e
    | _ => false
  | .ext i c, s => match s with
    | .Expr (.Call (.Attribute (.Name x px) m apos) [e] [] cpos) _ => decide (m = "extend") && (apos.endLine == cpos.line) && !(isStar e) && chkE N sc ht (.var i) (.Name x px) && chkE N sc ht c e
    | _ => false
  | .setI i ix o _, s => match s with
    | .Assign [.Subscript (.Name x px) y _] e _ => !(isComp e) && !(isSlice y) && chkE N sc ht (.var i) (.Name x px) && chkE N sc ht ix y && chkO N sc ht o e
    | _ => false
  | .expr c, s => match s with
    | .Expr e _ => !(isComp e) && chkE N sc ht c e
    | _ => false
  | .ret o, s => match s with
    | .Return (some e) _ => chkO N sc ht o e
    | _ => false
  | .retN, s => match s with
    | .Return none _ => true
    | _ => false
  | .ife c a b, s => match s with
    | .If e xs ys _ => tOk c && chkE N sc ht c e && chkSs N sc ht a xs && chkSs N sc ht b ys
    | _ => false
  | .for_ tg ik ies b, s => match s with
    | .For tgE iter body [] _ => !ht && !(isSet iter) && chkT N (locC sc) tg tgE && itOk sc ik tgE iter && chkEs N sc ht ies (itArgs ik iter) && chkSs N sc ht b body
    | _ => false
  | .whl c b, s => match s with
    | .While e body [] _ => tOk c && chkE N sc ht c e && chkSs N sc ht b body
    | _ => false
  | .raise f m, s => match s with
    | .Raise (some (.Call (.Name x _) [.Constant (.str y) _ _] [] _)) none _ => !ht && decide (x = f) && decide (y = m) && gloB sc x
    | _ => false
  | .pass, s => match s with
    | .Pass _ => true
    | _ => false
  | .brk, s => match s with
    | .Break _ => true
    | _ => false
  | .cont, s => match s with
    | .Continue _ => true
    | _ => false
  | .mut pl op, s => match s with
    | .Expr (.Call (.Attribute x m apos) args [] cpos) _ => !ht && (apos.endLine == cpos.line) && nameSub x && chkPl N sc ht pl x && chkMop N sc ht op m args
    | _ => false
  | .forD tg i b, s => match s with
    | .For tgE (.Name x px) body [] _ => !ht && chkT N (locC sc) tg tgE && chkE N sc ht (.var i) (.Name x px) && chkSs N sc ht b body
    | _ => false
  | .forO tg i b, s => match s with
    | .For tgE (.Name x px) body [] _ => !ht && chkT N (locC sc) tg tgE && chkE N sc ht (.var i) (.Name x px) && chkSs N sc ht b body
    | _ => false
  | .asgH j i, s => match s with
    | .Assign [.Name x py] (.List [.Name y pz] _) _ => decide (N[j]? = some x) && locC sc x && chkE N sc ht (.var i) (.Name y pz)
    | _ => false
  | .appH j o, s => match s with
    | .Expr (.Call (.Attribute (.Name x px) m apos) [e] [] cpos) _ => decide (m = "append") && (apos.endLine == cpos.line) && !(isStar e) && chkE N sc ht (.var j) (.Name x px) && chkO N sc ht o e
    | _ => false
  | .tkO m l ix, s => match s with
    | .Assign [.Name x py] (.Subscript (.Name y pz) z _) _ => decide (N[m]? = some x) && locC sc x && !(isSlice z) && chkE N sc ht (.var l) (.Name y pz) && chkE N sc ht ix z
    | _ => false
  | .setH l ix o, s => match s with
    | .Assign [.Subscript (.Name x px) y _] e _ => !(isComp e) && !(isSlice y) && chkE N sc ht (.var l) (.Name x px) && chkE N sc ht ix y && chkO N sc ht o e
    | _ => false
  | .mutK pl o, s => match s with
    | .Expr (.Call (.Attribute x m apos) [e] [] cpos) _ => !ht && (apos.endLine == cpos.line) && nameSub x && chkPl N sc ht pl x && decide (m = "append") && !(isStar e) && chkO N sc ht o e
    | _ => false
  | .forM m o b, s => match s with
    | .For (.Name y py) iter body [] pos => !ht && !(isSet iter) && chkT N (locC sc) (.nm m) (.Name y py) && chkO N sc ht o iter && chkSs N sc ht b body
    | _ => false
  | .forA m pl b, s => match s with
    | .For (.Name y py) iter body [] pos => !ht && !(isSet iter) && chkT N (locC sc) (.nm m) (.Name y py) && chkPl N sc ht pl iter && chkSs N sc ht b body
    | _ => false
  | .asgO is o, s => match s with
    | .Assign [.Tuple ts k p] e _ => !ht && !(isComp e) && !(isTL e) && chkO N sc ht o e && chkT N (locC sc) (.tp (is.map .nm)) (.Tuple ts k p)
    | _ => false
  | .par i j a b, s => match s with
    | .Assign [.Tuple [.Name x px, .Name y py] _ _] (.Tuple [u, v] _ _) _ => !ht && decide (N[i]? = some x) && decide (N[j]? = some y) && decide (i ≠ j) && locB sc x && locB sc y && (py.line == px.line) && !(x == y) && !(foldedForSure 8 u && foldedForSure 8 v) && !(constantsAlone 8 u && constantsAlone 8 v) && !(isStar u) && !(isStar v) && chkO N sc ht a u && chkO N sc ht b v
    | _ => false
  | .swp i a b c, s => match s with
    | .Assign [.Tuple [.Subscript (.Name x px) y _, .Subscript (.Name x' px') y' _] _ _] (.Tuple [u, v] k2 p2) _ => !ht && !(isSlice y) && !(isSlice y') && chkE N sc ht (.var i) (.Name x px) && chkE N sc ht (.var i) (.Name x' px') && chkE N sc ht a y && chkE N sc ht b y' && chkE N sc ht c (.Tuple [u, v] k2 p2)
    | _ => false
  | .popT tg i, s => match s with
    | .Assign [t] (.Call (.Attribute (.Name x px) m apos) [] [] cpos) _ => !ht && decide (m = "pop") && (apos.endLine == cpos.line) && chkE N sc ht (.var i) (.Name x px) && chkT N (locC sc) tg t
    | _ => false
  | .popB j c i, s => match s with
    | .Assign [.Name y py] (.BinOp e .Add (.Call (.Attribute (.Name x px) m apos) [] [] cpos) _) _ => decide (N[j]? = some y) && locC sc y && decide (m = "pop") && (apos.endLine == cpos.line) && chkE N sc ht c e && chkE N sc ht (.var i) (.Name x px)
    | _ => false
  | .dput i ix x, s => match s with
    | .Assign [.Subscript (.Name z px) y _] e _ => !ht && !(isComp e) && !(isSlice y) && chkE N sc ht (.var i) (.Name z px) && chkE N sc ht ix y && chkE N sc ht x e
    | _ => false
  | .setP pl ix o, s => match s with
    | .Assign [.Subscript x y _] e _ => !ht && !(isComp e) && !(isSlice y) && chkPl N sc ht pl x && chkE N sc ht ix y && chkE N sc ht o e
    | _ => false
  | .try1 b C i g, s => match s with
    | .Try body [.ExceptHandler (some (.Name y _)) (some n) (b₀ :: suite) _] [] [] _ => !ht && decide (y = C) && gloB sc y && decide (N[i]? = some n) && locB sc n && chkSs N sc ht b body && chkSs N sc true g (b₀ :: suite)
    | _ => false
  | .tryN b C g, s => match s with
    | .Try body [.ExceptHandler (some (.Name y _)) none (b₀ :: suite) _] [] [] _ => !ht && decide (y = C) && gloB sc y && chkSs N sc ht b body && chkSs N sc true g (b₀ :: suite)
    | _ => false
  | .tryC b hs, s => match s with
    | .Try body (h₀ :: hds) [] [] _ => !ht && chkSs N sc ht b body && chkHs N sc hs (h₀ :: hds)
    | _ => false
  | .hnd _ _ _, _ => false
  | .raiseI C _ e, s => match s with
    | .Raise (some (.Call (.Name y _) [x] [] _)) none _ => !ht && decide (y = C) && gloB sc y && !(isStar x) && chkE N sc ht e x
    | _ => false
def chkHs (N : List Str) (sc : Scope) : List Sm → List ExceptHandler → Bool
  | [], xs => xs.isEmpty
  | .hnd C o h :: r, xs => match xs with
    | .ExceptHandler (some (.Name y _)) nn (b₀ :: suite) _ :: xs => decide (y = C) && gloB sc y && nmU N sc nn o && chkSs N sc true h (b₀ :: suite) && chkHs N sc r xs
    | _ => false
  | _ :: _, _ => false
def chkSs (N : List Str) (sc : Scope) (ht : Bool) : List Sm → List Stmt → Bool
  | [], xs => xs.isEmpty
  | s :: ss, xs => match xs with
    | x :: xs => chkS N sc ht s x && chkSs N sc ht ss xs
    | [] => false
end
end
end SV

set_option Elab.async false
set_option linter.all false
set_option maxRecDepth 100000
set_option maxHeartbeats 4000000
namespace SV
open PySem PySem.Spec PyProof.Rows L2
section
variable {X : Cx} {S : Sg} {Wx : WX} {N : List Str} {sc : Scope} {ht : Bool}
theorem set_self2 {α : Type} {l : List α} {a : Nat} {v : α} (e : l[a]? = some v) : l.set a v = l := by
  refine List.ext_getElem? fun i => ?_
  rw [List.getElem?_set]
  split
  · rename_i h
    subst h
    rw [if_pos (List.getElem?_eq_some_iff.mp e).1, e]
  · rfl
/-! ### a place: its address -/
/-- an object with parts -/
def Nd (H : Hp) (a : Addr) (vs : List V) : Prop := (H a = some (.lst vs) ∨ H a = some (.tup vs)) ∨ (∃ kvs, H a = some (.dK kvs) ∧ vs = kvs.map (·.2)) ∨ ∃ C dx fs, H a = some (.ins C dx fs) ∧ vs = fs.map (·.2)
theorem Nd.ex {H H' : Hp} (e : Same H H') {a : Addr} {vs : List V} (h : Nd H a vs) : Nd H' a vs := by
  rcases h with h | ⟨kvs, h, q⟩ | ⟨C, dx, fs, h, q⟩
  · exact .inl (h.imp (e a _) (e a _))
  · exact .inr (.inl ⟨kvs, e a _ h, q⟩)
  · exact .inr (.inr ⟨C, dx, fs, e a _ h, q⟩)
theorem Nd.det {H : Hp} {a : Addr} {vs vs' : List V} (h : Nd H a vs) (h' : Nd H a vs') : vs = vs' := by
  rcases h with (h | h) | ⟨kvs, h, rfl⟩ | ⟨C, dx, fs, h, rfl⟩ <;> rcases h' with (h' | h') | ⟨kvs', h', rfl⟩ | ⟨C', dx', fs', h', rfl⟩ <;> (rw [h] at h'; cases h'; try rfl)
/-- from v by the places js one comes to w -/
def Rch (H : Hp) : V → List Nat → V → Prop
  | v, [], w => v = w
  | v, j :: js, w => ∃ (a : Addr) (vs : List V) (u : V), v = .ref a ∧ Nd H a vs ∧ vs[j]? = some u ∧ Rch H u js w
theorem Rch.snoc {H : Hp} {n : Nat} {u : V} {a : Addr} {vs : List V} (h2 : Nd H a vs) (h3 : vs[n]? = some u) : ∀ {js : List Nat} {v : V}, Rch H v js (.ref a) → Rch H v (js ++ [n]) u
  | [], v, h => ⟨a, vs, u, h, h2, h3, rfl⟩
  | j :: js, v, ⟨b, ws, x, e1, e2, e3, h⟩ => ⟨b, ws, x, e1, e2, e3, Rch.snoc h2 h3 h⟩
theorem Rch.ex {H H' : Hp} (e : Same H H') : ∀ {js : List Nat} {v w : V}, Rch H v js w → Rch H' v js w
  | [], v, w, h => h
  | j :: js, v, w, ⟨b, ws, x, e1, e2, e3, h⟩ => ⟨b, ws, x, e1, e2.ex e, e3, Rch.ex e h⟩
theorem Rch.det {H : Hp} : ∀ {js : List Nat} {v w w' : V}, Rch H v js w → Rch H v js w' → w = w'
  | [], v, w, w', h, h' => h.symm.trans h'
  | j :: js, v, w, w', ⟨a, vs, u, e1, e2, e3, h⟩, ⟨a', vs', u', e1', e2', e3', h'⟩ => by
    rw [e1] at e1'
    cases e1'
    have ev := e2.det e2'
    subst ev
    rw [e3] at e3'
    cases e3'
    exact Rch.det h h'
theorem app_inj {s t pos : List Nat} {i j : Nat} (h : s ++ i :: pos = t ++ j :: pos) : i = j := by
  have h2 : (s ++ [i]) ++ pos = (t ++ [j]) ++ pos := by simpa using h
  have h3 := List.append_cancel_right h2
  have h4 := congrArg List.getLast? h3
  simpa using h4
theorem subK_nil : ∀ {k : Kd} {d : D} {k' : Kd} {d' : D}, subK k d [] = some (k', d') → d' = d
  | .bw _ k, d, k', d', e => subK_nil (k := k) (by unfold subK at e; exact e)
  | .sh, d, k', d', e => by unfold subK at e; cases e; rfl
  | .ls _, d, k', d', e => by unfold subK at e; cases e; rfl
  | .t2 _ _, d, k', d', e => by unfold subK at e; cases e; rfl
  | .t3 _ _ _, d, k', d', e => by unfold subK at e; cases e; rfl
  | .lk _ _, d, k', d', e => by unfold subK at e; cases e; rfl
  | .dc _, d, k', d', e => by unfold subK at e; cases e; rfl
  | .dt, d, k', d', e => by unfold subK at e; cases e; rfl
  | .ob _, d, k', d', e => by unfold subK at e; cases e; rfl
  | .lh _ _ _ _, d, k', d', e => by unfold subK at e; cases e; rfl
/-- a way within a datum: its end is there, whatever stands there -/
theorem Rk.way {K : Fr} {H : Hp} {Z : Addr → Prop} {c : Co} : ∀ {k : Kd} {js : List Nat} {pos : List Nat} {v : V} {d : D} {k' : Kd} {d' : D}, Rk K H Z c k pos v d → subK k d js = some (k', d') → ∃ w, Rch H v js w ∧ Rk K H Z c k' (js.reverse ++ pos) w d'
  | .bw a k, js, pos, v, d, k', d', r, e => Rk.way (k := k) r.2 (by unfold subK at e; exact e)
  | .sh, [], pos, v, d, k', d', r, e => by unfold subK at e; cases e; exact ⟨v, rfl, r⟩
  | .ls k, [], pos, v, d, k', d', r, e => by unfold subK at e; cases e; exact ⟨v, rfl, r⟩
  | .t2 _ _, [], pos, v, d, k', d', r, e => by unfold subK at e; cases e; exact ⟨v, rfl, r⟩
  | .t3 _ _ _, [], pos, v, d, k', d', r, e => by unfold subK at e; cases e; exact ⟨v, rfl, r⟩
  | .lk _ _, [], pos, v, d, k', d', r, e => by unfold subK at e; cases e; exact ⟨v, rfl, r⟩
  | .dc _, [], pos, v, d, k', d', r, e => by unfold subK at e; cases e; exact ⟨v, rfl, r⟩
  | .dt, [], pos, v, d, k', d', r, e => by unfold subK at e; cases e; exact ⟨v, rfl, r⟩
  | .ob _, [], pos, v, d, k', d', r, e => by unfold subK at e; cases e; exact ⟨v, rfl, r⟩
  | .lh _ _ _ _, [], pos, v, d, k', d', r, e => by unfold subK at e; cases e; exact ⟨v, rfl, r⟩
  | .sh, j :: js, pos, v, d, k', d', r, e => by cases d <;> simp [subK] at e
  | .lk _ _, j :: js, pos, v, d, k', d', r, e => by cases d <;> simp [subK] at e
  | .t3 _ _ _, j :: js, pos, v, d, k', d', r, e => by cases d <;> simp [subK] at e
  | .dt, j :: js, pos, v, d, k', d', r, e => by cases d <;> simp [subK] at e
  | .lh _ _ _ _, j :: js, pos, v, d, k', d', r, e => by cases d <;> simp [subK] at e
  | .ls k, j :: js, pos, v, d, k', d', r, e => by
    obtain ⟨q, ws, es, rfl, rfl, hc, hq, hl, rs⟩ := r
    unfold subK at e
    cases he : es[j]? with
    | none => rw [he] at e; cases e
    | some d'' =>
      rw [he] at e
      obtain ⟨hj, _⟩ := List.getElem?_eq_some_iff.mp he
      have hj2 : j < ws.length := by omega
      have hw : ws[j]? = some ws[j] := by simp [hj2]
      obtain ⟨w, h1, h2⟩ := Rk.way (rs j ws[j] d'' hw he) e
      exact ⟨w, ⟨q, ws, ws[j], rfl, .inl (.inl hq), hw, h1⟩, by simpa using h2⟩
  | .dc k, j :: js, pos, v, d, k', d', r, e => by
    obtain ⟨q, ws, es, rfl, rfl, hc, hq, hl, rs⟩ := r
    unfold subK at e
    have hl2 : ws.length = es.length := by have := congrArg List.length hl; simpa using this
    cases he : es[j]? with
    | none => rw [he] at e; cases e
    | some d'' =>
      rw [he] at e
      obtain ⟨hj, _⟩ := List.getElem?_eq_some_iff.mp he
      have hj2 : j < ws.length := by omega
      have hw : ws[j]? = some ws[j] := by simp [hj2]
      obtain ⟨w, h1, h2⟩ := Rk.way (rs j ws[j] d'' hw he) e
      exact ⟨w, ⟨q, ws.map (·.2), ws[j].2, rfl, .inr (.inl ⟨ws, hq, rfl⟩), by rw [List.getElem?_map, hw]; rfl, h1⟩, by simpa using h2⟩
  | .ob ks, j :: js, pos, v, d, k', d', r, e => by
    obtain ⟨q, C, dx, ws, es, rfl, rfl, hc, hq, hl, rs⟩ := r
    unfold subK at e
    have hl2 : ws.length = es.length := by have := congrArg List.length hl; simpa using this
    cases he : es[j]? with
    | none => rw [he] at e; cases e
    | some d'' =>
      rw [he] at e
      obtain ⟨hj, _⟩ := List.getElem?_eq_some_iff.mp he
      have hj2 : j < ws.length := by omega
      have hw : ws[j]? = some ws[j] := by simp [hj2]
      obtain ⟨w, h1, h2⟩ := Rk.way (rs j ws[j] d'' hw he) e
      exact ⟨w, ⟨q, ws.map (·.2), ws[j].2, rfl, .inr (.inr ⟨C, dx, ws, hq, rfl⟩), by rw [List.getElem?_map, hw]; rfl, h1⟩, by simpa using h2⟩
  | .t2 k1 k2, j :: js, pos, v, d, k', d', r, e => by
    obtain ⟨q, v1, v2, d1, d2, rfl, rfl, hT, r1, r2⟩ := r
    match j, e with
    | 0, e =>
      obtain ⟨w, h1, h2⟩ := Rk.way r1 (show subK k1 d1 js = _ from e)
      exact ⟨w, ⟨q, [v1, v2], v1, rfl, .inl (.inr hT), rfl, h1⟩, by simpa using h2⟩
    | 1, e =>
      obtain ⟨w, h1, h2⟩ := Rk.way r2 (show subK k2 d2 js = _ from e)
      exact ⟨w, ⟨q, [v1, v2], v2, rfl, .inl (.inr hT), rfl, h1⟩, by simpa using h2⟩
    | n + 2, e => exact nomatch (show (none : Option (Kd × D)) = _ from e)
theorem pos_ne {js pos : List Nat} {j : Nat} (t : List Nat) : pos ≠ t ++ ((j :: js).reverse ++ pos) := fun h => by
  have := congrArg List.length h
  simp at this
  omega
/-- another thing at the place -/
theorem Rk.repl {K : Fr} {H H' : Hp} {Z Z' : Addr → Prop} {c c' : Co} : ∀ {k : Kd} {js pos pos' : List Nat} {v w : V} {d d'' : D} {k' : Kd} {d' : D}, Rk K H Z c k pos v d → subK k d js = some (k', d') → Rch H v js w → Rk K H' Z' c' k' (js.reverse ++ pos') w d'' →
    (∀ a o, H a = some o → ((Z a ∧ c a = none) ∨ (∃ s, c a = some (s ++ pos) ∧ ∀ t, c a ≠ some (t ++ (js.reverse ++ pos))) ∨ ¬ Mut (some o)) → H' a = some o) → (∀ a, Z a ∧ c a = none → Z' a ∧ c' a = none) →
    (∀ a s, c a = some (s ++ pos) → (∀ t, c a ≠ some (t ++ (js.reverse ++ pos))) → c' a = some (s ++ pos')) → Rk K H' Z' c' k pos' v (putD d js d'')
  | .bw a k, js, pos, pos', v, w, d, d'', k', d', r, e, rc, n, hm, hz, hc => ⟨r.1, Rk.repl (k := k) r.2 (by unfold subK at e; exact e) rc n hm hz hc⟩
  | .sh, [], pos, pos', v, w, d, d'', k', d', r, e, rc, n, hm, hz, hc => by unfold subK at e; cases e; cases rc; unfold putD; exact n
  | .ls k, [], pos, pos', v, w, d, d'', k', d', r, e, rc, n, hm, hz, hc => by unfold subK at e; cases e; cases rc; unfold putD; exact n
  | .t2 _ _, [], pos, pos', v, w, d, d'', k', d', r, e, rc, n, hm, hz, hc => by unfold subK at e; cases e; cases rc; unfold putD; exact n
  | .t3 _ _ _, [], pos, pos', v, w, d, d'', k', d', r, e, rc, n, hm, hz, hc => by unfold subK at e; cases e; cases rc; unfold putD; exact n
  | .lk _ _, [], pos, pos', v, w, d, d'', k', d', r, e, rc, n, hm, hz, hc => by unfold subK at e; cases e; cases rc; unfold putD; exact n
  | .dc _, [], pos, pos', v, w, d, d'', k', d', r, e, rc, n, hm, hz, hc => by unfold subK at e; cases e; cases rc; unfold putD; exact n
  | .dt, [], pos, pos', v, w, d, d'', k', d', r, e, rc, n, hm, hz, hc => by unfold subK at e; cases e; cases rc; unfold putD; exact n
  | .ob _, [], pos, pos', v, w, d, d'', k', d', r, e, rc, n, hm, hz, hc => by unfold subK at e; cases e; cases rc; unfold putD; exact n
  | .lh _ _ _ _, [], pos, pos', v, w, d, d'', k', d', r, e, rc, n, hm, hz, hc => by unfold subK at e; cases e; cases rc; unfold putD; exact n
  | .sh, j :: js, pos, pos', v, w, d, d'', k', d', r, e, rc, n, hm, hz, hc => by cases d <;> simp [subK] at e
  | .lk _ _, j :: js, pos, pos', v, w, d, d'', k', d', r, e, rc, n, hm, hz, hc => by cases d <;> simp [subK] at e
  | .t3 _ _ _, j :: js, pos, pos', v, w, d, d'', k', d', r, e, rc, n, hm, hz, hc => by cases d <;> simp [subK] at e
  | .dt, j :: js, pos, pos', v, w, d, d'', k', d', r, e, rc, n, hm, hz, hc => by cases d <;> simp [subK] at e
  | .lh _ _ _ _, j :: js, pos, pos', v, w, d, d'', k', d', r, e, rc, n, hm, hz, hc => by cases d <;> simp [subK] at e
  | .ls k, j :: js, pos, pos', v, w, d, d'', k', d', r, e, rc, n, hm, hz, hc => by
    obtain ⟨q, ws, es, rfl, rfl, hq, hH, hl, rs⟩ := r
    obtain ⟨b, vs0, u, eb, nd, hu, rc⟩ := rc
    cases eb
    obtain rfl := nd.det (.inl (.inl hH))
    unfold subK at e
    have under : ∀ a s m, c a = some (s ++ (m :: pos)) → m ≠ j → ∀ t, c a ≠ some (t ++ ((j :: js).reverse ++ pos)) := fun a s m h1 hmj t h2 => by
      rw [h1] at h2
      have h3 : s ++ m :: pos = (t ++ js.reverse) ++ j :: pos := by simpa using Option.some.inj h2
      exact hmj (app_inj h3)
    have own : ∀ t, c q ≠ some (t ++ ((j :: js).reverse ++ pos)) := fun t h => by rw [hq] at h; exact pos_ne t (Option.some.inj h)
    cases he : es[j]? with
    | none => rw [he] at e; cases e
    | some d0 =>
      rw [he] at e
      obtain ⟨hj, _⟩ := List.getElem?_eq_some_iff.mp he
      unfold putD
      have eg : es.getD j .non = d0 := by simp [List.getD, he]
      rw [eg]
      refine ⟨q, vs0, es.set j (putD d0 js d''), rfl, rfl, hc q [] hq own, hm q _ hH (.inr (.inl ⟨[], hq, own⟩)), by simpa using hl, fun m v' x e1 e2 => ?_⟩
      by_cases hmj : m = j
      · subst hmj
        rw [hu] at e1
        cases e1
        rw [List.getElem?_set_self hj] at e2
        cases e2
        refine Rk.repl (pos' := m :: pos') (rs m u d0 hu he) e rc (by simpa using n) (fun a o h1 h2 => hm a o h1 ?_) hz (fun a s h1 h2 => ?_)
        · rcases h2 with h2 | ⟨s, h2, h3⟩ | h2
          · exact .inl h2
          · exact .inr (.inl ⟨s ++ [m], by simpa using h2, fun t ht => h3 t (by rw [ht]; simp)⟩)
          · exact .inr (.inr h2)
        · have := hc a (s ++ [m]) (by simpa using h1) (fun t ht => h2 t (by rw [ht]; simp))
          simpa using this
      · rw [List.getElem?_set_ne (Ne.symm hmj)] at e2
        refine (rs m v' x e1 e2).mv (fun a o h1 h2 => hm a o h1 ?_) hz (fun a s h1 => ?_)
        · rcases h2 with h2 | ⟨s, h2⟩ | h2
          · exact .inl h2
          · exact .inr (.inl ⟨s ++ [m], by simpa using h2, under a s m h2 hmj⟩)
          · exact .inr (.inr h2)
        · have := hc a (s ++ [m]) (by simpa using h1) (under a s m h1 hmj)
          simpa using this
  | .dc k, j :: js, pos, pos', v, w, d, d'', k', d', r, e, rc, n, hm, hz, hc => by
    obtain ⟨q, ws, es, rfl, rfl, hq, hH, hl, rs⟩ := r
    obtain ⟨b, vs0, u, eb, nd, hu, rc⟩ := rc
    cases eb
    obtain rfl := nd.det (.inr (.inl ⟨ws, hH, rfl⟩))
    unfold subK at e
    have under : ∀ a s m, c a = some (s ++ (m :: pos)) → m ≠ j → ∀ t, c a ≠ some (t ++ ((j :: js).reverse ++ pos)) := fun a s m h1 hmj t h2 => by
      rw [h1] at h2
      have h3 : s ++ m :: pos = (t ++ js.reverse) ++ j :: pos := by simpa using Option.some.inj h2
      exact hmj (app_inj h3)
    have own : ∀ t, c q ≠ some (t ++ ((j :: js).reverse ++ pos)) := fun t h => by rw [hq] at h; exact pos_ne t (Option.some.inj h)
    cases he : es[j]? with
    | none => rw [he] at e; cases e
    | some d0 =>
      rw [he] at e
      obtain ⟨hj, _⟩ := List.getElem?_eq_some_iff.mp he
      unfold putD
      rw [he]
      dsimp only
      rw [List.getElem?_map] at hu
      cases hw : ws[j]? with
      | none => rw [hw] at hu; cases hu
      | some w0 =>
        rw [hw] at hu
        cases hu
        have hk0 : w0.1 = d0.1 := by
          have := congrArg (fun l : List Key => l[j]?) hl
          simp only [List.getElem?_map, hw, he] at this
          exact Option.some.inj this
        refine ⟨q, ws, es.set j (d0.1, putD d0.2 js d''), rfl, rfl, hc q [] hq own, hm q _ hH (.inr (.inl ⟨[], hq, own⟩)), ?_, fun m v' x e1 e2 => ?_⟩
        · rw [List.map_set, hl, set_self2 (by rw [List.getElem?_map, he]; rfl)]
        by_cases hmj : m = j
        · subst hmj
          rw [hw] at e1
          cases e1
          rw [List.getElem?_set_self hj] at e2
          cases e2
          refine Rk.repl (pos' := m :: pos') (rs m w0 d0 hw he) e rc (by simpa using n) (fun a o h1 h2 => hm a o h1 ?_) hz (fun a s h1 h2 => ?_)
          · rcases h2 with h2 | ⟨s, h2, h3⟩ | h2
            · exact .inl h2
            · exact .inr (.inl ⟨s ++ [m], by simpa using h2, fun t ht => h3 t (by rw [ht]; simp)⟩)
            · exact .inr (.inr h2)
          · have := hc a (s ++ [m]) (by simpa using h1) (fun t ht => h2 t (by rw [ht]; simp))
            simpa using this
        · rw [List.getElem?_set_ne (Ne.symm hmj)] at e2
          refine (rs m v' x e1 e2).mv (fun a o h1 h2 => hm a o h1 ?_) hz (fun a s h1 => ?_)
          · rcases h2 with h2 | ⟨s, h2⟩ | h2
            · exact .inl h2
            · exact .inr (.inl ⟨s ++ [m], by simpa using h2, under a s m h2 hmj⟩)
            · exact .inr (.inr h2)
          · have := hc a (s ++ [m]) (by simpa using h1) (under a s m h1 hmj)
            simpa using this
  | .ob ks, j :: js, pos, pos', v, w, d, d'', k', d', r, e, rc, n, hm, hz, hc => by
    obtain ⟨q, C, dx, ws, es, rfl, rfl, hq, hH, hl, rs⟩ := r
    obtain ⟨b, vs0, u, eb, nd, hu, rc⟩ := rc
    cases eb
    obtain rfl := nd.det (.inr (.inr ⟨C, dx, ws, hH, rfl⟩))
    unfold subK at e
    have under : ∀ a s m, c a = some (s ++ (m :: pos)) → m ≠ j → ∀ t, c a ≠ some (t ++ ((j :: js).reverse ++ pos)) := fun a s m h1 hmj t h2 => by
      rw [h1] at h2
      have h3 : s ++ m :: pos = (t ++ js.reverse) ++ j :: pos := by simpa using Option.some.inj h2
      exact hmj (app_inj h3)
    have own : ∀ t, c q ≠ some (t ++ ((j :: js).reverse ++ pos)) := fun t h => by rw [hq] at h; exact pos_ne t (Option.some.inj h)
    cases he : es[j]? with
    | none => rw [he] at e; cases e
    | some d0 =>
      rw [he] at e
      obtain ⟨hj, _⟩ := List.getElem?_eq_some_iff.mp he
      unfold putD
      rw [he]
      dsimp only
      rw [List.getElem?_map] at hu
      cases hw : ws[j]? with
      | none => rw [hw] at hu; cases hu
      | some w0 =>
        rw [hw] at hu
        cases hu
        refine ⟨q, C, dx, ws, es.set j (d0.1, putD d0.2 js d''), rfl, rfl, hc q [] hq own, hm q _ hH (.inr (.inl ⟨[], hq, own⟩)), ?_, fun m v' x e1 e2 => ?_⟩
        · rw [List.map_set, hl, set_self2 (by rw [List.getElem?_map, he]; rfl)]
        by_cases hmj : m = j
        · subst hmj
          rw [hw] at e1
          cases e1
          rw [List.getElem?_set_self hj] at e2
          cases e2
          refine Rk.repl (pos' := m :: pos') (rs m w0 d0 hw he) e rc (by simpa using n) (fun a o h1 h2 => hm a o h1 ?_) hz (fun a s h1 h2 => ?_)
          · rcases h2 with h2 | ⟨s, h2, h3⟩ | h2
            · exact .inl h2
            · exact .inr (.inl ⟨s ++ [m], by simpa using h2, fun t ht => h3 t (by rw [ht]; simp)⟩)
            · exact .inr (.inr h2)
          · have := hc a (s ++ [m]) (by simpa using h1) (fun t ht => h2 t (by rw [ht]; simp))
            simpa using this
        · rw [List.getElem?_set_ne (Ne.symm hmj)] at e2
          refine (rs m v' x e1 e2).mv (fun a o h1 h2 => hm a o h1 ?_) hz (fun a s h1 => ?_)
          · rcases h2 with h2 | ⟨s, h2⟩ | h2
            · exact .inl h2
            · exact .inr (.inl ⟨s ++ [m], by simpa using h2, under a s m h2 hmj⟩)
            · exact .inr (.inr h2)
          · have := hc a (s ++ [m]) (by simpa using h1) (under a s m h1 hmj)
            simpa using this
  | .t2 k1 k2, j :: js, pos, pos', v, w, d, d'', k', d', r, e, rc, n, hm, hz, hc => by
    obtain ⟨q, v1, v2, d1, d2, rfl, rfl, hT, r1, r2⟩ := r
    obtain ⟨b, vs0, u, eb, nd, hu, rc⟩ := rc
    cases eb
    obtain rfl := nd.det (.inl (.inr hT))
    have tk := hm q _ hT (.inr (.inr fun z => z))
    have oth : ∀ (k0 : Kd) (m : Nat) (v' : V) (x : D), m ≠ j → Rk K H Z c k0 (m :: pos) v' x → Rk K H' Z' c' k0 (m :: pos') v' x := fun k0 m v' x hmj r => by
      have under : ∀ a s, c a = some (s ++ (m :: pos)) → ∀ t, c a ≠ some (t ++ ((j :: js).reverse ++ pos)) := fun a s h1 t h2 => by
        rw [h1] at h2
        have h3 : s ++ m :: pos = (t ++ js.reverse) ++ j :: pos := by simpa using Option.some.inj h2
        exact hmj (app_inj h3)
      refine r.mv (fun a o h1 h2 => hm a o h1 ?_) hz (fun a s h1 => ?_)
      · rcases h2 with h2 | ⟨s, h2⟩ | h2
        · exact .inl h2
        · exact .inr (.inl ⟨s ++ [m], by simpa using h2, under a s h2⟩)
        · exact .inr (.inr h2)
      · have := hc a (s ++ [m]) (by simpa using h1) (under a s h1)
        simpa using this
    have hm2 : ∀ a o, H a = some o → ((Z a ∧ c a = none) ∨ (∃ s, c a = some (s ++ (j :: pos)) ∧ ∀ t, c a ≠ some (t ++ (js.reverse ++ (j :: pos)))) ∨ ¬ Mut (some o)) → H' a = some o := fun a o h1 h2 => hm a o h1 (by
      rcases h2 with h2 | ⟨s, h2, h3⟩ | h2
      · exact .inl h2
      · exact .inr (.inl ⟨s ++ [j], by simpa using h2, fun t ht => h3 t (by rw [ht]; simp)⟩)
      · exact .inr (.inr h2))
    have hc2 : ∀ a s, c a = some (s ++ (j :: pos)) → (∀ t, c a ≠ some (t ++ (js.reverse ++ (j :: pos)))) → c' a = some (s ++ (j :: pos')) := fun a s h1 h2 => by
      have := hc a (s ++ [j]) (by simpa using h1) (fun t ht => h2 t (by rw [ht]; simp))
      simpa using this
    match j, e, hu, n, oth, hm2, hc2 with
    | 0, e, hu, n, oth, hm2, hc2 =>
      cases hu
      exact ⟨q, v1, v2, _, d2, rfl, rfl, tk, Rk.repl (pos' := 0 :: pos') r1 (show subK k1 d1 js = _ from e) rc (by simpa using n) hm2 hz hc2, oth _ _ _ _ (by decide) r2⟩
    | 1, e, hu, n, oth, hm2, hc2 =>
      cases hu
      exact ⟨q, v1, v2, d1, _, rfl, rfl, tk, oth _ _ _ _ (by decide) r1, Rk.repl (pos' := 1 :: pos') r2 (show subK k2 d2 js = _ from e) rc (by simpa using n) hm2 hz hc2⟩
    | n + 2, e, _, _, _, _, _ => exact nomatch (show (none : Option (Kd × D)) = _ from e)
/-- a list at a place: where it stands, what it holds; another in its stead -/
theorem Rk.plc {K : Fr} {H : Hp} {Z : Addr → Prop} {c : Co} {ds : List D} {js : List Nat} {k : Kd} {pos : List Nat} {v : V} {d : D} (r : Rk K H Z c k pos v d) (e : subK k d js = some (.ls .sh, .lst ds)) :
    ∃ (p : Addr) (vs : List V), Rch H v js (.ref p) ∧ c p = some (js.reverse ++ pos) ∧ H p = some (.lst vs) ∧ Rps K H (fun a => Z a ∧ c a = none) vs ds ∧
      ∀ (vs' : List V) (ds' : List D), Rps K (upd H p (.lst vs')) (fun a => Z a ∧ c a = none) vs' ds' → Rk K (upd H p (.lst vs')) Z c k pos v (putD d js (.lst ds')) := by
  obtain ⟨w, h1, h2⟩ := r.way e
  obtain ⟨p, vs, ds0, rfl, ed, hc, hp, hl, rs⟩ := h2
  cases ed
  refine ⟨p, vs, h1, hc, hp, ⟨hl, fun j v d a b => rs j v d a b⟩, fun vs' ds' q => ?_⟩
  refine r.repl e h1 ⟨p, vs', ds', rfl, rfl, hc, upd_same, q.1, fun j v d a b => q.2 j v d a b⟩ (fun a o h3 h4 => ?_) (fun _ z => z) fun _ _ z _ => z
  have np : a ≠ p := by
    rintro rfl
    rcases h4 with h4 | ⟨s, h4, h5⟩ | h4
    · rw [hc] at h4; exact nomatch h4.2
    · exact h5 [] (by rw [hc]; rfl)
    · rw [hp] at h3
      cases h3
      exact h4 trivial
  rw [upd_ne np]
  exact h3
/-- the reading of a place: its value, whatever grew meanwhile -/
def VPl (X : Cx) (S : Sg) (Wx : WX) (pl : Pl) : TE := fun σ H Q => ∃ (Z : Addr → Prop) (H0 Hs : Hp) (c : Co) (ρ : Env) (W : Exc → Prop), Sr X.K Z H0 Hs c ρ σ ∧ Same Hs H ∧ XW X Wx W σ H ∧
  wpPl S W pl ρ fun i js => ∀ w k d v, ρ[i]? = some (some (k, d)) → σ[i]? = some (some v) → Rch Hs v js w → ∀ H', Same H H' → Q w H'
theorem wpPl.mono {W : Exc → Prop} : ∀ {pl : Pl} {ρ : Env} {Q Q' : Nat → List Nat → Prop}, (∀ i js, Q i js → Q' i js) → wpPl S W pl ρ Q → wpPl S W pl ρ Q'
  | .var i, ρ, Q, Q', q, h => by
    unfold wpPl at h ⊢
    split at h
    · exact q _ _ h
    · exact h.elim
  | .at_ p e, ρ, Q, Q', q, h => by
    unfold wpPl at h ⊢
    refine wpPl.mono (fun i js hx => wpE.mono (fun y hy => ?_) hx) h
    cases y <;> simp only [intW] at hy ⊢
    unfold stepW at hy ⊢
    split at hy <;> try exact hy.elim
    split at hy <;> try exact hy.elim
    split at hy <;> try exact hy.elim
    exact ⟨hy.1, q _ _ hy.2⟩
theorem subK_snoc {n : Nat} : ∀ {k : Kd} {js : List Nat} {d : D} {k' : Kd} {d' : D}, subK k d js = some (k', d') → subK k d (js ++ [n]) = subK k' d' [n]
  | .bw a k, js, d, k', d', e => by
    have e1 : subK (.bw a k) d js = subK k d js := by rw [subK]
    have e2 : subK (.bw a k) d (js ++ [n]) = subK k d (js ++ [n]) := by rw [subK]
    rw [e2]
    exact subK_snoc (e1 ▸ e)
  | .sh, [], d, k', d', e => by unfold subK at e; cases e; rfl
  | .ls _, [], d, k', d', e => by unfold subK at e; cases e; rfl
  | .t2 _ _, [], d, k', d', e => by unfold subK at e; cases e; rfl
  | .t3 _ _ _, [], d, k', d', e => by unfold subK at e; cases e; rfl
  | .lk _ _, [], d, k', d', e => by unfold subK at e; cases e; rfl
  | .dc _, [], d, k', d', e => by unfold subK at e; cases e; rfl
  | .dt, [], d, k', d', e => by unfold subK at e; cases e; rfl
  | .ob _, [], d, k', d', e => by unfold subK at e; cases e; rfl
  | .lh _ _ _ _, [], d, k', d', e => by unfold subK at e; cases e; rfl
  | .sh, j :: js, d, k', d', e => by cases d <;> simp [subK] at e
  | .lk _ _, j :: js, d, k', d', e => by cases d <;> simp [subK] at e
  | .t3 _ _ _, j :: js, d, k', d', e => by cases d <;> simp [subK] at e
  | .dt, j :: js, d, k', d', e => by cases d <;> simp [subK] at e
  | .lh _ _ _ _, j :: js, d, k', d', e => by cases d <;> simp [subK] at e
  | .ls k, j :: js, d, k', d', e => by
    cases d <;> simp only [subK] at e <;> try cases e
    rename_i es
    cases he : es[j]? with
    | none => rw [he] at e; cases e
    | some d'' =>
      rw [he] at e
      have e0 : subK (.ls k) (.lst es) (j :: (js ++ [n])) = subK k d'' (js ++ [n]) := by simp only [subK, he]
      exact e0.trans (subK_snoc e)
  | .dc k, j :: js, d, k', d', e => by
    cases d <;> simp only [subK] at e <;> try cases e
    rename_i es
    cases he : es[j]? with
    | none => rw [he] at e; cases e
    | some d'' =>
      rw [he] at e
      have e0 : subK (.dc k) (.dik es) (j :: (js ++ [n])) = subK k d''.2 (js ++ [n]) := by simp only [subK, he]
      exact e0.trans (subK_snoc e)
  | .ob ks, j :: js, d, k', d', e => by
    cases d <;> simp only [subK] at e <;> try cases e
    rename_i C es
    cases he : es[j]? with
    | none => rw [he] at e; cases e
    | some d'' =>
      rw [he] at e
      have e0 : subK (.ob ks) (.ob C es) (j :: (js ++ [n])) = subK (ks d''.1) d''.2 (js ++ [n]) := by simp only [subK, he]
      exact e0.trans (subK_snoc e)
  | .t2 k1 k2, j :: js, d, k', d', e => by
    have hd : ∃ d1 d2, d = .tup [d1, d2] := by
      cases d with
      | tup ds =>
        match ds, e with
        | [d1, d2], _ => exact ⟨d1, d2, rfl⟩
        | [], e => simp [subK] at e
        | [_], e => simp [subK] at e
        | _ :: _ :: _ :: _, e => simp [subK] at e
      | _ => simp [subK] at e
    obtain ⟨d1, d2, rfl⟩ := hd
    match j, e with
    | 0, e =>
      have e0 : subK (.t2 k1 k2) (.tup [d1, d2]) (0 :: (js ++ [n])) = subK k1 d1 (js ++ [n]) := by simp only [subK]
      exact e0.trans (subK_snoc (show subK k1 d1 js = _ from e))
    | 1, e =>
      have e0 : subK (.t2 k1 k2) (.tup [d1, d2]) (1 :: (js ++ [n])) = subK k2 d2 (js ++ [n]) := by simp only [subK]
      exact e0.trans (subK_snoc (show subK k2 d2 js = _ from e))
    | m + 2, e => exact nomatch (show (none : Option (Kd × D)) = _ from e)
theorem VPl.sv {Z : Addr → Prop} {H0 Hs H : Hp} {c : Co} {ρ : Env} {σ : L2.St} (sr : Sr X.K Z H0 Hs c ρ σ) (s : Same Hs H) : Sv X.K H (Pd Z c Hs) ρ σ := sr.svd s
theorem ixN_pos {n m : Nat} {j : Int} (h : ixN n j = some m) : 0 < n := by
  unfold ixN at h
  split at h <;> split at h <;> first | omega | (cases h; done)
theorem Rk.step {K : Fr} {H : Hp} {Z : Addr → Prop} {c : Co} {n : Nat} : ∀ {k : Kd} {pos : List Nat} {v : V} {d : D}, Rk K H Z c k pos v d → (subK k d [n]).isSome = true → 0 < sizD d → ∃ (a : Addr) (vs : List V) (u : V), v = .ref a ∧ (H a = some (.lst vs) ∨ H a = some (.tup vs)) ∧ vs.length = sizD d ∧ vs[n]? = some u
  | .bw a k, pos, v, d, r, h, hz => Rk.step (k := k) r.2 (by unfold subK at h; exact h) hz
  | .sh, pos, v, d, r, h, hz => by cases d <;> simp [subK] at h
  | .lk _ _, pos, v, d, r, h, hz => by cases d <;> simp [subK] at h
  | .t3 _ _ _, pos, v, d, r, h, hz => by cases d <;> simp [subK] at h
  | .dt, pos, v, d, r, h, hz => by cases d <;> simp [subK] at h
  | .lh _ _ _ _, pos, v, d, r, h, hz => by cases d <;> simp [subK] at h
  | .dc _, pos, v, d, r, h, hz => by
    obtain ⟨q, ws, es, rfl, rfl, _⟩ := r
    simp [sizD] at hz
  | .ob _, pos, v, d, r, h, hz => by
    obtain ⟨q, C, dx, ws, es, rfl, rfl, _⟩ := r
    simp [sizD] at hz
  | .ls k, pos, v, d, r, h, hz => by
    obtain ⟨q, ws, es, rfl, rfl, hc, hq, hl, rs⟩ := r
    unfold subK at h
    cases he : es[n]? with
    | none => rw [he] at h; cases h
    | some d' =>
      obtain ⟨hj, _⟩ := List.getElem?_eq_some_iff.mp he
      exact ⟨q, ws, ws[n]'(by omega), rfl, .inl hq, hl, by simp [show n < ws.length by omega]⟩
  | .t2 k1 k2, pos, v, d, r, h, hz => by
    obtain ⟨q, v1, v2, d1, d2, rfl, rfl, hT, r1, r2⟩ := r
    match n, h with
    | 0, _ => exact ⟨q, [v1, v2], v1, rfl, .inr hT, rfl, rfl⟩
    | 1, _ => exact ⟨q, [v1, v2], v2, rfl, .inr hT, rfl, rfl⟩
    | n + 2, h => simp [subK] at h
theorem vpl_at {p : Pl} {e : E} {x y : Expr} {pos : Pos} (hx : PE X x (VPl X S Wx p)) (hy : PE X y (VE X S Wx e)) (hp : PlainIx y) : PE X (.Subscript x y pos) (VPl X S Wx (.at_ p e)) := by
  refine PE.imp (pe_ix ix_seq hx hy hp) ?_
  rintro σ H Q ⟨Z, H0, Hs, c, ρ, W, sr, s, xw, w⟩
  unfold wpPl at w
  refine ⟨Z, H0, Hs, c, ρ, W, sr, s, xw, wpPl.mono (fun i js h w0 k d v e1 e2 hr H1 s1 => ?_) w⟩
  refine ⟨_, ρ, W, sr.svd (s.trans s1), xw.ex s1, wpE.mono (fun dy hd v2 H2 s2 r2 tt => ?_) h⟩
  cases dy <;> simp only [intW] at hd
  rename_i j
  cases r2
  unfold stepW at hd
  rw [e1] at hd
  dsimp only at hd
  split at hd
  · rename_i k' d' hs
    split at hd
    · rename_i n hn
      obtain ⟨v', e3, rk⟩ := sr.at_ i k d e1
      rw [e2] at e3
      cases e3
      obtain ⟨w1, h1, h2⟩ := rk.way hs
      obtain rfl := hr.det h1
      rw [subK_snoc hs] at hd
      obtain ⟨a, vs, u, rfl, ha, hl, hu⟩ := h2.step hd.1 (ixN_pos hn)
      have sH := s.trans (s1.trans s2)
      have ix : atI vs j = some u := by
        unfold atI
        rw [hl, hn]
        exact hu
      have q := hd.2 u k d v rfl e2 (hr.snoc (.inl ha) hu) H2 (s1.trans s2)
      rcases ha with ha | ha
      · exact .inl ⟨a, vs, j, u, rfl, rfl, SqL.of (sH a _ ha), ix, q⟩
      · exact .inr (.inl ⟨a, vs, j, u, rfl, rfl, SqT.of (sH a _ ha), ix, q⟩)
    · exact hd.elim
  · exact hd.elim
/-- a value is given up: nobody's from now on -/
def rcn (N : Nat) : Option (List Nat) → Option (List Nat)
  | none => none
  | some q => if q.getLast? = some N then none else some q
theorem rcn_out {N k : Nat} {s : List Nat} (h : k ≠ N) : rcn N (some (s ++ [k])) = some (s ++ [k]) := by
  unfold rcn
  dsimp only
  rw [if_neg (by simp; exact h)]
theorem rcn_in {N : Nat} {s : List Nat} : rcn N (some (s ++ [N])) = none := by
  unfold rcn
  dsimp only
  rw [if_pos (by simp)]
theorem rcn_nn {N : Nat} {q : Option (List Nat)} (h : rcn N q ≠ none) : q ≠ none := by
  rintro rfl
  exact h rfl
theorem Sr.give {K : Fr} {Z : Addr → Prop} {H0 H H' : Hp} {c : Co} {ρ : Env} {σ : L2.St} (h : Sr K Z H0 H c ρ σ) (e : Same H H') (hN : ρ.length ≤ 777777) {k : Kd} {f m : List Nat} {v : V} {d : D} (dj : disj f m = true) (r : Ro K Z c H H H' k f m v d) :
    ∃ c' : Co, Sr K Z H0 H' c' (mvE m (fzE f ρ)) σ ∧ Rp K H' (fun a => Z a ∧ c' a = none) v d := by
  obtain ⟨c1, s1, rk, _, _⟩ := h.settle e dj r [777777]
  refine ⟨fun a => rcn 777777 (c1 a), ⟨s1.len, fun i k d q => ?_, s1.keep, fun a q => s1.new a (rcn_nn q), s1.fsh⟩, ?_⟩
  · obtain ⟨v', e1, rk'⟩ := s1.at_ i k d q
    have hi : i ≠ 777777 := by
      have := (List.getElem?_eq_some_iff.mp q).1
      rw [len_mf] at this
      omega
    refine ⟨v', e1, rk'.mv (fun a o q _ => q) (fun a z => ⟨z.1, by show rcn 777777 (c1 a) = none; rw [z.2]; rfl⟩) fun a s z => ?_⟩
    show rcn 777777 (c1 a) = _
    rw [z]
    exact rcn_out hi
  · refine rk.rp.z fun a z => ?_
    rcases z with z | ⟨s, z⟩
    · exact ⟨z.1, by show rcn 777777 (c1 a) = none; rw [z.2]; rfl⟩
    · exact ⟨h.fsh a (s1.new a (by rw [z]; exact fun z => nomatch z)).1, by show rcn 777777 (c1 a) = none; rw [z]; exact rcn_in⟩
theorem vpl_var {i : Nat} {x : Expr} (h : PE X x (tVar i)) : PE X x (VPl X S Wx (.var i)) := by
  refine PE.imp h ?_
  rintro σ H Q ⟨Z, H0, Hs, c, ρ, W, sr, s, xw, w⟩
  unfold wpPl at w
  split at w
  · rename_i q hq
    obtain ⟨v, e1, r⟩ := sr.at_ i q.1 q.2 hq
    exact ⟨v, e1, w v q.1 q.2 v hq e1 rfl H (Same.refl H)⟩
  · exact w.elim
theorem own2G {i : Nat} {ρ : Env} {f m : List Nat} (dj : disj [i] (f ++ m) = true) : (mvE m (fzE f ρ))[i]? = ρ[i]? := by
  have h := disj_at dj (i := i) (by simp)
  have h1 : i ∉ f := fun z => h (List.mem_append_left _ z)
  have h2 : i ∉ m := fun z => h (List.mem_append_right _ z)
  rw [mvE_at, fzE_at]
  cases ρ[i]? <;> simp [h1, h2]
theorem Sr.putP {K : Fr} {Z : Addr → Prop} {H0 H : Hp} {c : Co} {ρ : Env} {σ : L2.St} (h : Sr K Z H0 H c ρ σ) {i : Nat} {js : List Nat} {k : Kd} {d : D} {ds : List D} (e : ρ[i]? = some (some (k, d))) (hs : subK k d js = some (.ls .sh, .lst ds)) :
    ∃ (v0 : V) (p : Addr) (vs : List V), σ[i]? = some (some v0) ∧ Rch H v0 js (.ref p) ∧ H p = some (.lst vs) ∧ Rps K H (fun a => Z a ∧ c a = none) vs ds ∧
      ∀ (vs' : List V) (ds' : List D), Rps K H (fun a => Z a ∧ c a = none) vs' ds' → Sr K Z H0 (upd H p (.lst vs')) c (ρ.set i (some (k, putD d js (.lst ds')))) σ := by
  obtain ⟨v0, e0, rk⟩ := h.at_ i k d e
  obtain ⟨p, vs, h1, h2, h3, h4, h5⟩ := rk.plc hs
  have cp : c p ≠ none := by rw [h2]; exact fun z => nomatch z
  refine ⟨v0, p, vs, e0, h1, h3, h4, fun vs' ds' r => ⟨by simpa using h.len, fun j k' d' q => ?_, fun a o q => ?_, fun a q => ?_, h.fsh⟩⟩
  · by_cases hj : j = i
    · subst hj
      have hl := (List.getElem?_eq_some_iff.mp e).1
      rw [List.getElem?_set_self hl] at q
      cases q
      refine ⟨v0, e0, h5 vs' ds' (r.mo (fun a o q z => ?_) fun _ z => z)⟩
      have np : a ≠ p := by
        rintro rfl
        rcases z with z | z
        · exact cp z.2
        · rw [h3] at q
          cases q
          exact z trivial
      rw [upd_ne np]; exact q
    · rw [List.getElem?_set_ne (Ne.symm hj)] at q
      obtain ⟨v', e1, r'⟩ := h.at_ j k' d' q
      refine ⟨v', e1, r'.mv (fun a o q z => ?_) (fun _ z => z) (fun _ _ z => z)⟩
      have np : a ≠ p := by
        rintro rfl
        rcases z with z | ⟨s, z⟩ | z
        · exact cp z.2
        · rw [h2] at z
          have := congrArg List.getLast? (Option.some.inj z)
          simp at this
          exact hj this.symm
        · rw [h3] at q
          cases q
          exact z trivial
      rw [upd_ne np]; exact q
  · have np : a ≠ p := by
      rintro rfl
      have := (h.new _ cp).1
      rw [this] at q
      cases q
    rw [upd_ne np]; exact h.keep a o q
  · refine ⟨(h.new a q).1, ?_⟩
    by_cases np : a = p
    · subst np
      rw [upd_same]; trivial
    · rw [upd_ne np]; exact (h.new a q).2
theorem tgtW.un {ρ : Env} {i : Nat} {js : List Nat} {Q : Kd → D → List D → Prop} {k : Kd} {d : D} (e : ρ[i]? = some (some (k, d))) (h : tgtW ρ i js Q) : ∃ ds, subK k d js = some (.ls .sh, .lst ds) ∧ Q k d ds := by
  unfold tgtW at h
  rw [e] at h
  dsimp only at h
  split at h
  · rename_i ds hs
    exact ⟨ds, hs, h⟩
  · exact h.elim
theorem vs_mutC {pl : Pl} : ∀ D σ H, VS X S Wx (.mut pl .clr) D σ H → tDrop (tBM0 X.K "list" rClear (VPl X S Wx pl)) D σ H := by
  rintro D σ H ⟨Z, H0, c, ρ, Dd, sr, cp, w⟩
  unfold wpS at w
  refine ⟨Z, H0, H, c, ρ, _, sr, Same.refl H, cp.xw sr, wpPl.mono (fun i js h w0 k d v e1 e2 hr H1 s1 => ?_) w⟩
  obtain ⟨ds, hs, q⟩ := tgtW.un e1 h
  unfold mopW at q
  obtain ⟨v0, p, vs, g1, g2, g3, g4, g5⟩ := (sr.ex s1).putP e1 hs
  rw [e2] at g1
  cases g1
  obtain rfl := (hr.ex s1).det g2
  exact ⟨.inl ⟨rfl, vs, SqL.of g3⟩, p, vs, rfl, rfl, g3, cp.nx _ _ _ _ q (g5 [] [] .nil)⟩
theorem Rps.snoc {K : Fr} {H : Hp} {Z : Addr → Prop} {vs : List V} {ds : List D} {v : V} {d : D} (a : Rps K H Z vs ds) (b : Rp K H Z v d) : Rps K H Z (vs ++ [v]) (ds ++ [d]) := a.app (.cons b .nil)
theorem vs_mutA {pl : Pl} {o : OE} : ∀ D σ H, VS X S Wx (.mut pl (.app o)) D σ H → tDrop (tBM X.K "list" rAppend (VPl X S Wx pl) (tCons (VO X S Wx o) tNil)) D σ H := by
  rintro D σ H ⟨Z, H0, c, ρ, Dd, sr, cp, w⟩
  unfold wpS at w
  refine ⟨Z, H0, H, c, ρ, _, sr, Same.refl H, cp.xw sr, wpPl.mono (fun i js h w0 k d v e1 e2 hr H1 s1 => ?_) w⟩
  obtain ⟨ds, hs, q⟩ := tgtW.un e1 h
  unfold mopW at q
  obtain ⟨v0, p, vs, g1, g2, g3, g4, g5⟩ := (sr.ex s1).putP e1 hs
  rw [e2] at g1
  cases g1
  obtain rfl := (hr.ex s1).det g2
  refine ⟨.inl ⟨rfl, vs, SqL.of g3⟩, Z, H0, H1, c, ρ, _, sr.ex s1, Same.refl H1, (cp.xw sr).ex s1, wpO.mono (fun k2 d2 f m ⟨dj, di, hN, hz, q⟩ v2 H2 s2 ro => ?_) q⟩
  obtain ⟨c', sr', rp⟩ := (sr.ex s1).give s2 hN dj ro
  obtain ⟨v0', p', vs', k1, k2, k3, k4, k5⟩ := sr'.putP (by rw [own2G di]; exact e1) hs
  rw [e2] at k1
  cases k1
  have ep := (g2.ex s2).det k2
  cases ep
  have hl := k4.1
  exact ⟨p, vs', v2, rfl, rfl, k3, by rw [hl]; exact hz, cp.nx _ _ _ _ q (k5 _ _ (k4.snoc rp))⟩
theorem vs_mutI {pl : Pl} {e : E} {o : OE} : ∀ D σ H, VS X S Wx (.mut pl (.ins e o)) D σ H → tDrop (tBM X.K "list" (fun x vs H Q => ∃ (l : Addr) (xs : List V) (i : Int) (y : V), x = .ref l ∧ vs = [.int i, y] ∧ H l = some (.lst xs) ∧ xs.length < sizeLine ∧ 0 ≤ i ∧ i < 2 ^ 63 ∧ Q .non (upd H l (.lst (xs.take i.toNat ++ [y] ++ xs.drop i.toNat)))) (VPl X S Wx pl) (tCons (VE X S Wx e) (tCons (VO X S Wx o) tNil))) D σ H := by
  rintro D σ H ⟨Z, H0, c, ρ, Dd, sr, cp, w⟩
  unfold wpS at w
  refine ⟨Z, H0, H, c, ρ, _, sr, Same.refl H, cp.xw sr, wpPl.mono (fun i js h w0 k d v e1 e2 hr H1 s1 => ?_) w⟩
  obtain ⟨ds, hs, q⟩ := tgtW.un e1 h
  unfold mopW at q
  obtain ⟨v0, p, vs, g1, g2, g3, g4, g5⟩ := (sr.ex s1).putP e1 hs
  rw [e2] at g1
  cases g1
  obtain rfl := (hr.ex s1).det g2
  refine ⟨.inl ⟨rfl, vs, SqL.of g3⟩, Pc Z c, ρ, _, (sr.ex s1).sv, (cp.xw sr).ex s1, wpE.mono (fun y hy v1 H2 s2 r1 tt => ?_) q⟩
  cases y <;> simp only [intW] at hy
  rename_i n
  cases r1
  obtain ⟨n0, n1, hy⟩ := hy
  have s12 := s1.trans s2
  refine ⟨Z, H0, H2, c, ρ, _, sr.ex s12, Same.refl H2, (cp.xw sr).ex s12, wpO.mono (fun k2 d2 f m ⟨dj, di, hN, hz, q⟩ v2 H3 s3 ro => ?_) hy⟩
  obtain ⟨c', sr', rp⟩ := (sr.ex s12).give s3 hN dj ro
  obtain ⟨v0', p', vs', k1, k2, k3, k4, k5⟩ := sr'.putP (by rw [own2G di]; exact e1) hs
  rw [e2] at k1
  cases k1
  have ep := ((g2.ex s2).ex s3).det k2
  cases ep
  have hl := k4.1
  refine ⟨p, vs', n, v2, rfl, rfl, k3, by rw [hl]; exact hz, n0, n1, cp.nx _ _ _ _ q (k5 _ (insD ds n d2) ?_)⟩
  have a1 : Rps X.K H3 (fun a => Z a ∧ c' a = none) (vs'.take n.toNat) (ds.take n.toNat) := by simpa using k4.sub 0 n.toNat
  have a2 : Rps X.K H3 (fun a => Z a ∧ c' a = none) (vs'.drop n.toNat) (ds.drop n.toNat) := by
    have := k4.sub n.toNat vs'.length
    rw [List.take_of_length_le (by simp), List.take_of_length_le (by simp [hl])] at this
    exact this
  exact (a1.snoc rp).app a2
theorem vs_setP {pl : Pl} {ix e : E} : ∀ D σ H, VS X S Wx (.setP pl ix e) D σ H → VE X S Wx e σ H fun x H1 => gSub (VPl X S W0 pl) (VE X S W0 ix) rSetL x σ H1 D.nx := by
  rintro D σ H ⟨Z, H0, c, ρ, Dd, sr, cp, w⟩
  unfold wpS at w
  refine ⟨Pc Z c, ρ, _, sr.sv, cp.xw sr, wpE.mono (fun x hx v H1 s1 r1 _ => ?_) w⟩
  obtain ⟨fl, w⟩ := hx
  refine ⟨Z, H0, H1, c, ρ, _, sr.ex s1, Same.refl H1, fun _ z => z.elim, wpPl.mono (fun i js h w0 k d v' e1 e2 hr H2 s2 => ?_) w⟩
  obtain ⟨ds, hs, q⟩ := tgtW.un e1 h
  have s12 := s1.trans s2
  refine ⟨Pc Z c, ρ, _, (sr.ex s12).sv, fun _ z => z.elim, wpE.mono (fun y hy v2 H3 s3 r2 tt => ?_) q⟩
  clear tt
  cases y <;> simp only [intW] at hy
  rename_i n
  cases r2
  obtain ⟨m, hm, q⟩ := hy
  have s13 := s12.trans s3
  obtain ⟨v0, p, vs, g1, g2, g3, g4, g5⟩ := (sr.ex s13).putP e1 hs
  rw [e2] at g1
  cases g1
  obtain rfl := ((hr.ex s2).ex s3).det g2
  have rv : Rp X.K H3 (fun a => Z a ∧ c a = none) v x := (r1.ex (s2.trans s3)).fl fl
  refine ⟨p, vs, n, m, rfl, rfl, g3, by rw [g4.1]; exact hm, cp.nx _ _ _ _ q (g5 (vs.set m v) (ds.set m x) ⟨by simp [g4.1], fun j v' d' a1 a2 => ?_⟩)⟩
  by_cases hj : j = m
  · subst hj
    have h1 : j < ds.length := by
      have := (List.getElem?_eq_some_iff.mp a2).1
      simpa using this
    rw [List.getElem?_set_self h1] at a2
    rw [List.getElem?_set_self (by rw [g4.1]; exact h1)] at a1
    cases a1; cases a2
    exact rv
  · rw [List.getElem?_set_ne (Ne.symm hj)] at a1 a2
    exact g4.2 j v' d' a1 a2
theorem setW.run {Z Zv : Addr → Prop} {H0 H : Hp} {c : Co} {ρ : Env} {σ : L2.St} {i : Nat} {a : E} {x : D} {v : V} {Q : Env → Prop} {R : L2.St → Hp → Prop} (sr : Sr X.K Z H0 H c ρ σ) (fl : flD x = true) (rv : Rp X.K H Zv v x) (w : setW S i a x ρ Q)
    (k : ∀ ρ' H', Q ρ' → Sr X.K Z H0 H' c ρ' σ → Mo (fun _ => False) H H' → R σ H') : gSub (tVar i) (VE X S W0 a) rSetL v σ H R := by
  unfold setW at w
  split at w
  · rename_i ds e
    obtain ⟨p, vs, hσ, hc, hp, hl, rs, hi⟩ := sr.own e
    refine ⟨.ref p, hσ, Pc Z c, ρ, _, sr.sv, fun _ z => z.elim, wpE.mono (fun y hy v2 H2 s2 r2 tt => ?_) w⟩
    clear tt
    cases y <;> simp only [intW] at hy
    rename_i j
    cases r2
    obtain ⟨n, hn, q⟩ := hy
    have hp2 := s2 p _ hp
    have sr2 := sr.ex s2
    refine ⟨p, vs, j, n, rfl, rfl, hp2, by rw [hl]; exact hn, k _ _ q (sr2.put hσ hi hc hp2 (by simp [hl]) fun j2 v' d' e1 e2 => ?_) fun b o hb z => ?_⟩
    · by_cases hj : j2 = n
      · subst hj
        have h1 : j2 < ds.length := by
          have := (List.getElem?_eq_some_iff.mp e2).1
          simpa using this
        rw [List.getElem?_set_self h1] at e2
        rw [List.getElem?_set_self (by omega)] at e1
        cases e1; cases e2
        exact (show Rp _ _ _ _ _ from (rv.ex s2).fl fl)
      · rw [List.getElem?_set_ne (Ne.symm hj)] at e1 e2
        exact (rs j2 v' d' e1 e2).ex s2
    · have hb2 := s2 b o hb
      rw [upd_ne (fun h => ?_)]
      · exact hb2
      · subst h
        rw [hp2] at hb2
        cases hb2
        exact (z.resolve_left id) trivial
  · exact w.elim
theorem vs_swp {i : Nat} {a b c : E} : ∀ D σ H, VS X S Wx (.swp i a b c) D σ H → VE X S Wx c σ H fun x H1 => gTup X.K 2 (gCons (gSub (tVar i) (VE X S W0 a) rSetL) (gCons (gSub (tVar i) (VE X S W0 b) rSetL) gNil)) x σ H1 D.nx := by
  rintro D σ H ⟨Z, H0, c', ρ, Dd, sr, cp, w⟩
  unfold wpS at w
  refine ⟨Pc Z c', ρ, _, sr.sv, cp.xw sr, wpE.mono (fun x hx v H1 s1 r1 tt => ?_) w⟩
  clear tt
  unfold swpW at hx
  split at hx
  · rename_i x y
    obtain ⟨f1, f2, w⟩ := hx
    obtain ⟨p, vs, rfl, hT, rs⟩ := r1.tupE
    obtain ⟨v1, v2, rfl, rv1, rv2⟩ := rs.two
    refine ⟨p, _, rfl, hT, rfl, v1, [v2], rfl, ?_⟩
    refine setW.run (sr.ex s1) f1 rv1 w fun ρ1 H2 w1 sr1 m1 => ?_
    refine ⟨v2, [], rfl, ?_⟩
    have rv2' : Rp X.K H2 (fun _ => False) v2 y := (rv2.fl (Z' := fun _ => False) f2).mo m1 fun _ z => z
    exact setW.run sr1 f2 rv2' w1 fun ρ2 H3 w2 sr2 m2 => ⟨rfl, cp.nx _ _ _ _ w2 sr2⟩
  · exact hx.elim
theorem vs_popT {tg : Tg} {i : Nat} : ∀ D σ H, VS X S Wx (.popT tg i) D σ H → tBM0 X.K "list" rPop (tVar i) σ H fun v H1 => gOf X.K tg v σ H1 D.nx := by
  rintro D σ H ⟨Z, H0, c, ρ, Dd, sr, cp, w⟩
  unfold wpS at w
  split at w
  · rename_i ds e
    split at w
    · rename_i d hd
      obtain ⟨p, vs, hσ, hc, hp, hl, rs, hi⟩ := sr.own e
      obtain ⟨as, rfl⟩ := List.getLast?_eq_some_iff.mp hd
      rw [List.dropLast_concat] at w
      rw [List.length_append] at hl
      simp only [List.length_cons, List.length_nil] at hl
      have hv : as.length < vs.length := by omega
      have rv : Rk X.K H Z c .sh [as.length, i] vs[as.length] d := rs as.length _ d (by simp [hv]) (by simp)
      refine ⟨.ref p, hσ, .inl ⟨rfl, vs, SqL.of hp⟩, p, vs, vs[as.length], rfl, rfl, hp, by rw [show vs.length - 1 = as.length by omega]; simp [hv], ?_⟩
      have sr2 : Sr X.K Z H0 (upd H p (.lst vs.dropLast)) c (ρ.set i (some (.ls .sh, .lst as))) σ := sr.put hσ hi hc hp (by simp; omega) fun j v' d' e1 e2 => by
        have hj : j < as.length := (List.getElem?_eq_some_iff.mp e2).1
        refine rs j v' d' ?_ (by rw [List.getElem?_append_left hj]; exact e2)
        rw [List.getElem?_dropLast] at e1
        split at e1
        · exact e1
        · cases e1
      have rp : Rp X.K (upd H p (.lst vs.dropLast)) (fun a => Z a ∧ c a = none) vs[as.length] d := (show Rp _ _ _ _ _ from rv).mo (fun a o q z => by
        rw [upd_ne (fun h => ?_)]
        · exact q
        · subst h
          rcases z with z | z
          · rw [hc] at z; exact nomatch z.2
          · rw [hp] at q; cases q; exact z trivial) fun _ z => z
      exact bind_sr (fun a z => z) sr2 rp w fun ρ' σ' w' sr' => cp.nx _ _ _ _ w' sr'
    · exact w.elim
  · exact w.elim
theorem vs_popB {j i : Nat} {a : E} : ∀ D σ H, VS X S Wx (.popB j a i) D σ H → tOp (rI0 fun i j => .int (i + j)) (VE X S Wx a) (tBM0 X.K "list" rPop (tVar i)) σ H fun v H1 => gName j v σ H1 D.nx := by
  rintro D σ H ⟨Z, H0, c, ρ, Dd, sr, cp, w⟩
  unfold wpS at w
  refine ⟨Pc Z c, ρ, _, sr.sv, cp.xw sr, wpE.mono (fun x hx v H1 s1 r1 tt => ?_) w⟩
  clear tt
  cases x <;> simp only [intW] at hx
  cases r1
  have sr := sr.ex s1
  split at hx
  · rename_i ds e
    split at hx
    · rename_i n hd
      obtain ⟨p, vs, hσ, hc, hp, hl, rs, hi⟩ := sr.own e
      obtain ⟨as, rfl⟩ := List.getLast?_eq_some_iff.mp hd
      rw [List.dropLast_concat] at hx
      rw [List.length_append] at hl
      simp only [List.length_cons, List.length_nil] at hl
      have hv : as.length < vs.length := by omega
      have rv : Rk X.K H1 Z c .sh [as.length, i] vs[as.length] (.int n) := rs as.length _ (.int n) (by simp [hv]) (by simp)
      have ev : vs[as.length] = V.int n := by
        have rp : Rp X.K H1 (fun a => Z a ∧ c a = none) vs[as.length] (.int n) := rv
        generalize vs[as.length] = z at rp
        cases rp
        rfl
      refine ⟨.ref p, hσ, .inl ⟨rfl, vs, SqL.of hp⟩, p, vs, V.int n, rfl, rfl, hp, by rw [show vs.length - 1 = as.length by omega]; simp [hv, ev], _, n, rfl, rfl, ?_⟩
      have sr2 : Sr X.K Z H0 (upd H1 p (.lst vs.dropLast)) c (ρ.set i (some (.ls .sh, .lst as))) σ := sr.put hσ hi hc hp (by simp; omega) fun j v' d' e1 e2 => by
        have hj : j < as.length := (List.getElem?_eq_some_iff.mp e2).1
        refine rs j v' d' ?_ (by rw [List.getElem?_append_left hj]; exact e2)
        rw [List.getElem?_dropLast] at e1
        split at e1
        · exact e1
        · cases e1
      exact cp.nx _ _ _ _ hx (sr2.setK (show Rp _ _ _ _ _ from .int _))
    · exact hx.elim
  · exact hx.elim
end
end SV

set_option Elab.async false
set_option linter.all false
set_option maxRecDepth 100000
set_option maxHeartbeats 4000000
namespace SV
open PySem PySem.Spec PyProof.Rows L2
/-! ### a loop over own lists within an own list -/
theorem updK_bw {a : Addr} {k y : Kd} {js : List Nat} : updK (.bw a k) js y = (updK k js y).map (.bw a) := by rw [updK]
theorem updK_upd {y : Kd} : ∀ {k : Kd} {js : List Nat} {x k2 : Kd}, (∀ a q, x ≠ .bw a q) → updK k js x = some k2 → updK k2 js y = updK k js y
  | .bw a k, js, x, k2, hx, h => by
    rw [updK_bw] at h
    cases e : updK k js x with
    | none => rw [e] at h; cases h
    | some k3 =>
      rw [e] at h
      cases h
      rw [updK_bw, updK_bw, updK_upd hx e]
  | .t2 k1 k2', j :: js, x, k2, hx, h => by
    match j, h with
    | 0, h =>
      have h : (updK k1 js x).map (fun k => Kd.t2 k k2') = some k2 := h
      cases e : updK k1 js x with
      | none => rw [e] at h; cases h
      | some k3 =>
        rw [e] at h
        cases h
        show (updK k3 js y).map _ = (updK k1 js y).map _
        rw [updK_upd hx e]
    | 1, h =>
      have h : (updK k2' js x).map (fun k => Kd.t2 k1 k) = some k2 := h
      cases e : updK k2' js x with
      | none => rw [e] at h; cases h
      | some k3 =>
        rw [e] at h
        cases h
        show (updK k3 js y).map _ = (updK k2' js y).map _
        rw [updK_upd hx e]
    | n + 2, h => cases h
  | .sh, [], x, k2, hx, h => by
    have h : some x = some k2 := h
    cases h
    cases x <;> first | rfl | exact absurd rfl (hx _ _)
  | .ls _, [], x, k2, hx, h => by
    have h : some x = some k2 := h
    cases h
    cases x <;> first | rfl | exact absurd rfl (hx _ _)
  | .t2 _ _, [], x, k2, hx, h => by
    have h : some x = some k2 := h
    cases h
    cases x <;> first | rfl | exact absurd rfl (hx _ _)
  | .t3 _ _ _, [], x, k2, hx, h => by
    have h : some x = some k2 := h
    cases h
    cases x <;> first | rfl | exact absurd rfl (hx _ _)
  | .lk _ _, [], x, k2, hx, h => by
    have h : some x = some k2 := h
    cases h
    cases x <;> first | rfl | exact absurd rfl (hx _ _)
  | .dc _, [], x, k2, hx, h => by
    have h : some x = some k2 := h
    cases h
    cases x <;> first | rfl | exact absurd rfl (hx _ _)
  | .dt, [], x, k2, hx, h => by
    have h : some x = some k2 := h
    cases h
    cases x <;> first | rfl | exact absurd rfl (hx _ _)
  | .ob _, [], x, k2, hx, h => by
    have h : some x = some k2 := h
    cases h
    cases x <;> first | rfl | exact absurd rfl (hx _ _)
  | .lh _ _ _ _, [], x, k2, hx, h => by
    have h : some x = some k2 := h
    cases h
    cases x <;> first | rfl | exact absurd rfl (hx _ _)
  | .sh, _ :: _, x, k2, hx, h => by cases h
  | .ls _, _ :: _, x, k2, hx, h => by cases h
  | .t3 _ _ _, _ :: _, x, k2, hx, h => by cases h
  | .lk _ _, _ :: _, x, k2, hx, h => by cases h
  | .dc _, _ :: _, x, k2, hx, h => by cases h
  | .dt, _ :: _, x, k2, hx, h => by cases h
  | .ob _, _ :: _, x, k2, hx, h => by cases h
  | .lh _ _ _ _, _ :: _, x, k2, hx, h => by cases h

theorem subK_bw {a : Addr} {k : Kd} {d : D} {js : List Nat} : subK (.bw a k) d js = subK k d js := by rw [subK]
theorem t2_of {k1 k2 k' : Kd} {d d' : D} {j : Nat} {js : List Nat} (e : subK (.t2 k1 k2) d (j :: js) = some (k', d')) : ∃ d1 d2, d = .tup [d1, d2] ∧ ((j = 0 ∧ subK k1 d1 js = some (k', d')) ∨ (j = 1 ∧ subK k2 d2 js = some (k', d'))) := by
  cases d with
  | tup ds =>
    match ds, e with
    | [d1, d2], e =>
      match j, e with
      | 0, e => exact ⟨d1, d2, rfl, .inl ⟨rfl, e⟩⟩
      | 1, e => exact ⟨d1, d2, rfl, .inr ⟨rfl, e⟩⟩
      | n + 2, e => cases e
    | [], e => simp [subK] at e
    | [_], e => simp [subK] at e
    | _ :: _ :: _ :: _, e => simp [subK] at e
  | _ => simp [subK] at e
/-- what stands at the place, and again something -/
theorem upd_sub {x : Kd} (hx : ∀ a q, x ≠ .bw a q) {y : D} : ∀ {k : Kd} {js : List Nat} {d : D} {k' : Kd} {d' : D} {k2 : Kd}, subK k d js = some (k', d') → updK k js x = some k2 → subK k2 (putD d js y) js = some (x, y) ∧ (∀ z, putD (putD d js y) js z = putD d js z) ∧ putD d js d' = d
  | .bw a k, js, d, k', d', k2, e, u => by
    rw [subK_bw] at e
    rw [updK_bw] at u
    cases e2 : updK k js x with
    | none => rw [e2] at u; cases u
    | some k3 =>
      rw [e2] at u
      cases u
      rw [subK_bw]
      exact upd_sub hx e e2
  | .t2 k1 k2', j :: js, d, k', d', k2, e, u => by
    obtain ⟨d1, d2, rfl, ⟨rfl, e5⟩ | ⟨rfl, e5⟩⟩ := t2_of e
    · have u : (updK k1 js x).map (fun k => Kd.t2 k k2') = some k2 := u
      cases e2 : updK k1 js x with
      | none => rw [e2] at u; cases u
      | some k3 =>
        rw [e2] at u
        cases u
        obtain ⟨h1, h2, h3⟩ := upd_sub hx (y := y) e5 e2
        refine ⟨h1, fun z => ?_, ?_⟩
        · show D.tup [putD (putD d1 js y) js z, d2] = D.tup [putD d1 js z, d2]
          rw [h2]
        · show D.tup [putD d1 js d', d2] = _
          rw [h3]
    · have u : (updK k2' js x).map (fun k => Kd.t2 k1 k) = some k2 := u
      cases e2 : updK k2' js x with
      | none => rw [e2] at u; cases u
      | some k3 =>
        rw [e2] at u
        cases u
        obtain ⟨h1, h2, h3⟩ := upd_sub hx (y := y) e5 e2
        refine ⟨h1, fun z => ?_, ?_⟩
        · show D.tup [d1, putD (putD d2 js y) js z] = D.tup [d1, putD d2 js z]
          rw [h2]
        · show D.tup [d1, putD d2 js d'] = _
          rw [h3]
  | k, [], d, k', d', k2, e, u => by
    have hd := subK_nil e
    subst hd
    have pn : ∀ (d z : D), putD d [] z = z := fun d z => by cases d <;> rfl
    refine ⟨?_, fun z => by rw [pn, pn], by rw [pn]⟩
    rw [pn]
    induction k generalizing k2 k' with
    | bw a k ih =>
      rw [subK_bw] at e
      rw [updK_bw] at u
      cases e2 : updK k [] x with
      | none => rw [e2] at u; cases u
      | some k3 =>
        rw [e2] at u
        cases u
        rw [subK_bw]
        exact ih _ _ e2 e
    | _ =>
      have u : some x = some k2 := u
      cases u
      cases x <;> first | rfl | exact absurd rfl (hx _ _)
  | .sh, _ :: _, d, k', d', k2, e, u => by cases u
  | .ls _, _ :: _, d, k', d', k2, e, u => by cases u
  | .t3 _ _ _, _ :: _, d, k', d', k2, e, u => by cases u
  | .lk _ _, _ :: _, d, k', d', k2, e, u => by cases u
  | .dc _, _ :: _, d, k', d', k2, e, u => by cases u
  | .dt, _ :: _, d, k', d', k2, e, u => by cases u
  | .ob _, _ :: _, d, k', d', k2, e, u => by cases u
  | .lh _ _ _ _, _ :: _, d, k', d', k2, e, u => by cases u
/-- another thing, of another kind, at the place -/
theorem Rk.replK {K : Fr} {H H' : Hp} {Z Z' : Addr → Prop} {c c' : Co} {kx : Kd} (hx : ∀ a q, kx ≠ .bw a q) : ∀ {k : Kd} {js pos pos' : List Nat} {v w : V} {d d'' : D} {k' : Kd} {d' : D} {k2 : Kd}, Rk K H Z c k pos v d → subK k d js = some (k', d') → updK k js kx = some k2 → Rch H v js w → Rk K H' Z' c' kx (js.reverse ++ pos') w d'' →
    (∀ a o, H a = some o → ((Z a ∧ c a = none) ∨ (∃ s, c a = some (s ++ pos) ∧ ∀ t, c a ≠ some (t ++ (js.reverse ++ pos))) ∨ ¬ Mut (some o)) → H' a = some o) → (∀ a, Z a ∧ c a = none → Z' a ∧ c' a = none) →
    (∀ a s, c a = some (s ++ pos) → (∀ t, c a ≠ some (t ++ (js.reverse ++ pos))) → c' a = some (s ++ pos')) → Rk K H' Z' c' k2 pos' v (putD d js d'')
  | .bw a k, js, pos, pos', v, w, d, d'', k', d', k2, r, e, u, rc, n, hm, hz, hc => by
    rw [subK_bw] at e
    rw [updK_bw] at u
    cases e2 : updK k js kx with
    | none => rw [e2] at u; cases u
    | some k3 =>
      rw [e2] at u
      cases u
      exact ⟨r.1, Rk.replK hx r.2 e e2 rc n hm hz hc⟩
  | .t2 k1 k2', j :: js, pos, pos', v, w, d, d'', k', d', k2, r, e, u, rc, n, hm, hz, hc => by
    obtain ⟨q, v1, v2, d1, d2, rfl, rfl, hT, r1, r2⟩ := r
    obtain ⟨b, vs0, y, eb, nd, hu, rc⟩ := rc
    cases eb
    obtain rfl := nd.det (.inl (.inr hT))
    have tk := hm q _ hT (.inr (.inr fun z => z))
    have oth : ∀ (k0 : Kd) (m : Nat) (v' : V) (x : D), m ≠ j → Rk K H Z c k0 (m :: pos) v' x → Rk K H' Z' c' k0 (m :: pos') v' x := fun k0 m v' x hmj r => by
      have under : ∀ a s, c a = some (s ++ (m :: pos)) → ∀ t, c a ≠ some (t ++ ((j :: js).reverse ++ pos)) := fun a s h1 t h2 => by
        rw [h1] at h2
        have h3 : s ++ m :: pos = (t ++ js.reverse) ++ j :: pos := by simpa using Option.some.inj h2
        exact hmj (app_inj h3)
      refine r.mv (fun a o h1 h2 => hm a o h1 ?_) hz (fun a s h1 => ?_)
      · rcases h2 with h2 | ⟨s, h2⟩ | h2
        · exact .inl h2
        · exact .inr (.inl ⟨s ++ [m], by simpa using h2, under a s h2⟩)
        · exact .inr (.inr h2)
      · have := hc a (s ++ [m]) (by simpa using h1) (under a s h1)
        simpa using this
    have hm2 : ∀ a o, H a = some o → ((Z a ∧ c a = none) ∨ (∃ s, c a = some (s ++ (j :: pos)) ∧ ∀ t, c a ≠ some (t ++ (js.reverse ++ (j :: pos)))) ∨ ¬ Mut (some o)) → H' a = some o := fun a o h1 h2 => hm a o h1 (by
      rcases h2 with h2 | ⟨s, h2, h3⟩ | h2
      · exact .inl h2
      · exact .inr (.inl ⟨s ++ [j], by simpa using h2, fun t ht => h3 t (by rw [ht]; simp)⟩)
      · exact .inr (.inr h2))
    have hc2 : ∀ a s, c a = some (s ++ (j :: pos)) → (∀ t, c a ≠ some (t ++ (js.reverse ++ (j :: pos)))) → c' a = some (s ++ (j :: pos')) := fun a s h1 h2 => by
      have := hc a (s ++ [j]) (by simpa using h1) (fun t ht => h2 t (by rw [ht]; simp))
      simpa using this
    match j, e, u, hu, n, oth, hm2, hc2 with
    | 0, e, u, hu, n, oth, hm2, hc2 =>
      cases hu
      have u : (updK k1 js kx).map (fun k => Kd.t2 k k2') = some k2 := u
      cases e2 : updK k1 js kx with
      | none => rw [e2] at u; cases u
      | some k3 =>
        rw [e2] at u
        cases u
        exact ⟨q, v1, v2, _, d2, rfl, rfl, tk, Rk.replK hx (pos' := 0 :: pos') r1 (show subK k1 d1 js = _ from e) e2 rc (by simpa using n) hm2 hz hc2, oth _ _ _ _ (by decide) r2⟩
    | 1, e, u, hu, n, oth, hm2, hc2 =>
      cases hu
      have u : (updK k2' js kx).map (fun k => Kd.t2 k1 k) = some k2 := u
      cases e2 : updK k2' js kx with
      | none => rw [e2] at u; cases u
      | some k3 =>
        rw [e2] at u
        cases u
        exact ⟨q, v1, v2, d1, _, rfl, rfl, tk, oth _ _ _ _ (by decide) r1, Rk.replK hx (pos' := 1 :: pos') r2 (show subK k2' d2 js = _ from e) e2 rc (by simpa using n) hm2 hz hc2⟩
    | n + 2, e, _, _, _, _, _, _ => exact nomatch (show (none : Option (Kd × D)) = _ from e)
  | k, [], pos, pos', v, w, d, d'', k', d', k2, r, e, u, rc, n, hm, hz, hc => by
    have pn : ∀ (d z : D), putD d [] z = z := fun d z => by cases d <;> rfl
    rw [pn]
    have rc : v = w := rc
    subst rc
    induction k generalizing k2 k' with
    | bw a k ih =>
      rw [subK_bw] at e
      rw [updK_bw] at u
      cases e2 : updK k [] kx with
      | none => rw [e2] at u; cases u
      | some k3 =>
        rw [e2] at u
        cases u
        exact ⟨r.1, ih _ _ r.2 e e2⟩
    | _ =>
      have u : some kx = some k2 := u
      cases u
      exact n
  | .sh, _ :: _, pos, pos', v, w, d, d'', k', d', k2, r, e, u, rc, n, hm, hz, hc => by cases u
  | .ls _, _ :: _, pos, pos', v, w, d, d'', k', d', k2, r, e, u, rc, n, hm, hz, hc => by cases u
  | .t3 _ _ _, _ :: _, pos, pos', v, w, d, d'', k', d', k2, r, e, u, rc, n, hm, hz, hc => by cases u
  | .lk _ _, _ :: _, pos, pos', v, w, d, d'', k', d', k2, r, e, u, rc, n, hm, hz, hc => by cases u
  | .dc _, _ :: _, pos, pos', v, w, d, d'', k', d', k2, r, e, u, rc, n, hm, hz, hc => by cases u
  | .dt, _ :: _, pos, pos', v, w, d, d'', k', d', k2, r, e, u, rc, n, hm, hz, hc => by cases u
  | .ob _, _ :: _, pos, pos', v, w, d, d'', k', d', k2, r, e, u, rc, n, hm, hz, hc => by cases u
  | .lh _ _ _ _, _ :: _, pos, pos', v, w, d, d'', k', d', k2, r, e, u, rc, n, hm, hz, hc => by cases u
/-! ### recolouring what stands under a place -/
def rcs (suf new : List Nat) : Option (List Nat) → Option (List Nat)
  | none => none
  | some r => if suf <:+ r then some (r.take (r.length - suf.length) ++ new) else some r
theorem rcs_in {suf new s : List Nat} : rcs suf new (some (s ++ suf)) = some (s ++ new) := by
  unfold rcs
  dsimp only
  rw [if_pos (List.suffix_append s suf)]
  congr 1
  simp
theorem rcs_out {suf new r : List Nat} (h : ¬ suf <:+ r) : rcs suf new (some r) = some r := by
  unfold rcs
  dsimp only
  rw [if_neg h]
theorem rcs_nn {suf new : List Nat} {q : Option (List Nat)} (h : rcs suf new q ≠ none) : q ≠ none := by
  rintro rfl
  exact h rfl
theorem suf_last {a s : List Nat} {i x : Nat} (h : (a ++ [i]) <:+ (s ++ [x])) : i = x := by
  obtain ⟨t, h⟩ := h
  have := congrArg List.getLast? h
  simpa [← List.append_assoc] using this
theorem suf_app {n j : Nat} {P s : List Nat} (h : (n :: P) <:+ (s ++ j :: P)) : n = j := by
  obtain ⟨t, h⟩ := h
  exact app_inj h
section
variable {X : Cx} {S : Sg} {Wx : WX} {N : List Str} {sc : Scope} {ht : Bool}
theorem Sr.take {K : Fr} {Z : Addr → Prop} {H0 H : Hp} {c : Co} {ρ : Env} {σ : L2.St} (h : Sr K Z H0 H c ρ σ) {i m : Nat} (him : i ≠ m) {js : List Nat} {kL kn ke : Kd} {d : D} {es : List D} {p : Addr} {vs : List V} {n L : Nat} (hL : es.length ≤ L) (hn : n < es.length)
    (e : ρ[i]? = some (some (kL, d))) (es_ : subK kL d js = some (.lh p vs L (.ls ke), .lst es)) {q : Addr} (hq : vs[n]? = some (.ref q)) (un : updK kL js (.lh p vs n (.ls ke)) = some kn) :
    ∃ c', Sr K Z H0 H c' ((ρ.set i (some (kn, putD d js (.lst (es.set n (.hol q)))))).set m (some (.bw q (.ls ke), es.getD n .non))) (σ.set m (some (.ref q))) := by
  obtain ⟨v0, e0, rk⟩ := h.at_ i kL d e
  obtain ⟨w, h1, h2⟩ := rk.way es_
  obtain ⟨es', rfl, ed, hc, hp, hl, rs, _⟩ := h2
  cases ed
  have nL : ∀ j : Nat, j < es.length → j ≠ L := fun j hj => by omega
  have hen : es[n]? = some (es.getD n .non) := by simp [List.getD, hn]
  have rn := rs n _ _ (nL n hn) hq hen
  have out : ∀ a s x, c a = some (s ++ [x]) → x ≠ i → rcs (n :: (js.reverse ++ [i])) [m] (c a) = some (s ++ [x]) := fun a s x z hx => by
    rw [z]
    refine rcs_out fun hs => ?_
    have : (n :: js.reverse) ++ [i] <:+ s ++ [x] := by simpa using hs
    exact hx (suf_last this).symm
  refine ⟨fun a => rcs (n :: (js.reverse ++ [i])) [m] (c a), ⟨by simpa using h.len, fun x k' d' z => ?_, h.keep, fun a z => h.new a (rcs_nn z), h.fsh⟩⟩
  have hz : ∀ a, Z a ∧ c a = none → Z a ∧ rcs (n :: (js.reverse ++ [i])) [m] (c a) = none := fun a z => ⟨z.1, by rw [z.2]; rfl⟩
  by_cases hxm : x = m
  · subst hxm
    have hlen : x < (ρ.set i (some (kn, putD d js (.lst (es.set n (.hol q)))))).length := by
      have := (List.getElem?_eq_some_iff.mp z).1
      simpa using this
    rw [List.getElem?_set_self hlen] at z
    cases z
    have hml : x < σ.length := by
      have := h.len
      simp at hlen
      omega
    refine ⟨.ref q, by rw [List.getElem?_set_self hml], rfl, rn.mv (fun a o z _ => z) hz fun a s z => ?_⟩
    show rcs _ _ (c a) = _
    rw [z]
    exact rcs_in
  · rw [List.getElem?_set_ne (Ne.symm hxm)] at z
    by_cases hxi : x = i
    · subst hxi
      have hlen := (List.getElem?_eq_some_iff.mp e).1
      rw [List.getElem?_set_self hlen] at z
      cases z
      refine ⟨v0, by rw [List.getElem?_set_ne (Ne.symm him)]; exact e0, ?_⟩
      refine Rk.replK (fun _ _ => by exact fun z => nomatch z) rk es_ un h1 ?_ (fun a o z _ => z) hz fun a s z hu => ?_
      · refine ⟨es.set n (.hol q), rfl, rfl, ?_, hp, by simpa using hl, fun j v' d' hj e1 e2 => ?_, fun v' d' e1 e2 => ?_⟩
        · show rcs _ _ (c p) = _
          rw [hc]
          refine rcs_out fun hs => ?_
          have := hs.length_le
          simp at this
          omega
        · rw [List.getElem?_set_ne (Ne.symm hj)] at e2
          have hjl := (List.getElem?_eq_some_iff.mp e2).1
          refine (rs j v' d' (nL j hjl) e1 e2).mv (fun a o z _ => z) hz fun a s z => ?_
          show rcs _ _ (c a) = _
          rw [z]
          exact rcs_out fun hs => hj (suf_app hs).symm
        · rw [hq] at e1
          cases e1
          rw [List.getElem?_set_self hn] at e2
          cases e2
          exact ⟨q, rfl, rfl⟩
      · show rcs _ _ (c a) = _
        rw [z]
        refine rcs_out fun hs => ?_
        obtain ⟨t, ht⟩ := hs
        refine hu (t ++ [n]) ?_
        rw [z, ← ht]
        simp
    · rw [List.getElem?_set_ne (Ne.symm hxi)] at z
      obtain ⟨v', e1, r'⟩ := h.at_ x k' d' z
      refine ⟨v', by rw [List.getElem?_set_ne (Ne.symm hxm)]; exact e1, r'.mv (fun a o z _ => z) hz fun a s z => out a s x z hxi⟩
theorem Sr.back {K : Fr} {Z : Addr → Prop} {H0 H : Hp} {c : Co} {ρ : Env} {σ : L2.St} (h : Sr K Z H0 H c ρ σ) {i m : Nat} (him : i ≠ m) {js : List Nat} {kL kn ke : Kd} {d e' : D} {es : List D} {p : Addr} {vs : List V} {n L : Nat} (hn : n < es.length)
    (e : ρ[i]? = some (some (kn, d))) (es_ : subK kn d js = some (.lh p vs n (.ls ke), .lst es)) {q : Addr} (hq : vs[n]? = some (.ref q)) (em : ρ[m]? = some (some (.bw q (.ls ke), e'))) (un : updK kn js (.lh p vs L (.ls ke)) = some kL) (hL : es.length ≤ L) :
    ∃ c', Sr K Z H0 H c' ((ρ.set m none).set i (some (kL, putD d js (.lst (es.set n e'))))) σ := by
  obtain ⟨v0, e0, rk⟩ := h.at_ i kn d e
  obtain ⟨vm, em0, rfl, rm⟩ := h.at_ m _ _ em
  obtain ⟨w, h1, h2⟩ := rk.way es_
  obtain ⟨es', rfl, ed, hc, hp, hl, rs, _⟩ := h2
  cases ed
  have out : ∀ a s x, c a = some (s ++ [x]) → x ≠ m → rcs [m] (n :: (js.reverse ++ [i])) (c a) = some (s ++ [x]) := fun a s x z hx => by
    rw [z]
    refine rcs_out fun hs => ?_
    have : [] ++ [m] <:+ s ++ [x] := by simpa using hs
    exact hx (suf_last this).symm
  have hz : ∀ a, Z a ∧ c a = none → Z a ∧ rcs [m] (n :: (js.reverse ++ [i])) (c a) = none := fun a z => ⟨z.1, by rw [z.2]; rfl⟩
  refine ⟨fun a => rcs [m] (n :: (js.reverse ++ [i])) (c a), ⟨by simpa using h.len, fun x k' d' z => ?_, h.keep, fun a z => h.new a (rcs_nn z), h.fsh⟩⟩
  by_cases hxi : x = i
  · subst hxi
    have hlen := (List.getElem?_eq_some_iff.mp e).1
    rw [List.getElem?_set_self (by simpa using hlen)] at z
    cases z
    refine ⟨v0, e0, ?_⟩
    refine Rk.replK (fun _ _ => by exact fun z => nomatch z) rk es_ un h1 ?_ (fun a o z _ => z) hz fun a s z hu => out a s x z him
    refine ⟨es.set n e', rfl, rfl, ?_, hp, by simpa using hl, fun j v' d' hj e1 e2 => ?_, fun v' d' e1 e2 => ?_⟩
    · exact out p js.reverse x hc him
    · by_cases hjn : j = n
      · subst hjn
        rw [hq] at e1
        cases e1
        rw [List.getElem?_set_self hn] at e2
        cases e2
        refine Rk.mv rm (fun a o z _ => z) hz fun a s z => ?_
        show rcs _ _ (c a) = _
        rw [z]
        exact rcs_in
      · rw [List.getElem?_set_ne (Ne.symm hjn)] at e2
        refine (rs j v' d' hjn e1 e2).mv (fun a o z _ => z) hz fun a s z => ?_
        have := out a (s ++ (j :: js.reverse)) x (by simpa using z) him
        simpa using this
    · have := (List.getElem?_eq_some_iff.mp e2).1
      simp at this
      omega
  · rw [List.getElem?_set_ne (Ne.symm hxi)] at z
    by_cases hxm : x = m
    · subst hxm
      have hlen := (List.getElem?_eq_some_iff.mp em).1
      rw [List.getElem?_set_self hlen] at z
      cases z
    · rw [List.getElem?_set_ne (Ne.symm hxm)] at z
      obtain ⟨v', e1, r'⟩ := h.at_ x k' d' z
      exact ⟨v', e1, r'.mv (fun a o z _ => z) hz fun a s z => out a s x z hxm⟩
theorem updK_ex {y : Kd} : ∀ {k : Kd} {js : List Nat} {x k2 : Kd}, updK k js x = some k2 → ∃ k3, updK k js y = some k3
  | .bw a k, js, x, k2, h => by
    rw [updK_bw] at h
    cases e : updK k js x with
    | none => rw [e] at h; cases h
    | some k3 =>
      obtain ⟨k4, h4⟩ := updK_ex (y := y) e
      exact ⟨.bw a k4, by rw [updK_bw, h4]; rfl⟩
  | .t2 k1 k2', j :: js, x, k2, h => by
    match j, h with
    | 0, h =>
      have h : (updK k1 js x).map (fun k => Kd.t2 k k2') = some k2 := h
      cases e : updK k1 js x with
      | none => rw [e] at h; cases h
      | some k3 =>
        obtain ⟨k4, h4⟩ := updK_ex (y := y) e
        exact ⟨_, (show (updK k1 js y).map (fun k => Kd.t2 k k2') = some (.t2 k4 k2') from by rw [h4]; rfl)⟩
    | 1, h =>
      have h : (updK k2' js x).map (fun k => Kd.t2 k1 k) = some k2 := h
      cases e : updK k2' js x with
      | none => rw [e] at h; cases h
      | some k3 =>
        obtain ⟨k4, h4⟩ := updK_ex (y := y) e
        exact ⟨_, (show (updK k2' js y).map (fun k => Kd.t2 k1 k) = some (.t2 k1 k4) from by rw [h4]; rfl)⟩
    | n + 2, h => cases h
  | .sh, [], x, k2, h => ⟨y, rfl⟩
  | .ls _, [], x, k2, h => ⟨y, rfl⟩
  | .t2 _ _, [], x, k2, h => ⟨y, rfl⟩
  | .t3 _ _ _, [], x, k2, h => ⟨y, rfl⟩
  | .lk _ _, [], x, k2, h => ⟨y, rfl⟩
  | .dc _, [], x, k2, h => ⟨y, rfl⟩
  | .dt, [], x, k2, h => ⟨y, rfl⟩
  | .ob _, [], x, k2, h => ⟨y, rfl⟩
  | .lh _ _ _ _, [], x, k2, h => ⟨y, rfl⟩
  | .sh, _ :: _, x, k2, h => by cases h
  | .ls _, _ :: _, x, k2, h => by cases h
  | .t3 _ _ _, _ :: _, x, k2, h => by cases h
  | .lk _ _, _ :: _, x, k2, h => by cases h
  | .dc _, _ :: _, x, k2, h => by cases h
  | .dt, _ :: _, x, k2, h => by cases h
  | .ob _, _ :: _, x, k2, h => by cases h
  | .lh _ _ _ _, _ :: _, x, k2, h => by cases h
/-- slot i's thing read by another kind at the place, nothing being changed -/
theorem Sr.kind {K : Fr} {Z : Addr → Prop} {H0 H : Hp} {c : Co} {ρ : Env} {σ : L2.St} (h : Sr K Z H0 H c ρ σ) {i : Nat} {js : List Nat} {k1 k2 ka kb : Kd} {d d' : D} (hb : ∀ a q, kb ≠ .bw a q) (e : ρ[i]? = some (some (k1, d))) (es : subK k1 d js = some (ka, d')) (u : updK k1 js kb = some k2)
    (n : ∀ v0 w, σ[i]? = some (some v0) → Rch H v0 js w → Rk K H Z c ka (js.reverse ++ [i]) w d' → Rk K H Z c kb (js.reverse ++ [i]) w d') : Sr K Z H0 H c (ρ.set i (some (k2, d))) σ := by
  refine ⟨by simpa using h.len, fun x k' d2 z => ?_, h.keep, h.new, h.fsh⟩
  by_cases hx : x = i
  · subst hx
    rw [List.getElem?_set_self (List.getElem?_eq_some_iff.mp e).1] at z
    cases z
    obtain ⟨v0, e0, rk⟩ := h.at_ x k1 d e
    obtain ⟨w, h1, h2⟩ := rk.way es
    have r := Rk.replK hb rk es u h1 (n v0 w e0 h1 h2) (fun a o z _ => z) (fun _ z => z) (fun _ _ z _ => z)
    rw [(upd_sub hb (y := d') es u).2.2] at r
    exact ⟨v0, e0, r⟩
  · rw [List.getElem?_set_ne (Ne.symm hx)] at z
    exact h.at_ x k' d2 z
theorem vs_forA {m : Nat} {pl : Pl} {b : List Sm} {tgE iter : Expr} {body : List Stmt} {pos : Pos} (po : PassesOwn (model X.prog X.w) X.A X.env X.xe) (hc : X.calm = true) (hv : PE X iter (VPl X S Wx pl)) (hg : PG X tgE (gOf X.K (.nm m))) (hb : PSs X body (VSs X S Wx b))
    (hs : ∀ x, foldedSetIterable iter X.env x = pure x) : PS X (.For tgE iter body [] pos) (VS X S Wx (.forA m pl b)) := by
  refine PS.imp (ps_for po hc (pi_own hv) hg hb hs) ?_
  rintro D σ H ⟨Z, H0, c, ρ, Dd, sr, cp, w⟩
  unfold wpS at w
  refine ⟨Z, H0, H, c, ρ, _, sr, Same.refl H, fun _ z => z.elim, wpPl.mono (fun i js w w0 k d v e1 e2 hr H1 s1 => ?_) w⟩
  rw [e1] at w
  dsimp only at w
  split at w
  · rename_i ke ds hsub
    obtain ⟨him, uk, w⟩ := w
    have sr1 := sr.ex s1
    obtain ⟨v', e3, rk⟩ := sr1.at_ i k d e1
    rw [e2] at e3
    cases e3
    obtain ⟨w1, h1, h2⟩ := rk.way hsub
    obtain rfl := (hr.ex s1).det h1
    obtain ⟨p, vs, ds', rfl, ed, hcp, hp, hl, rs⟩ := h2
    cases ed
    have w := w p vs
    obtain ⟨kL, uL⟩ := updK_ex (y := .lh p vs ds.length (.ls ke)) uk
    have nb1 : ∀ n a q, Kd.lh p vs n (.ls ke) ≠ .bw a q := fun _ _ _ z => nomatch z
    have nb2 : ∀ a q, Kd.ls (.ls ke) ≠ .bw a q := fun _ _ z => nomatch z
    have sL : ∀ es : List SV.D, subK kL (putD d js (.lst es)) js = some (.lh p vs ds.length (.ls ke), .lst es) := fun es => (upd_sub (nb1 _) (y := .lst es) hsub uL).1
    have pp : ∀ a b, putD (putD d js a) js b = putD d js b := fun a b => (upd_sub (nb1 _) (y := a) hsub uL).2.1 b
    have pd : putD d js (.lst ds) = d := (upd_sub (nb1 _) (y := .lst ds) hsub uL).2.2
    have srL : Sr X.K Z H0 H1 c (ρ.set i (some (kL, putD d js (.lst ds)))) σ := by
      rw [pd]
      refine sr1.kind (nb1 _) e1 hsub uL fun v0 w2 z0 g1 r => ?_
      rw [e2] at z0
      cases z0
      obtain rfl := (hr.ex s1).det g1
      exact ⟨ds, rfl, rfl, hcp, hp, hl, fun j v' d' _ a b => rs j v' d' a b, fun v' d' a b => by
        have := (List.getElem?_eq_some_iff.mp b).1
        omega⟩
    have hi : i < ρ.length := (List.getElem?_eq_some_iff.mp e1).1
    obtain ⟨sr3, s03⟩ := srL.rebase
    have cp3 := cp.up s03 sr.fsh
    refine ⟨p, vs, rfl, SqL.of hp, ?_⟩
    have stand : ∀ {σ' : L2.St} {H' : Hp} {c' : Co} {ρ' : Env} {n : Nat} {es : List SV.D}, Sr X.K Z (less H1 c) H' c' ρ' σ' → (∃ kn, updK k js (.lh p vs n (.ls ke)) = some kn ∧ ρ'[i]? = some (some (kn, putD d js (.lst es)))) → es.length = ds.length →
        ∃ v0, σ'[i]? = some (some v0) ∧ Rch H' v0 js (.ref p) ∧ H' p = some (.lst vs) ∧ ∀ (j : Nat) v' d', j ≠ n → vs[j]? = some v' → es[j]? = some d' → Rk X.K H' Z c' (.ls ke) (j :: (js.reverse ++ [i])) v' d' := fun {σ' H' c' ρ' n es} s z hl2 => by
      obtain ⟨kn, un, z⟩ := z
      obtain ⟨v0, e0, r⟩ := s.at_ i _ _ z
      obtain ⟨w, g1, g2⟩ := r.way (upd_sub (nb1 _) (y := .lst es) hsub un).1
      obtain ⟨es', rfl, ed, h3, h4, h5, h6, _⟩ := g2
      cases ed
      exact ⟨v0, e0, g1, h4, h6⟩
    refine for_it (walk_list (K := X.K) (a := p) (xs := vs)) (Pv := fun n σ' H' => ∃ c' ρ' es, es.length = ds.length ∧ i < ρ'.length ∧ Sr X.K Z (less H1 c) H' c' (ρ'.set i (some (kL, putD d js (.lst es)))) σ' ∧ forAL i m js k d (.ls ke) p vs (fun D' ρ' => wpB' S b D' ρ') (ds.length - n) n es Dd ρ') ⟨c, ρ, ds, rfl, hi, sr3, w⟩ (fun n σ' H' _ h => ?_) ?_ ?_
    · obtain ⟨c', ρ', es, hl2, hi2, s, _⟩ := h
      obtain ⟨v0, _, _, h4, _⟩ := stand s ⟨kL, uL, List.getElem?_set_self hi2⟩ hl2
      exact SqL.of h4
    · rintro n x σ' H2 H3 hlt ⟨c', ρ', es, hl2, hi2, s, w'⟩ ⟨rfl, ex⟩
      have hlt2 : n < ds.length := by omega
      obtain ⟨r, hr2⟩ : ∃ r, ds.length - n = r + 1 := ⟨ds.length - n - 1, by omega⟩
      rw [hr2] at w'
      obtain ⟨v0, _, _, _, rs2⟩ := stand s ⟨kL, uL, List.getElem?_set_self hi2⟩ hl2
      have rn := rs2 n x es[n] (by omega) ex (by simp [show n < es.length by omega])
      obtain ⟨q, _, _, rfl, _⟩ := rn
      obtain ⟨kn, un⟩ := updK_ex (y := .lh p vs n (.ls ke)) uk
      have w2 := w' q kn un
      obtain ⟨c2, s2⟩ := s.take him (hL := by omega) (hn := by omega) (List.getElem?_set_self hi2) (sL es) ex (by rw [updK_upd (nb1 _) uL]; exact un)
      rw [List.set_set, pp] at s2
      have next : ∀ ρ2 σ2 H2 c2, (∃ e', ρ2[m]? = some (some (.bw q (.ls ke), e')) ∧ ρ2[i]? = some (some (kn, putD d js (.lst (es.set n (.hol q))))) ∧ forAL i m js k d (.ls ke) p vs (fun D' ρ' => wpB' S b D' ρ') r (n + 1) (es.set n e') Dd (ρ2.set m none)) → Sr X.K Z (less H1 c) H2 c2 ρ2 σ2 →
          ∃ c' ρ' es, es.length = ds.length ∧ i < ρ'.length ∧ Sr X.K Z (less H1 c) H2 c' (ρ'.set i (some (kL, putD d js (.lst es)))) σ2 ∧ forAL i m js k d (.ls ke) p vs (fun D' ρ' => wpB' S b D' ρ') (ds.length - (n + 1)) (n + 1) es Dd ρ' := fun ρ2 σ2 H2 c2 ⟨e', g1, g2, g3⟩ s => by
        have sn := (upd_sub (nb1 n) (y := .lst (es.set n (.hol q))) hsub un).1
        obtain ⟨c3, s3⟩ := s.back him (n := n) (L := ds.length) (by simp; omega) g2 sn ex g1 (by rw [updK_upd (nb1 _) un]; exact uL) (by simp; omega)
        rw [List.set_set, pp] at s3
        refine ⟨c3, ρ2.set m none, es.set n e', by simpa using hl2, ?_, s3, ?_⟩
        · have := (List.getElem?_eq_some_iff.mp g2).1
          simpa using this
        · rw [show ds.length - (n + 1) = r by omega]
          exact g3
      refine ⟨Z, less H1 c, c2, _, { Dd with nx := fun ρ' => ∃ e', ρ'[m]? = some (some (.bw q (.ls ke), e')) ∧ ρ'[i]? = some (some (kn, putD d js (.lst (es.set n (.hol q))))) ∧ forAL i m js k d (.ls ke) p vs (fun D' ρ' => wpB' S b D' ρ') r (n + 1) (es.set n e') Dd (ρ'.set m none), ct := fun ρ' => ∃ e', ρ'[m]? = some (some (.bw q (.ls ke), e')) ∧ ρ'[i]? = some (some (kn, putD d js (.lst (es.set n (.hol q))))) ∧ forAL i m js k d (.ls ke) p vs (fun D' ρ' => wpB' S b D' ρ') r (n + 1) (es.set n e') Dd (ρ'.set m none), bk := fun _ => False }, s2, ⟨fun ρ2 σ2 H2 c2 z s => next ρ2 σ2 H2 c2 z s, cp3.rt, cp3.ex, fun _ _ _ _ z => z.elim, fun ρ2 σ2 H2 c2 z s => next ρ2 σ2 H2 c2 z s⟩, ?_⟩
      have eg : es[n]? = some (es.getD n .non) := by simp [List.getD, show n < es.length by omega]
      exact w2
    · rintro σ' H' ⟨c', ρ', es, hl2, hi2, s, w'⟩
      rw [show ds.length - vs.length = 0 by omega] at w'
      have w' : Dd.nx (ρ'.set i (some (k, putD d js (.lst es)))) := w'
      have s2 := s.kind (k2 := k) nb2 (List.getElem?_set_self hi2) (sL es) (by rw [updK_upd (nb1 _) uL]; exact uk) fun v0 w2 z0 g1 r => by
        obtain ⟨es', rfl, ed, h3, h4, h5, h6, _⟩ := r
        cases ed
        exact ⟨p, vs, es, rfl, rfl, h3, h4, h5, fun j v' d' a b => h6 j v' d' (by have := (List.getElem?_eq_some_iff.mp b).1; omega) a b⟩
      rw [List.set_set] at s2
      exact cp3.nx _ _ _ _ w' s2
  · exact w.elim
end
end SV

set_option Elab.async false
set_option linter.all false
set_option maxRecDepth 100000
set_option maxHeartbeats 4000000
namespace SV
open PySem PySem.Spec PyProof.Rows L2
/-! ### a loop over a handed list: each element becomes a slot's own -/
abbrev NV : Nat := 555555
def vir (c : Co) (a : Addr) : Prop := ∃ s, c a = some (s ++ [NV])
open Classical in
noncomputable def hidC (c : Co) : Co := fun a => if vir c a then none else c a
open Classical in
noncomputable def mrg (c c' : Co) : Co := fun a => if vir c a then c a else c' a
theorem hid_v {c : Co} {a : Addr} (h : vir c a) : hidC c a = none := if_pos h
theorem hid_n {c : Co} {a : Addr} (h : ¬ vir c a) : hidC c a = c a := if_neg h
theorem hid_ne {c : Co} {a : Addr} (h : hidC c a ≠ none) : ¬ vir c a ∧ c a ≠ none := by
  by_cases z : vir c a
  · exact absurd (hid_v z) h
  · exact ⟨z, by rw [hid_n z] at h; exact h⟩
theorem mrg_v {c c' : Co} {a : Addr} (h : vir c a) : mrg c c' a = c a := if_pos h
theorem mrg_n {c c' : Co} {a : Addr} (h : ¬ vir c a) : mrg c c' a = c' a := if_neg h
theorem vir_ne {c : Co} {a : Addr} (h : vir c a) : c a ≠ none := by
  obtain ⟨s, e⟩ := h
  rw [e]; exact fun z => nomatch z
theorem vir_at {c : Co} {a : Addr} {s : List Nat} {i : Nat} (h : c a = some (s ++ [i])) (hi : i ≠ NV) : ¬ vir c a := by
  rintro ⟨t, e⟩
  rw [h] at e
  have := congrArg List.getLast? (Option.some.inj e)
  simp at this
  exact hi this
section
variable {K : Fr} {Z : Addr → Prop} {H0 H H' : Hp} {c c' : Co} {ρ ρ' : Env} {σ σ' : L2.St}
theorem Sr.takeV (h : Sr K Z H0 H c ρ σ) (hl : ρ.length ≤ 500000) {m n : Nat} {v : V} {d : D} {ke : Kd} (rk : Rk K H Z c ke [n, NV] v d) : Sr K Z H0 H (fun a => rcs [n, NV] [m] (c a)) (ρ.set m (some (ke, d))) (σ.set m (some v)) := by
  refine ⟨by simpa using h.len, fun x k' d' z => ?_, h.keep, fun a z => h.new a (rcs_nn z), h.fsh⟩
  have hz : ∀ a, Z a ∧ c a = none → Z a ∧ rcs [n, NV] [m] (c a) = none := fun a z => ⟨z.1, by rw [z.2]; rfl⟩
  have hlx : x < ρ.length := by
    have := (List.getElem?_eq_some_iff.mp z).1
    simpa using this
  by_cases hxm : x = m
  · subst hxm
    rw [List.getElem?_set_self hlx] at z
    cases z
    refine ⟨v, by rw [List.getElem?_set_self (by have := h.len; omega)], rk.mv (fun a o z _ => z) hz fun a s z => ?_⟩
    show rcs _ _ (c a) = _
    rw [z]
    exact rcs_in
  · rw [List.getElem?_set_ne (Ne.symm hxm)] at z
    obtain ⟨v0, e0, r0⟩ := h.at_ x k' d' z
    refine ⟨v0, by rw [List.getElem?_set_ne (Ne.symm hxm)]; exact e0, r0.mv (fun a o z _ => z) hz fun a s z => ?_⟩
    show rcs _ _ (c a) = _
    rw [z]
    refine rcs_out fun hs => ?_
    have : [n] ++ [NV] <:+ s ++ [x] := by simpa using hs
    have := suf_last this
    rw [show NV = 555555 from rfl] at this
    omega
theorem rcs_el {n m j : Nat} {P : List Nat} (hj : j ≠ n) {v : V} {d : D} {ke : Kd} (rk : Rk K H Z c ke (j :: P) v d) : Rk K H Z (fun a => rcs (n :: P) [m] (c a)) ke (j :: P) v d := by
  refine rk.mv (fun a o z _ => z) (fun a z => ⟨z.1, by rw [z.2]; rfl⟩) fun a s z => ?_
  show rcs _ _ (c a) = _
  rw [z]
  exact rcs_out fun hs => hj (suf_app hs).symm
theorem Sr.hide (h : Sr K Z H0 H c ρ σ) (hl : ρ.length ≤ 500000) : Sr K (fun a => Z a ∧ ¬ vir c a) (less H (hidC c)) H (hidC c) ρ σ ∧ Same H0 (less H (hidC c)) := by
  refine ⟨⟨h.len, fun i k d e => ?_, fun a o e => ?_, fun a q => ⟨less_s q, (h.new a (hid_ne q).2).2⟩, fun a q => ?_⟩, fun a o e => ?_⟩
  · obtain ⟨v, e1, r⟩ := h.at_ i k d e
    have hi := (List.getElem?_eq_some_iff.mp e).1
    refine ⟨v, e1, r.mv (fun a o z _ => z) (fun a z => ?_) fun a s z => ?_⟩
    · have nv : ¬ vir c a := fun w => vir_ne w z.2
      exact ⟨⟨z.1, nv⟩, by rw [hid_n nv]; exact z.2⟩
    · rw [hid_n (vir_at z (by show i ≠ 555555; omega))]
      exact z
  · by_cases z : hidC c a = none
    · rw [less_n z] at e; exact e
    · rw [less_s z] at e; cases e
  · by_cases z : hidC c a = none
    · rw [less_n z] at q
      refine ⟨h.fsh a (h.keep.free q), fun w => ?_⟩
      have := (h.new a (vir_ne w)).2
      rw [q] at this
      exact this
    · exact ⟨h.fsh a (h.new a (hid_ne z).2).1, (hid_ne z).1⟩
  · have z : c a = none := by
      cases q : c a with
      | none => rfl
      | some _ =>
        have := (h.new a (by rw [q]; exact fun z => nomatch z)).1
        rw [this] at e; cases e
    have z2 : hidC c a = none := by
      by_cases w : vir c a
      · exact hid_v w
      · rw [hid_n w]; exact z
    rw [less_n z2]; exact h.keep a o e
/-- what is hidden stands as it stood -/
theorem vir_same (h : Sr K Z H0 H c ρ σ) (s : Same (less H (hidC c)) H') {a : Addr} (v : vir c a) : H' a = H a := by
  have m := (h.new a (vir_ne v)).2
  cases q : H a with
  | none => rw [q] at m; exact m.elim
  | some o => exact s a o (by rw [less_n (hid_v v)]; exact q)
theorem nv_of (h : Sr K Z H0 H c ρ σ) {Z2 : Addr → Prop} (h2 : Sr K Z2 (less H (hidC c)) H' c' ρ' σ') {a : Addr} (q : c' a ≠ none) : ¬ vir c a := fun v => by
  have m := (h.new a (vir_ne v)).2
  have := (h2.new a q).1
  rw [less_n (hid_v v)] at this
  rw [this] at m
  exact m
theorem Sr.unhide (h : Sr K Z H0 H c ρ σ) (h2 : Sr K (fun a => Z a ∧ ¬ vir c a) (less H (hidC c)) H' c' ρ' σ') : Sr K Z H0 H' (mrg c c') ρ' σ' := by
  refine ⟨h2.len, fun i k d e => ?_, fun a o e => ?_, fun a q => ?_, h.fsh⟩
  · obtain ⟨v, e1, r⟩ := h2.at_ i k d e
    refine ⟨v, e1, r.mv (fun a o z _ => z) (fun a z => ⟨z.1.1, by rw [mrg_n z.1.2]; exact z.2⟩) fun a s z => ?_⟩
    rw [mrg_n (nv_of h h2 (by rw [z]; exact fun z => nomatch z))]
    exact z
  · have z : c a = none := by
      cases q : c a with
      | none => rfl
      | some _ =>
        have := (h.new a (by rw [q]; exact fun z => nomatch z)).1
        rw [this] at e; cases e
    refine h2.keep a o ?_
    rw [less_n (by rw [hid_n fun w => vir_ne w z]; exact z)]
    exact h.keep a o e
  · by_cases w : vir c a
    · refine ⟨(h.new a (vir_ne w)).1, ?_⟩
      rw [vir_same h h2.keep w]
      exact (h.new a (vir_ne w)).2
    · rw [mrg_n w] at q
      obtain ⟨q1, q2⟩ := h2.new a q
      refine ⟨?_, q2⟩
      by_cases z : hidC c a = none
      · rw [less_n z] at q1
        exact h.keep.free q1
      · exact (h.new a (hid_ne z).2).1
theorem Rk.keepV (h : Sr K Z H0 H c ρ σ) (h2 : Sr K (fun a => Z a ∧ ¬ vir c a) (less H (hidC c)) H' c' ρ' σ') {j : Nat} {v : V} {d : D} {ke : Kd} (rk : Rk K H Z c ke [j, NV] v d) : Rk K H' Z (mrg c c') ke [j, NV] v d := by
  refine rk.domS.mv (fun a o e z => ?_) (fun a z => ?_) fun a s z => ?_
  · have hn : hidC c a = none := by
      rcases z with z | ⟨s, z⟩ | z
      · by_cases w : vir c a
        · exact hid_v w
        · rw [hid_n w]; exact z.2
      · exact hid_v ⟨s ++ [j], by simpa using z⟩
      · by_cases w : vir c a
        · exact hid_v w
        · rw [hid_n w]
          cases q : c a with
          | none => rfl
          | some _ =>
            have := (h.new a (by rw [q]; exact fun z => nomatch z)).2
            rw [e] at this
            exact absurd this z
    exact h2.keep a o (by rw [less_n hn]; exact e)
  · obtain ⟨⟨z1, z2⟩, z3⟩ := z
    have nv : ¬ vir c a := fun w => vir_ne w z3
    refine ⟨z1, ?_⟩
    rw [mrg_n nv]
    cases q : c' a with
    | none => rfl
    | some _ =>
      have := (h2.new a (by rw [q]; exact fun z => nomatch z)).1
      rw [less_n (by rw [hid_n nv]; exact z3)] at this
      exact absurd this z2
  · rw [mrg_v ⟨s ++ [j], by simpa using z⟩]
    exact z
theorem Sr.downZ {Z2 : Addr → Prop} {B : Hp} (h : Sr K Z2 B H c ρ σ) (hz : ∀ a, Z2 a → Z a) (s : Same H0 B) (f : Fsh H0 Z) : Sr K Z H0 H c ρ σ :=
  ⟨h.len, fun i k d e => by
    obtain ⟨v, e1, r⟩ := h.at_ i k d e
    exact ⟨v, e1, r.mv (fun a o z _ => z) (fun a z => ⟨hz a z.1, z.2⟩) fun a s z => z⟩, s.trans h.keep, fun a q => ⟨s.free (h.new a q).1, (h.new a q).2⟩, f⟩
end
section
variable {X : Cx} {S : Sg} {Wx : WX} {N : List Str} {sc : Scope} {ht : Bool}
theorem Cp.upZ {Z Z2 : Addr → Prop} {H0 B : Hp} {D : Ends} {Dd : Ed} (h : Cp X Wx Z H0 D Dd) (hz : ∀ a, Z2 a → Z a) (s : Same H0 B) (f : Fsh H0 Z) : Cp X Wx Z2 B D Dd :=
  ⟨fun ρ σ H c w sr => h.nx ρ σ H c w (sr.downZ hz s f), fun k d v H c w s' n r => h.rt k d v H c w (s.trans s') (fun a q => ⟨s.free (n a q).1, (n a q).2⟩) (r.mv (fun a o z _ => z) (fun a z => ⟨hz a z.1, z.2⟩) fun a s z => z), fun x ρ σ H c cls dd w sr r => h.ex x ρ σ H c cls dd w (sr.downZ hz s f) r,
    fun ρ σ H c w sr => h.bk ρ σ H c w (sr.downZ hz s f), fun ρ σ H c w sr => h.ct ρ σ H c w (sr.downZ hz s f)⟩
theorem vs_forM {m : Nat} {o : OE} {b : List Sm} {tgE iter : Expr} {body : List Stmt} {pos : Pos} (po : PassesOwn (model X.prog X.w) X.A X.env X.xe) (hc : X.calm = true) (hv : PE X iter (VO X S Wx o)) (hg : PG X tgE (gOf X.K (.nm m))) (hb : PSs X body (VSs X S Wx b))
    (hs : ∀ x, foldedSetIterable iter X.env x = pure x) : PS X (.For tgE iter body [] pos) (VS X S Wx (.forM m o b)) := by
  refine PS.imp (ps_for po hc (pi_list hv) hg hb hs) ?_
  rintro D σ H ⟨Z, H0, c, ρ, Dd, sr, cp, w⟩
  unfold wpS at w
  obtain ⟨hlen0, w⟩ := w
  refine ⟨Z, H0, H, c, ρ, _, sr, Same.refl H, cp.xw sr, wpO.mono (fun k d f mv hw v H1 s1 ro => ?_) w⟩
  obtain ⟨dj, w1⟩ := hw
  obtain ⟨c1, sr1, rk, _, _⟩ := sr.settle s1 dj ro [NV]
  unfold lsW at w1
  split at w1
  · rename_i ke
    split at w1
    · rename_i es
      obtain ⟨p, vs, es', rfl, ed, hcp, hp, hl, rs⟩ := rk
      cases ed
      refine ⟨p, rfl, ⟨vs, SqL.of hp⟩, ?_⟩
      refine for_it (walk_list (K := X.K) (a := p) (xs := vs)) (Pv := fun n σ' H' => ∃ (cm : Co) (ρ' : Env), Sr X.K Z H0 H' cm ρ' σ' ∧ ρ'.length ≤ 500000 ∧ cm p = some [NV] ∧ H' p = some (.lst vs) ∧ (∀ (j : Nat) v d, n ≤ j → vs[j]? = some v → es[j]? = some d → Rk X.K H' Z cm ke [j, NV] v d) ∧ forML m ke (fun D' ρ' => wpB' S b D' ρ') (es.drop n) Dd ρ')
        ⟨c1, _, sr1, by rw [len_mf]; exact hlen0, hcp, hp, fun j v d _ a b => rs j v d a b, w1⟩ (fun n σ' H' _ h => by
          obtain ⟨_, _, _, _, _, hp', _⟩ := h
          exact SqL.of hp') ?_ ?_
      · rintro n x σ' H2 H3 hlt ⟨cm, ρ', s, hlen, hcm, hp2, rs2, w'⟩ ⟨rfl, ex⟩
        have hlt2 : n < es.length := by omega
        rw [List.drop_eq_getElem_cons hlt2] at w'
        have rn := rs2 n x es[n] (Nat.le_refl n) ex (by simp [hlt2])
        have s2 := s.takeV hlen (m := m) rn
        have hlen2 : (ρ'.set m (some (ke, es[n]))).length ≤ 500000 := by simpa using hlen
        obtain ⟨sB, s0B⟩ := s2.hide hlen2
        have cpB := cp.upZ (Z2 := fun a => Z a ∧ ¬ vir (fun a => rcs [n, NV] [m] (cm a)) a) (fun a z => z.1) s0B sr.fsh
        have next : ∀ ρ2 σ2 H4 c4, (ρ2.length ≤ 500000 ∧ forML m ke (fun D' ρ' => wpB' S b D' ρ') (es.drop (n + 1)) Dd ρ2) → Sr X.K (fun a => Z a ∧ ¬ vir (fun a => rcs [n, NV] [m] (cm a)) a) (less H3 (hidC fun a => rcs [n, NV] [m] (cm a))) H4 c4 ρ2 σ2 →
            ∃ (cm : Co) (ρ' : Env), Sr X.K Z H0 H4 cm ρ' σ2 ∧ ρ'.length ≤ 500000 ∧ cm p = some [NV] ∧ H4 p = some (.lst vs) ∧ (∀ (j : Nat) v d, n + 1 ≤ j → vs[j]? = some v → es[j]? = some d → Rk X.K H4 Z cm ke [j, NV] v d) ∧ forML m ke (fun D' ρ' => wpB' S b D' ρ') (es.drop (n + 1)) Dd ρ' := fun ρ2 σ2 H4 c4 w4 s4 => by
          have cp2 : (fun a => rcs [n, NV] [m] (cm a)) p = some [NV] := by
            show rcs _ _ (cm p) = _
            rw [hcm]
            refine rcs_out fun hs => ?_
            have := hs.length_le
            simp at this
          have vp : vir (fun a => rcs [n, NV] [m] (cm a)) p := ⟨[], by simpa using cp2⟩
          refine ⟨_, ρ2, s2.unhide s4, w4.1, by rw [mrg_v vp]; exact cp2, by rw [vir_same s2 s4.keep vp]; exact hp2, fun j v d hj a b => ?_, w4.2⟩
          exact Rk.keepV s2 s4 (rcs_el (by omega) (rs2 j v d (by omega) a b))
        exact ⟨_, _, _, _, { Dd with nx := fun ρ' => ρ'.length ≤ 500000 ∧ forML m ke (fun D' ρ' => wpB' S b D' ρ') (es.drop (n + 1)) Dd ρ', ct := fun ρ' => ρ'.length ≤ 500000 ∧ forML m ke (fun D' ρ' => wpB' S b D' ρ') (es.drop (n + 1)) Dd ρ', bk := Dd.nx }, sB, ⟨fun ρ2 σ2 H4 c4 z s => next ρ2 σ2 H4 c4 z s, cpB.rt, cpB.ex, cpB.nx, fun ρ2 σ2 H4 c4 z s => next ρ2 σ2 H4 c4 z s⟩, w'⟩
      · rintro σ' H' ⟨cm, ρ', s, hlen, hcm, hp2, rs2, w'⟩
        rw [List.drop_eq_nil_of_le (by omega)] at w'
        exact cp.nx _ _ _ _ w' s
    · exact w1.elim
  · exact w1.elim
theorem Rk.plcK {K : Fr} {H : Hp} {Z : Addr → Prop} {c : Co} {ds : List SV.D} {ke : Kd} {js : List Nat} {k : Kd} {pos : List Nat} {v : V} {d : SV.D} (r : Rk K H Z c k pos v d) (e : subK k d js = some (.ls ke, .lst ds)) :
    ∃ (p : Addr) (vs : List V), Rch H v js (.ref p) ∧ c p = some (js.reverse ++ pos) ∧ H p = some (.lst vs) ∧ vs.length = ds.length ∧ (∀ (j : Nat) v d, vs[j]? = some v → ds[j]? = some d → Rk K H Z c ke (j :: (js.reverse ++ pos)) v d) ∧
      ∀ (vs' : List V) (ds' : List SV.D), vs'.length = ds'.length → (∀ (j : Nat) v d, vs'[j]? = some v → ds'[j]? = some d → Rk K (upd H p (.lst vs')) Z c ke (j :: (js.reverse ++ pos)) v d) → Rk K (upd H p (.lst vs')) Z c k pos v (putD d js (.lst ds')) := by
  obtain ⟨w, h1, h2⟩ := r.way e
  obtain ⟨p, vs, ds0, rfl, ed, hc, hp, hl, rs⟩ := h2
  cases ed
  refine ⟨p, vs, h1, hc, hp, hl, rs, fun vs' ds' hl' q => ?_⟩
  refine Rk.repl r e h1 ⟨p, vs', ds', rfl, rfl, hc, upd_same, hl', q⟩ (fun a o h3 z => ?_) (fun _ z => z) (fun _ _ z _ => z)
  have np : a ≠ p := by
    rintro rfl
    rcases z with z | ⟨s, _, z⟩ | z
    · rw [hc] at z; exact nomatch z.2
    · exact z [] (by simpa using hc)
    · rw [hp] at h3
      cases h3
      exact z trivial
  rw [upd_ne np]; exact h3
theorem Sr.putPK {K : Fr} {Z : Addr → Prop} {H0 H : Hp} {c : Co} {ρ : Env} {σ : L2.St} (h : Sr K Z H0 H c ρ σ) {i : Nat} {js : List Nat} {k ke : Kd} {d : SV.D} {ds : List SV.D} (e : ρ[i]? = some (some (k, d))) (hs : subK k d js = some (.ls ke, .lst ds)) :
    ∃ (v0 : V) (p : Addr) (vs : List V), σ[i]? = some (some v0) ∧ Rch H v0 js (.ref p) ∧ H p = some (.lst vs) ∧ vs.length = ds.length ∧ (∀ (j : Nat) v d, vs[j]? = some v → ds[j]? = some d → Rk K H Z c ke (j :: (js.reverse ++ [i])) v d) ∧
      ∀ (vs' : List V) (ds' : List SV.D), vs'.length = ds'.length → (∀ (j : Nat) v d, vs'[j]? = some v → ds'[j]? = some d → Rk K H Z c ke (j :: (js.reverse ++ [i])) v d) → Sr K Z H0 (upd H p (.lst vs')) c (ρ.set i (some (k, putD d js (.lst ds')))) σ := by
  obtain ⟨v0, e0, rk⟩ := h.at_ i k d e
  obtain ⟨p, vs, h1, h2, h3, h4, h6, h5⟩ := rk.plcK hs
  have cp : c p ≠ none := by rw [h2]; exact fun z => nomatch z
  refine ⟨v0, p, vs, e0, h1, h3, h4, h6, fun vs' ds' hl' r => ⟨by simpa using h.len, fun j k' d' q => ?_, fun a o q => ?_, fun a q => ?_, h.fsh⟩⟩
  · by_cases hj : j = i
    · subst hj
      have hl := (List.getElem?_eq_some_iff.mp e).1
      rw [List.getElem?_set_self hl] at q
      cases q
      refine ⟨v0, e0, h5 vs' ds' hl' fun n v d a b => (r n v d a b).mv (fun a o q z => ?_) (fun _ z => z) (fun _ _ z => z)⟩
      have np : a ≠ p := by
        rintro rfl
        rcases z with z | ⟨s, z⟩ | z
        · exact cp z.2
        · rw [h2] at z
          have := congrArg List.length (Option.some.inj z)
          simp at this
          omega
        · rw [h3] at q
          cases q
          exact z trivial
      rw [upd_ne np]; exact q
    · rw [List.getElem?_set_ne (Ne.symm hj)] at q
      obtain ⟨v', e1, r'⟩ := h.at_ j k' d' q
      refine ⟨v', e1, r'.mv (fun a o q z => ?_) (fun _ z => z) (fun _ _ z => z)⟩
      have np : a ≠ p := by
        rintro rfl
        rcases z with z | ⟨s, z⟩ | z
        · exact cp z.2
        · rw [h2] at z
          have := congrArg List.getLast? (Option.some.inj z)
          simp at this
          exact hj this.symm
        · rw [h3] at q
          cases q
          exact z trivial
      rw [upd_ne np]; exact q
  · have np : a ≠ p := by
      rintro rfl
      have := (h.new _ cp).1
      rw [this] at q
      cases q
    rw [upd_ne np]; exact h.keep a o q
  · refine ⟨(h.new a q).1, ?_⟩
    by_cases np : a = p
    · subst np
      rw [upd_same]; trivial
    · rw [upd_ne np]; exact (h.new a q).2
theorem tgtK.un {ρ : Env} {i : Nat} {js : List Nat} {Q : Kd → SV.D → Kd → List SV.D → Prop} {k : Kd} {d : SV.D} (e : ρ[i]? = some (some (k, d))) (h : tgtK ρ i js Q) : ∃ ke ds, subK k d js = some (.ls ke, .lst ds) ∧ Q k d ke ds := by
  unfold tgtK at h
  rw [e] at h
  dsimp only at h
  split at h
  · rename_i ke ds hs
    exact ⟨ke, ds, hs, h⟩
  · exact h.elim
theorem vs_mutK {pl : Pl} {o : OE} : ∀ D σ H, VS X S Wx (.mutK pl o) D σ H → tDrop (tBM X.K "list" rAppend (VPl X S Wx pl) (tCons (VO X S Wx o) tNil)) D σ H := by
  rintro D σ H ⟨Z, H0, c, ρ, Dd, sr, cp, w⟩
  unfold wpS at w
  refine ⟨Z, H0, H, c, ρ, _, sr, Same.refl H, cp.xw sr, wpPl.mono (fun i js h w0 k d v e1 e2 hr H1 s1 => ?_) w⟩
  obtain ⟨ke, ds, hs, q⟩ := tgtK.un e1 h
  obtain ⟨v0, p, vs, g1, g2, g3, g4, _, g5⟩ := (sr.ex s1).putPK e1 hs
  rw [e2] at g1
  cases g1
  obtain rfl := (hr.ex s1).det g2
  refine ⟨.inl ⟨rfl, vs, SqL.of g3⟩, Z, H0, H1, c, ρ, _, sr.ex s1, Same.refl H1, (cp.xw sr).ex s1, wpO.mono (fun k2 d2 f m hq v2 H2 s2 ro => ?_) q⟩
  obtain ⟨dj, di, hz, rfl, q9⟩ := hq
  obtain ⟨c', sr', rk, _, _⟩ := (sr.ex s1).settle s2 dj ro (ds.length :: (js.reverse ++ [i]))
  obtain ⟨v0', p', vs', k1, k2', k3, k4, k6, k5⟩ := sr'.putPK (by rw [own2G di]; exact e1) hs
  rw [e2] at k1
  cases k1
  have ep := (g2.ex s2).det k2'
  cases ep
  refine ⟨p, vs', v2, rfl, rfl, k3, by rw [k4]; exact hz, cp.nx _ _ _ _ q9 (k5 _ _ (by simp [k4]) fun j v' d' a b => ?_)⟩
  by_cases hj : j < ds.length
  · rw [List.getElem?_append_left (by omega)] at a
    rw [List.getElem?_append_left hj] at b
    exact k6 j v' d' a b
  · have hj2 : j = ds.length := by
      have := (List.getElem?_eq_some_iff.mp b).1
      simp at this
      omega
    subst hj2
    rw [← k4] at a
    simp at a b
    subst a; subst b
    exact rk
/-! ### a list with a lent element -/
theorem Sr.kindAt {K : Fr} {Z : Addr → Prop} {H0 H : Hp} {c : Co} {ρ : Env} {σ : L2.St} (h : Sr K Z H0 H c ρ σ) {i : Nat} {k k2 : Kd} {d d2 : SV.D} (e : ρ[i]? = some (some (k, d))) (f : ∀ v, σ[i]? = some (some v) → Rk K H Z c k [i] v d → Rk K H Z c k2 [i] v d2) : Sr K Z H0 H c (ρ.set i (some (k2, d2))) σ := by
  refine ⟨by simpa using h.len, fun x k' d' z => ?_, h.keep, h.new, h.fsh⟩
  have hi := (List.getElem?_eq_some_iff.mp e).1
  by_cases hx : x = i
  · subst hx
    rw [List.getElem?_set_self hi] at z
    cases z
    obtain ⟨v, h1, h2⟩ := h.at_ x _ _ e
    exact ⟨v, h1, f v h1 h2⟩
  · rw [List.getElem?_set_ne (Ne.symm hx)] at z
    exact h.at_ x k' d' z
theorem asg_H {X : Cx} {Wx : WX} (k : Kx X S N sc ht) (hf : ∀ x, X.fn x = true) {i j : Nat} {x y : Str} {py pz lp pos : Pos} (hj : N[j]? = some x) (hl : locC sc x = true) (he : PE X (.Name y pz) (tVar i)) :
    PS X (.Assign [.Name x py] (.List [.Name y pz] lp) pos) (VS X S Wx (.asgH j i)) := by
  obtain ⟨l1, l2⟩ := k.loC hf x hl
  refine PS.imp (ps_set (i := j) k.nd (by rw [k.hn]; exact hj) l1 (pe_lst (pa_cons he pa_nil (star_of rfl))) (noSwap rfl) l2) ?_
  rintro D σ H ⟨Z, H0, c, ρ, Dd, sr, cp, w⟩
  unfold wpS at w
  split at w
  · rename_i k1 d e
    obtain ⟨hij, w⟩ := w
    obtain ⟨v, hσ, rk⟩ := sr.at_ i _ _ e
    obtain ⟨q, vs, ds, rfl, rfl, hcq, hq, hlq, rsq⟩ := id rk
    refine ⟨.ref q, hσ, by show 1 ≤ sizeLine; rw [sizeLine_eq]; decide, fun p hp => ?_⟩
    have srb : Sr X.K Z H0 H c (ρ.set i (some (.bw q (.ls k1), .lst ds))) σ := sr.kindAt e fun v h1 r => by
      rw [hσ] at h1
      cases h1
      exact ⟨rfl, r⟩
    have e2 := same_new (o := HO.lst [.ref q]) hp
    obtain ⟨c', sr', rk', _, _⟩ := srb.settle (f := []) (m := []) e2 (by unfold disj; simp) (k := .lh p [.ref q] 0 (.ls k1)) (v := .ref p) (d := .lst [.hol q]) ⟨fun a => if a = p then some [0] else none, fun a z => .inl (by
      by_cases h : a = p
      · subst h
        exact ⟨hp, mut_lst upd_same⟩
      · simp [h] at z), [.hol q], rfl, rfl, by simp, upd_same, rfl, fun j v' d' hj a b => by
      have hj0 := (List.getElem?_eq_some_iff.mp a).1
      exact absurd hj0 (by show ¬ j < 1; omega), fun v' d' a b => by
      cases a; cases b
      exact ⟨q, rfl, rfl⟩⟩ [j]
    rw [mvE_nil] at sr'
    have ef : ∀ ρ : Env, fzE [] ρ = ρ := fun ρ => by
      refine List.ext_getElem? fun n => ?_
      rw [fzE_at]
      cases ρ[n]? <;> simp
    rw [ef] at sr'
    exact cp.nx _ _ _ c' (w p q) (sr'.setK rk')
  · exact w.elim
theorem lh_up {K : Fr} {Z : Addr → Prop} {H : Hp} {c : Co} {p : Addr} {u : HO} {j : Nat} (hc : c p = some [j]) (mp : Mut (H p)) {m : Nat} {k : Kd} {v : V} {d : SV.D} (r : Rk K H Z c k [m, j] v d) : Rk K (upd H p u) Z c k [m, j] v d := by
  refine r.mv (fun a o q z => ?_) (fun _ z => z) (fun _ _ z => z)
  have np : a ≠ p := by
    rintro rfl
    rcases z with z | ⟨s, z⟩ | z
    · rw [hc] at z; exact nomatch z.2
    · rw [hc] at z
      have := congrArg List.length (Option.some.inj z)
      simp at this
    · rw [q] at mp
      exact z mp
  rw [upd_ne np]; exact q
theorem vs_appH {j : Nat} {o : OE} : ∀ D σ H, VS X S Wx (.appH j o) D σ H → tDrop (tBM X.K "list" rAppend (tVar j) (tCons (VO X S Wx o) tNil)) D σ H := by
  rintro D σ H ⟨Z, H0, c, ρ, Dd, sr, cp, w⟩
  unfold wpS at w
  split at w
  · rename_i p vs n k ds e
    have hi := (List.getElem?_eq_some_iff.mp e).1
    obtain ⟨v0, hσ, ds', rfl, ed, hc, hp, hl, rs, r0⟩ := sr.at_ j _ _ e
    cases ed
    refine ⟨.ref p, hσ, .inl ⟨rfl, vs, SqL.of hp⟩, ?_⟩
    refine ⟨Z, H0, H, c, ρ, _, sr, Same.refl H, cp.xw sr, wpO.mono (fun k2 d f m hq v H' s ro => ?_) w⟩
    obtain ⟨dj, di, hz, hn, rfl, q9⟩ := hq
    obtain ⟨c', sr', rk, _, _⟩ := sr.settle s dj ro [ds.length, j]
    have e' : (mvE m (fzE f ρ))[j]? = some (some (.lh p vs n k2, .lst ds)) := by rw [own2G di]; exact e
    obtain ⟨v0', hσ', ds2, h0, ed, hc', hp', hl', rs', r0'⟩ := sr'.at_ j _ _ e'
    cases ed
    have mp : Mut (H' p) := mut_lst hp'
    refine ⟨p, vs, v, rfl, rfl, hp', by rw [hl']; exact hz, cp.nx _ _ _ c' (q9 v) (sr'.putH hσ (by rw [len_mf]; exact hi) hc' mp trivial ⟨_, rfl, rfl, hc', upd_same, by simp [hl'], fun m' v' d' hm a b => ?_, fun v' d' a b => ?_⟩)⟩
    · by_cases hj : m' < ds.length
      · rw [List.getElem?_append_left (by omega)] at a
        rw [List.getElem?_append_left hj] at b
        exact lh_up hc' mp (rs' m' v' d' hm a b)
      · have hj2 : m' = ds.length := by
          have := (List.getElem?_eq_some_iff.mp b).1
          simp at this
          omega
        subst hj2
        rw [← hl'] at a
        simp at a b
        subst a; subst b
        exact lh_up hc' mp rk
    · rw [List.getElem?_append_left (by omega)] at a
      rw [List.getElem?_append_left hn] at b
      exact r0' v' d' a b
  · exact w.elim
theorem asg_tkO {X : Cx} {Wx : WX} (k : Kx X S N sc ht) (hf : ∀ x, X.fn x = true) {m l : Nat} {ix : E} {x y : Str} {z : Expr} {py pz lp pos : Pos} (hj : N[m]? = some x) (hl : locC sc x = true) (he : PE X (.Name y pz) (tVar l)) (hx : PE X z (VE X S W0 ix)) (hp : PlainIx z) :
    PS X (.Assign [.Name x py] (.Subscript (.Name y pz) z lp) pos) (VS X S Wx (.tkO m l ix)) := by
  obtain ⟨l1, l2⟩ := k.loC hf x hl
  refine PS.imp (ps_set (i := m) k.nd (by rw [k.hn]; exact hj) l1 (pe_ix ix_seq he hx hp) (noSwap rfl) l2) ?_
  rintro D σ H ⟨Z, H0, c, ρ, Dd, sr, cp, w⟩
  unfold wpS at w
  split at w
  · rename_i k1 ds e
    obtain ⟨hlm, w⟩ := w
    obtain ⟨p, vs, hσ, hc, hp0, hl0, rs, hi⟩ := sr.own e
    refine ⟨.ref p, hσ, Pc Z c, ρ, _, sr.sv, fun _ z => z.elim, wpE.mono (fun yd hy v1 H1 s1 r1 _ => ?_) w⟩
    cases yd <;> simp only [intW] at hy
    rename_i i0 tt
    clear tt
    cases r1
    obtain ⟨n, hn, hq⟩ := hy
    have hnl : n < ds.length := (ixN_seq hn).2.1
    have sr1 := sr.ex s1
    obtain ⟨q, vs2, ds2, rv, _⟩ := rs n vs[n] ds[n] (by simp [hl0, hnl]) (by simp [hnl])
    have eq : vs[n]? = some (.ref q) := by rw [List.getElem?_eq_getElem (by omega), rv]
    have ea : atI vs i0 = some (.ref q) := by
      unfold atI
      rw [hl0, hn]
      exact eq
    refine .inl ⟨p, vs, i0, .ref q, rfl, rfl, SqL.of (s1 p _ hp0), ea, ?_⟩
    have srL : Sr X.K Z H0 H1 c (ρ.set l (some (.lh p vs ds.length (.ls k1), .lst ds))) σ := sr1.kindAt e fun v h1 r => by
      obtain ⟨p', vs', ds', rfl, ed, g1, g2, g3, g4⟩ := r
      rw [hσ] at h1
      cases h1
      cases ed
      have : vs' = vs := by
        have := s1 p _ hp0
        rw [g2] at this
        cases this; rfl
      subst this
      exact ⟨ds, rfl, rfl, g1, g2, g3, fun j v' d' _ a b => g4 j v' d' a b, fun v' d' a b => by
        have := (List.getElem?_eq_some_iff.mp b).1
        omega⟩
    obtain ⟨c2, s2⟩ := srL.take hlm (js := []) (kn := .lh p vs n (.ls k1)) (hL := Nat.le_refl _) (hn := hnl) (List.getElem?_set_self hi) rfl eq rfl
    rw [List.set_set] at s2
    exact cp.nx _ _ _ c2 (hq p vs q) s2
  · exact w.elim
theorem vs_setH {l : Nat} {ix : E} {o : OE} : ∀ D σ H, VS X S Wx (.setH l ix o) D σ H → VO X S Wx o σ H fun x H1 => gSub (tVar l) (VE X S W0 ix) rSetL x σ H1 D.nx := by
  rintro D σ H ⟨Z, H0, c, ρ, Dd, sr, cp, w⟩
  unfold wpS at w
  split at w
  · rename_i p vs n k ds e
    have hi := (List.getElem?_eq_some_iff.mp e).1
    obtain ⟨v0, hσ, ds', rfl, ed, hc, hp, hl, rs, r0⟩ := sr.at_ l _ _ e
    cases ed
    refine ⟨Z, H0, H, c, ρ, _, sr, Same.refl H, cp.xw sr, wpO.mono (fun k2 d f m w1 v H' s ro => ?_) w⟩
    refine ⟨.ref p, hσ, ?_⟩
    refine ⟨Pc Z c, ρ, _, (sr.ex s).sv, fun _ z => z.elim, wpE.mono (fun y hy v2 H2 s2 r2 _ => ?_) w1⟩
    cases y with
    | int j =>
      obtain ⟨dj, di, hn, rfl, q⟩ := (show _ ∧ _ ∧ _ ∧ _ ∧ _ from hy)
      cases r2
      have ro2 : Ro X.K Z c H H H2 k2 f m v d := by
        obtain ⟨cc, h1, h2⟩ := ro
        exact ⟨cc, fun a q => (h1 a q).imp (fun z => ⟨z.1, mut_ex s2 z.2⟩) id, h2.ex s2⟩
      obtain ⟨c', sr', rk, kp, _⟩ := sr.settle (s.trans s2) dj ro2 [n, l]
      have e' : (mvE m (fzE f ρ))[l]? = some (some (.lh p vs n k2, .lst ds)) := by rw [own2G di]; exact e
      obtain ⟨v0', hσ', ds2, h0, ed, hc', hp', hl', rs', r0'⟩ := sr'.at_ l _ _ e'
      cases ed
      have mp : Mut (H2 p) := mut_lst hp'
      have hnl : n < ds.length := (ixN_seq hn).2.1
      have fin : Sr X.K Z H0 (upd H2 p (.lst (vs.set n v))) c' ((mvE m (fzE f ρ)).set l (some (.ls k2, .lst (ds.set n d)))) σ := by
        refine sr'.putH hσ (by rw [len_mf]; exact hi) hc' mp trivial ⟨p, _, _, rfl, rfl, hc', upd_same, by simp [hl'], fun m' v' d' a b => ?_⟩
        by_cases hm : m' = n
        · subst hm
          rw [List.getElem?_set_self hnl] at b
          rw [List.getElem?_set_self (by omega)] at a
          cases a; cases b
          exact lh_up hc' mp rk
        · rw [List.getElem?_set_ne (Ne.symm hm)] at a b
          exact lh_up hc' mp (rs' m' v' d' hm a b)
      exact ⟨p, vs, j, n, rfl, rfl, hp', by rw [hl']; exact hn, cp.nx _ _ _ c' q fin⟩
    | _ => exact (show False from hy).elim
  · exact w.elim
end
end SV

set_option Elab.async false
set_option linter.all false
set_option maxRecDepth 100000
set_option maxHeartbeats 4000000
namespace SV
open PySem PySem.Spec PyProof.Rows L2
/-! ### a loop over a dict's keys: the dict is given up (nobody writes it any more) -/
theorem key_rp {K : Fr} {H : Hp} {Z : Addr → Prop} {q : Addr} {ks : List Key} (h : H q = some (.tup (ks.map kV))) : Rp K H Z (.ref q) (keyT ks) := by
  refine .tup h (by simp) fun j v d h1 h2 => ?_
  rw [List.getElem?_map] at h1 h2
  cases hk : ks[j]? with
  | none => rw [hk] at h1; cases h1
  | some k =>
    rw [hk] at h1 h2
    cases h1
    cases h2
    cases k with
    | inl i => exact .int i
    | inr s => exact .str s
theorem ps_lockP {X : Cx} {st : Stmt} {t : TS} (h : PS X st t) : PS X st fun D σ H => ∃ d u, H d = some u ∧ Mut (some u) ∧ ∀ od, t D σ (upd H d (.frz od u)) := ⟨fun pins s σ H D I q => by
  obtain ⟨d, u, hd, mu, q⟩ := q
  obtain ⟨od, I1⟩ := I.lock hd mu
  exact h.run pins s σ _ D I1 (q od)⟩
theorem Sr.lockT {K : Fr} {Z : Addr → Prop} {H0 H : Hp} {c : Co} {ρ : Env} {σ : L2.St} (sr : Sr K Z H0 H c ρ σ) {i : Nat} {ds : List (List Key × D)} (e : ρ[i]? = some (some (.dt, .dit ds))) :
    ∃ (p : Addr) (kvs : List (List Key × V)), σ[i]? = some (some (.ref p)) ∧ H p = some (.dT kvs) ∧ kvs.map (·.1) = ds.map (·.1) ∧ ∀ od, ∃ c1 : Co, c1 p = none ∧ Sr K Z H0 (upd H p (.frz od (.dT kvs))) c1 (ρ.set i (some (.sh, .dit ds))) σ := by
  obtain ⟨v, hv, p, kvs, ds', rfl, ed, hp, hH, hk, r⟩ := sr.at_ i _ _ e
  cases ed
  refine ⟨p, kvs, hv, hH, hk, fun od => ⟨fun a => if a = p then none else c a, if_pos rfl, ?_⟩⟩
  have h0 := (sr.new p (by rw [hp]; exact fun z => nomatch z)).1
  have zp : Z p := sr.fsh p h0
  have cz : ∀ a, Z a ∧ c a = none → Z a ∧ (if a = p then none else c a) = none := fun a z => ⟨z.1, by
    split
    · rfl
    · exact z.2⟩
  refine ⟨by simpa using sr.len, fun j k d ej => ?_, fun a o ea => ?_, fun a q => ?_, sr.fsh⟩
  · by_cases hj : j = i
    · subst hj
      have hl : j < ρ.length := (List.getElem?_eq_some_iff.mp e).1
      rw [List.getElem?_set_self hl] at ej
      cases ej
      refine ⟨.ref p, hv, .dit (.inr ⟨od, upd_same⟩) ⟨zp, if_pos rfl⟩ hk fun j v d h1 h2 => ?_⟩
      refine (r j v d h1 h2).mo (fun a o q z => ?_) cz
      have ne : a ≠ p := by
        rintro rfl
        rw [hH] at q
        cases q
        rcases z with z | z
        · rw [hp] at z
          exact nomatch z.2
        · exact z trivial
      rw [upd_ne ne]
      exact q
    · rw [List.getElem?_set_ne (Ne.symm hj)] at ej
      obtain ⟨v, h1, h2⟩ := sr.at_ j k d ej
      refine ⟨v, h1, h2.mv (fun a o q z => ?_) cz fun a s q => ?_⟩
      · have ne : a ≠ p := by
          rintro rfl
          rw [hH] at q
          cases q
          rcases z with z | ⟨s, z⟩ | z
          · rw [hp] at z
            exact nomatch z.2
          · rw [hp] at z
            have := congrArg (fun l : Option (List Nat) => l.bind List.getLast?) z
            simp at this
            exact hj this.symm
          · exact z trivial
        rw [upd_ne ne]
        exact q
      · have ne : a ≠ p := by
          rintro rfl
          rw [hp] at q
          have := congrArg (fun l : Option (List Nat) => l.bind List.getLast?) q
          simp at this
          exact hj this.symm
        rw [if_neg ne]
        exact q
  · have ne : a ≠ p := by
      rintro rfl
      rw [h0] at ea
      cases ea
    rw [upd_ne ne]
    exact sr.keep a o ea
  · have ne : a ≠ p := by
      rintro rfl
      exact q (if_pos rfl)
    rw [if_neg ne] at q
    rw [upd_ne ne]
    exact sr.new a q
section
variable {X : Cx} {S : Sg} {Wx : WX}
theorem vs_forD {tg : Tg} {i : Nat} {b : List Sm} {tgE iter : Expr} {body : List Stmt} {pos : Pos} (po : PassesOwn (model X.prog X.w) X.A X.env X.xe) (hc : X.calm = true) (hv : PE X iter (tVar i)) (hg : PG X tgE (gOf X.K tg)) (hb : PSs X body (VSs X S Wx b))
    (hs : ∀ x, foldedSetIterable iter X.env x = pure x) : PS X (.For tgE iter body [] pos) (VS X S Wx (.forD tg i b)) := by
  refine PS.imp (ps_lockP (ps_for po hc (pi_keys hv) hg hb hs)) ?_
  rintro D σ H ⟨Z, H0, c, ρ, Dd, sr, cp, w⟩
  unfold wpS at w
  split at w
  · rename_i ds e
    obtain ⟨p, kvs, hσ, hH, hk, lk⟩ := sr.lockT e
    refine ⟨p, _, hH, trivial, fun od => ?_⟩
    obtain ⟨c1, hc1, sr1⟩ := lk od
    have hl : kvs.length = ds.length := by have := congrArg List.length hk; simpa using this
    obtain ⟨sr3, s03⟩ := sr1.rebase
    have cp3 := cp.up s03 sr.fsh
    have hp1 : upd H p (.frz od (.dT kvs)) p = some (.frz od (.dT kvs)) := upd_same
    have keep : ∀ {H' : Hp}, Same (less (upd H p (.frz od (.dT kvs))) c1) H' → H' p = some (.frz od (.dT kvs)) := fun s => s p _ (by rw [less_n hc1]; exact hp1)
    refine ⟨.ref p, hσ, p, od, rfl, .inr ⟨kvs, hp1, ?_⟩⟩
    refine for_it (walk_keysT (d := p) (o := od) (kvs := kvs)) (Pv := fun n σ' H' => ∃ c' ρ', Sr X.K Z (less (upd H p (.frz od (.dT kvs))) c1) H' c' ρ' σ' ∧ forW (fun D' ρ' => wpB' S b D' ρ') tg ((ds.map fun e : List Key × SV.D => keyT e.1).drop n) Dd ρ') ⟨c1, _, sr3, w⟩ (fun n σ' H' _ h => keep h.choose_spec.choose_spec.1.keep) ?_ ?_
    · rintro n x σ' H2 H3 hlt ⟨c', ρ', sr', w'⟩ ⟨rfl, kk, v, q, ek, rfl, hq⟩
      have hlt2 : n < (ds.map fun e : List Key × SV.D => keyT e.1).length := by simp; omega
      have hlt3 : n < ds.length := by omega
      have e1 : (ds.map fun e : List Key × SV.D => keyT e.1)[n] = keyT kk := by
        rw [List.getElem_map]
        have h1 : (kvs.map (·.1))[n]? = some kk := by rw [List.getElem?_map, ek] <;> rfl
        rw [hk, List.getElem?_map, List.getElem?_eq_getElem hlt3] at h1
        rw [show ds[n].1 = kk from Option.some.inj h1]
      rw [List.drop_eq_getElem_cons hlt2, e1] at w'
      unfold forW at w'
      refine bind_sr (Zd := fun a => Z a ∧ c' a = none) (fun a z => z) sr' (key_rp hq) w' fun ρ2 σ2 w2 sr2 => ?_
      exact ⟨Z, _, c', ρ2, _, sr2, cp3.loop (M := fun ρ => forW (fun D' ρ' => wpB' S b D' ρ') tg ((ds.map fun e : List Key × SV.D => keyT e.1).drop (n + 1)) Dd ρ) fun ρ σ H c w sr => ⟨c, ρ, sr, w⟩, w2⟩
    · rintro σ' H' ⟨c', ρ', sr', w'⟩
      rw [List.drop_eq_nil_of_le (by simp; omega)] at w'
      exact cp3.nx _ _ _ _ w' sr'
  · exact w.elim
end
end SV

set_option Elab.async false
set_option linter.all false
set_option maxRecDepth 100000
set_option maxHeartbeats 4000000
namespace SV
open PySem PySem.Spec PyProof.Rows L2
/-! ### a try statement of several clauses, each with a name or without -/
structure ClU where
  c : Value
  sl : Option Nat
  ts : Addr → Value → Option Addr → TS
def endU : Option Nat → Ends → Ends
  | none, D => D
  | some i, D => { D with nx := fun s h => D.nx (s.set i none) h, bk := fun s h => D.bk (s.set i none) h, ct := fun s h => D.ct (s.set i none) h }
def slotU : Option Nat → L2.St → Addr → L2.St
  | none, s, _ => s
  | some i, s, a => s.set i (some (.ref a))
def wishU (K : Fr) (Wo : WX) (D : Ends) : List ClU → WX
  | [] => Wo
  | q :: r => fun k d s h => ∃ y, PySem.W.exmOne K k q.c = some y ∧ (y = true → ∀ a, h a = none → q.ts a k d (endU q.sl D) (slotU q.sl s a) h) ∧ (y = false → wishU K Wo D r k d s h)
def NmU (X : Cx) : Option Str → Option Nat → Prop
  | none, none => True
  | some n, some i => X.N[i]? = some n ∧ X.env.kindOf n = some .local
  | _, _ => False
inductive HsU (X : Cx) : List ExceptHandler → List ClU → Prop
  | nil : HsU X [] []
  | cons {x : Str} {nn : Option Str} {q : ClU} {b₀ : Stmt} {su : List Stmt} {np pp : Pos} {hs : List ExceptHandler} {l : List ClU} (hc : Names X x q.c) (hn : NmU X nn q.sl)
      (hq : ∀ (a : Addr) (oe : Obj) (cls : Value) (d : Option Addr) (pn : List (Addr × Obj)), Zc cls d oe → (∃ vs, oe.data = .fields vs) → PSs (X.suite a ((a, oe) :: pn)) (b₀ :: su) (q.ts a cls d)) (r : HsU X hs l) : HsU X (.ExceptHandler (some (.Name x np)) nn (b₀ :: su) pp :: hs) (q :: l)
section
variable {X : Cx} {body : List Stmt} {h₀ : ExceptHandler} {hds : List ExceptHandler} {l : List ClU} {pos : Pos} {tb : WX → TS} {Wo : WX}
theorem ps_tryU (hst : X.stack = X.env :: X.outer) (hfm : X.env.frame = some X.env.locals) (hN : X.N.Nodup) (tk : Takes X Wo)
    (hb : ∀ (W : WX) (pn : List (Addr × Obj)) (xe : Value → Shared → Prop), Takes (X.tr pn xe) W → PassesOwn (model X.prog X.w) X.A X.env xe → PSs (X.tr pn xe) body (tb W)) (hh : HsU X (h₀ :: hds) l) :
    PS X (.Try body (h₀ :: hds) [] [] pos) (fun D σ H => tb (wishU X.K Wo D l) D σ H) := ⟨fun pins s σ H D I wish => by
  have okI := I.ok
  have frs0 : X.A.frames = some (X.env :: X.outer) := okI.frames.trans (by rw [hst])
  refine wpAny_Try_except (wpAny_mono ((hb (wishU X.K Wo D l) (X.pn ++ pins) (fun e s1 => wpAny (model X.prog X.w) X.A (noteFrame e X.env) (fun _ s2 => wpAny (model X.prog X.w) X.A (setFlight e none) (fun _ s3 =>
    wpAny (model X.prog X.w) X.A (handleBy e X.env (h₀ :: hds)) (SP X pins D) X.xe s3) X.xe s2) X.xe s1) (fun u t xx => ?_) PassesOwn.looking).run [] s σ H D (I.toTry _) wish) (fun f s1 hsp => ?_) (fun _ _ he => he))
  · obtain ⟨a, B, sI, pins1, σ1, H1, k, d, rfl, Ja, nb, up, sky, na, os, ag, w⟩ := xx
    have Jb : Inv X pins σ1 H1 sI := Ja.ofTry okI
    have sky1 : Sky B (X.env :: X.outer) a (Zc k d) X.env.locals t.heap := by rw [← hst]; exact sky
    refine (show wpAny (model X.prog X.w) X.A (noteFrame (.ref a) X.env) _ _ _ from Sky.land Zc.steady frs0 hfm sky1 fun g fl upg => ?_)
    have Jc : Inv X pins σ1 H1 { t with heap := g } := Jb.landed nb fl.1 (up.trans upg) os ag
    obtain ⟨oe, vs, he, hz, hd⟩ := fl.there
    have nofr : a ∉ frs (X.env :: X.outer) := fun hm => by
      obtain ⟨_, ob, eo, hnf⟩ := (fl.2.2.1).mem hm
      rw [he] at eo
      cases eo
      exact hnf _ hd
    have nloc : a ≠ X.env.locals := fun z => nofr (List.mem_filterMap.mpr ⟨_, List.mem_cons_self, by rw [hfm, z]⟩)
    have nfs : a ∉ X.fs := fun hm => by
      obtain ⟨e, hme, q⟩ := List.mem_filterMap.mp hm
      exact nofr (List.mem_filterMap.mpr ⟨_, List.mem_cons_of_mem _ hme, q⟩)
    have Sg := Jc.suite he hd na nloc nfs
    have walk : ∀ {cs : List ExceptHandler} {m : List ClU}, HsU X cs m → wishU X.K Wo D m k d σ1 H1 → wpAny (model X.prog X.w) X.A (handleBy (.ref a) X.env cs) (SP X pins D) X.xe { t with heap := g } := fun hk => by
      induction hk with
      | nil =>
        intro w
        obtain ⟨p1, p2, p3, ox, vx, T, oT, tz, hx, hxz, hxd, hx1, hxr⟩ := id fl
        refine wpAny_handleBy_nil ?_
        unfold PySem.passOn
        refine wpAny_bind (wpAny_field hx hxd hx1 ?_)
        rw [if_neg (show ¬ ((Value.ref T == Value.none) = true) from by simp)]
        have over : wpAny (model X.prog X.w) X.A (setFlight (.ref a) X.env.frame) (fun _ s4 => wpAny (model X.prog X.w) X.A (throw (.ref a) : Sem Flow) (SP X pins D) X.xe s4) X.xe { t with heap := g } := by
          rw [hfm]
          exact HandSPX.setFlight_upZ fl fun g4 hg4 up4 => wpAny_throw (tk _ _ ⟨a, B, sI, pins, σ1, H1, k, d, rfl, Jb, nb, (up.trans upg).trans up4, .inr (.inr (by rw [hst]; exact hg4)), na, os, ag, w⟩)
        first
          | exact wpAny_bind (wpAny_pure (wpAny_bind over))
          | exact wpAny_bind over
      | @cons x nn q b₀ su np pp cs m hc hn hq r ih =>
        rintro ⟨y, hy, yes, no⟩
        refine wpAny_handleBy_cons (codeAny_handlers_test ?_) (by intro z; cases z)
        have LM := PySem.W.exm_one (M := model X.prog X.w) (Jc.kIn) (show PySem.W.Looks (model X.prog X.w) g (typeOf (.ref a)) k from fun A Q E s kk q => wpAny_typeOf_ref (kk _ _ he) (by rw [hz.1]; exact q)) hy
        have name : ∀ {Q E : Value → Shared → Prop}, Q q.c { t with heap := g } → wpAny (model X.prog X.w) (X.A.mark (some (.ref a))) (eval (.Name x np) X.env) Q E { t with heap := g } := fun {Q E} z => by
          obtain ⟨n1, n2, n3 | ⟨n3, n4, n5⟩⟩ := hc
          · exact ld_glob (X := X.suite a ((a, oe) :: (X.pn ++ pins))) Sg n1 n3 z n2
          · exact ld_blt (X := X.suite a ((a, oe) :: (X.pn ++ pins))) Sg n1 n3 n4 z n5 n2
        refine name (LM.here ?_)
        cases y with
        | false => exact (show wpAny _ X.A (handleBy (.ref a) X.env cs) _ _ _ from ih (no rfl))
        | true =>
          cases nn with
          | none =>
            cases hsl : q.sl with
            | some i => rw [hsl] at hn; exact hn.elim
            | none =>
              have go := yes rfl a na
              rw [hsl] at go
              refine codeAny_handlers_suite (HandSPX.lands_againZ fl fun g4 fl4 up4 => ?_)
              obtain ⟨o4, v4, he4, hz4, hd4⟩ := fl4.there
              have Jd : Inv X pins σ1 H1 { t with heap := g4 } := Jb.landed nb fl4.1 ((up.trans upg).trans up4) os ag
              have S4 := Jd.suite he4 hd4 na nloc nfs
              refine wpAny_mono ((hq a o4 k d (X.pn ++ pins) hz4 ⟨_, hd4⟩).run [] _ _ H1 _ S4 go) (fun f s6 hsp => ?_) (fun _ _ z => False.elim z)
              cases f with
              | ret u => exact (let ⟨v6, s6', H6, S6, r6, q6⟩ := hsp; ⟨v6, s6', H6, S6.unsuite okI, r6, q6⟩)
              | next => exact (let ⟨s6', H6, S6, q6⟩ := hsp; ⟨s6', H6, S6.unsuite okI, q6⟩)
              | brk => exact (let ⟨s6', H6, S6, q6⟩ := hsp; ⟨s6', H6, S6.unsuite okI, q6⟩)
              | cont => exact (let ⟨s6', H6, S6, q6⟩ := hsp; ⟨s6', H6, S6.unsuite okI, q6⟩)
          | some n =>
            cases hsl : q.sl with
            | none => rw [hsl] at hn; exact hn.elim
            | some i =>
              have go := yes rfl a na
              rw [hsl] at go hn
              obtain ⟨hi, hln⟩ := hn
              refine codeAny_handlers_suite_as (HandSPX.lands_againZ fl fun g4 fl4 up4 => ?_)
              obtain ⟨o4, v4, he4, hz4, hd4⟩ := fl4.there
              have Jd : Inv X pins σ1 H1 { t with heap := g4 } := Jb.landed nb fl4.1 ((up.trans upg).trans up4) os ag
              have S4 := Jd.suite he4 hd4 na nloc nfs
              refine store_ok (X := X.suite a ((a, o4) :: (X.pn ++ pins))) (v := .ref a) S4 hN hi (.inl hln) rfl (fun s5 S5 => wpAny_mono ((hq a o4 k d (X.pn ++ pins) hz4 ⟨_, hd4⟩).run [] s5 _ H1 _ S5 go) (fun f s6 hsp => ?_) (fun _ _ z => False.elim z)) (.inr hln)
              have gone : ∀ {s6' : L2.St} {H6 : Hp} {Q : Shared → Prop}, Inv (X.suite a ((a, o4) :: (X.pn ++ pins))) [] s6' H6 s6 → (∀ s7, Inv X pins (s6'.set i none) H6 s7 → Q s7) → wpAny (model X.prog X.w) X.A (do bindName X.env n .none; unbindBehindTheSuite X.env n pp) (fun _ s7 => Q s7) X.xe s6 := fun S6 hQ => gone_ok (S6.unsuite okI) hN hi hln hQ
              cases f with
              | ret u => exact (let ⟨v6, s6', H6, S6, r6, q6⟩ := hsp; gone S6 fun s7 J7 => ⟨v6, _, H6, J7, r6, q6⟩)
              | next => exact (let ⟨s6', H6, S6, q6⟩ := hsp; gone S6 fun s7 J7 => ⟨_, H6, J7, q6⟩)
              | brk => exact (let ⟨s6', H6, S6, q6⟩ := hsp; gone S6 fun s7 J7 => ⟨_, H6, J7, q6⟩)
              | cont => exact (let ⟨s6', H6, S6, q6⟩ := hsp; gone S6 fun s7 J7 => ⟨_, H6, J7, q6⟩)
    exact walk hh w
  · cases f with
    | ret u => exact (let ⟨v, σ2, H2, J2, r2, q⟩ := hsp; ⟨v, σ2, H2, J2.ofTry okI, r2, q⟩)
    | next => exact (let ⟨σ2, H2, J2, q⟩ := hsp; wpAny_execs_nil ⟨σ2, H2, J2.ofTry okI, q⟩)
    | brk => exact (let ⟨σ2, H2, J2, q⟩ := hsp; ⟨σ2, H2, J2.ofTry okI, q⟩)
    | cont => exact (let ⟨σ2, H2, J2, q⟩ := hsp; ⟨σ2, H2, J2.ofTry okI, q⟩)⟩
end
/-- what the clauses are -/
def clU (X : Cx) (S : Sg) : List Sm → List ClU
  | [] => []
  | .hnd C o h :: r => ⟨(X.mg C).getD .none, o, fun a cls d D σ H => ∃ nm Ca, X.mg nm = some (.ref Ca) ∧ cls = .ref Ca ∧ VSs X (hotS S a nm d) W0 h D σ H⟩ :: clU X S r
  | _ :: r => clU X S r
section
variable {X : Cx} {S : Sg} {Wx : WX}
theorem wish_of (hcls : ∀ x y b, S.sub x y = some b → ClsF X x y b) {Z : Addr → Prop} {H0 : Hp} {D : Ends} {Dd : Ed} (cp : Cp X Wx Z H0 D Dd) {x : Exc} {ρ : Env} {σ : L2.St} {H : Hp} {c : Co} {cls : Value} {dd : Option Addr} (sr : Sr X.K Z H0 H c ρ σ) (r : ExcR X.K X.mg H cls dd x) :
    ∀ hs : List Sm, allC S hs → wpHs S hs Dd x ρ → wishU X.K Wx D (clU X S hs) cls dd σ H
  | [], _, w => by
    unfold wpHs at w
    exact cp.ex x ρ σ H c cls dd w sr r
  | s :: hs, hc, w => by
    unfold allC at hc
    cases s <;> first | exact hc.1.elim | skip
    rename_i C o h
    unfold wpHs at w
    obtain ⟨cr, hm, _⟩ := hcls _ _ _ hc.1
    obtain ⟨bb, e, hy, hn⟩ := exW.un (X := X) (Wx := Wx) hcls hm r w
    refine ⟨bb, by rw [show (X.mg C).getD .none = .ref cr by rw [hm] <;> rfl]; exact e, fun hb a na => ?_, fun hb => wish_of hcls cp sr r hs hc.2 (hn hb)⟩
    obtain ⟨Cx, hm2, ec, dx, pay, hp, y⟩ := hy hb a
    cases o with
    | none => exact ⟨x.name, Cx, hm2, ec, Z, H0, c, _, edU none Dd, sr, ⟨cp.nx, cp.rt, fun _ _ _ _ _ _ _ w => (show False from w).elim, cp.bk, cp.ct⟩, y⟩
    | some i =>
      refine ⟨x.name, Cx, hm2, ec, Z, H0, c, _, edU (some i) Dd, sr.setK (k := .sh) (show Rp _ _ _ _ _ from .exo hp), ?_, y⟩
      exact ⟨fun ρ σ H c w sr => cp.nx _ _ _ _ w (sr.drop1 i), cp.rt, fun _ _ _ _ _ _ _ w => (show False from w).elim, fun ρ σ H c w sr => cp.bk _ _ _ _ w (sr.drop1 i), fun ρ σ H c w sr => cp.ct _ _ _ _ w (sr.drop1 i)⟩
theorem vs_tryC {b hs : List Sm} {body : List Stmt} {h₀ : ExceptHandler} {hds : List ExceptHandler} {pos : Pos} (hst : X.stack = X.env :: X.outer) (hfm : X.env.frame = some X.env.locals) (hN : X.N.Nodup) (tk : Takes X Wx) (hcls : ∀ x y b, S.sub x y = some b → ClsF X x y b)
    (hb : ∀ (W : WX) (pn : List (Addr × Obj)) (xe : Value → Shared → Prop), Takes (X.tr pn xe) W → PassesOwn (model X.prog X.w) X.A X.env xe → PSs (X.tr pn xe) body (VSs (X.tr pn xe) S W b)) (hh : allC S hs → HsU X (h₀ :: hds) (clU X S hs)) :
    PS X (.Try body (h₀ :: hds) [] [] pos) (VS X S Wx (.tryC b hs)) := by
  by_cases ac : allC S hs
  · refine PS.imp (ps_tryU (tb := fun W => VSs X S W b) hst hfm hN tk (fun W pn xe t po => PSs.imp (hb W pn xe t po) VSs.tr) (hh ac)) ?_
    rintro D σ H ⟨Z, H0, c, ρ, Dd, sr, cp, w⟩
    unfold wpS at w
    exact ⟨Z, H0, c, ρ, { Dd with ex := fun x ρ' => wpHs S hs Dd x ρ' }, sr, ⟨cp.nx, cp.rt, fun x ρ' σ' H' c' cls dd w' sr' r' => wish_of hcls cp sr' r' hs ac w', cp.bk, cp.ct⟩, w.2⟩
  · refine ⟨fun pins s σ H D I q => ?_⟩
    obtain ⟨Z, H0, c, ρ, Dd, sr, cp, w⟩ := q
    unfold wpS at w
    exact absurd w.1 ac
end
end SV

set_option Elab.async false
set_option linter.all false
set_option maxRecDepth 100000
set_option maxHeartbeats 8000000
namespace SV
open PySem PySem.Spec PyProof.Rows L2
section
variable {S : Sg} {N : List Str} {sc : Scope} {ht : Bool}
theorem hfew1 {e : Expr} {cpos : Pos} {env : PySem.Env} (h : isStar e = false) : ((backTo cpos (starEach [e] env)).all (fun x => !x.1) && (backToKw cpos (keywordEach [] env)).all (fun x => x.1.isSome)
      && decide (([e] : List Expr).length + ([] : List Keyword).length + (if ([] : List Keyword).isEmpty then 0 else 1) < 30)) = true := by
  rw [star_of h] <;> rfl
theorem noSwapS {e t : Expr} {l : Nat} {env : PySem.Env} (h : isComp e = false) : swapsWithSole [t] e l env = pure false := noSwap h
theorem pv_of {X : Cx} (k : Kx X S N sc ht) {i : Nat} {x : Str} {px : Pos} (h : chkE N sc ht (.var i) (.Name x px) = true) : PE X (.Name x px) (tVar i) := by
  unfold chkE at h
  obtain ⟨h, h4⟩ := b2 h
  obtain ⟨h, h3⟩ := b2 h
  obtain ⟨h1, h2⟩ := b2 h
  exact pe_var (by rw [k.hn]; exact of_decide_eq_true h1) (k.vis h2) (nb h3) (nb h4)
theorem hfew2 {e f : Expr} {cpos : Pos} {env : PySem.Env} (h : isStar e = false) (h' : isStar f = false) : ((backTo cpos (starEach [e, f] env)).all (fun x => !x.1) && (backToKw cpos (keywordEach [] env)).all (fun x => x.1.isSome)
      && decide (([e, f] : List Expr).length + ([] : List Keyword).length + (if ([] : List Keyword).isEmpty then 0 else 1) < 30)) = true := by
  rw [star_of h, star_of h'] <;> rfl
theorem soundPl {X : Cx} {Wx : WX} {S : Sg} {N : List Str} {sc : Scope} {ht : Bool} (k : Kx X S N sc ht) (tk : Takes X Wx) : ∀ (pl : Pl) (e : Expr), chkPl N sc ht pl e = true → PE X e (VPl X S Wx pl)
  | .var i, e, h => by
    unfold chkPl at h
    cases e with
    | Name x px => exact vpl_var (pv_of k h)
    | _ => unfold chkE at h; cases h
  | .at_ p c, e, h => by
    unfold chkPl at h
    split at h
    · rename_i x y pos
      obtain ⟨h, h3⟩ := b2 h
      obtain ⟨h1, h2⟩ := b2 h
      exact vpl_at (soundPl k tk p x h2) (soundE c k tk y h3).1 (noSlice (nb h1))
    · cases h
/-- an assignment of a comprehension: its parts -/
theorem cparts {X : Cx} {Wx : WX} (k : Kx X S N sc ht) (tk : Takes X Wx) {own : List (Str × Nat)} {tg : Tg} {ik : Ik} {ies ifs : List E} {elt : E} {eltE : Expr} {gs : List Comprehension} {scope : Scope} {p : Pos} (h : chkE N sc ht (.comp own tg ik ies ifs elt) (.ListComp eltE gs scope p) = true) :
    ht = false ∧ ∃ tgE iter ifsE, gs = [⟨tgE, iter, ifsE, 0⟩] ∧ CParts X S Wx own tg ik ies ifs elt eltE tgE iter ifsE scope := by
  unfold chkE at h
  split at h
  · rename_i eltE' tgE iter ifsE a scope' p' eq
    cases eq
    obtain ⟨h, h11⟩ := b2 h
    obtain ⟨h, h10⟩ := b2 h
    obtain ⟨h, h9⟩ := b2 h
    obtain ⟨h, h8⟩ := b2 h
    obtain ⟨h, h7⟩ := b2 h
    obtain ⟨h, h6⟩ := b2 h
    obtain ⟨h, h5⟩ := b2 h
    obtain ⟨h, h4⟩ := b2 h
    obtain ⟨h, h3⟩ := b2 h
    obtain ⟨h, h2⟩ := b2 h
    obtain ⟨h0, h1⟩ := b2 h
    obtain rfl := of_decide_eq_true h1
    have hk : scope.kind = .function := (blkOk_by h2).kind
    have hsl : ∀ i ∈ slots tg, i ∈ own.map (·.2) := fun i hi => of_decide_eq_true (List.all_eq_true.mp h3 i hi)
    refine ⟨nb h0, tgE, iter, ifsE, rfl, ?_, ?_, hsl, of_decide_eq_true h4, fun s H C cl fp => ?_, fun s H C cl fp => ?_, fun s H C cl fp => ?_, noFold (nb h6)⟩
    · exact k.it h8 h9 (soundEs ies k tk _ h9) (sound1 ies k tk _ h9)
    · rw [k.hn, k.hsc]; exact blkOk_by h2
    · have kb := k.blk (nb h0) hk s H C cl fp
      exact soundT kb.hn kb.nd kb.loB (kb.calm (nb h0)) tg tgE h7
    · exact soundI ifs (k.blk (nb h0) hk s H C cl fp) ifsE (of_decide_eq_true h4) h5 h10
    · exact (soundE elt (k.blk (nb h0) hk s H C cl fp) takes0 eltE h11).1
  · cases h
theorem asg_comp {X : Cx} {Wx : WX} (k : Kx X S N sc ht) (tk : Takes X Wx) {i : Nat} {x : Str} {py pos p : Pos} {own : List (Str × Nat)} {tg : Tg} {ik : Ik} {ies ifs : List E} {elt : E} {eltE : Expr} {gs : List Comprehension} {scope : Scope}
    (hi : N[i]? = some x) (hl : locB sc x = true) (h1 : (py.line == p.line) = true) (h2 : (scope.names.any fun (n, k) => n == x && (k == .local || k == .cell)) = false) (h : chkE N sc ht (.comp own tg ik ies ifs elt) (.ListComp eltE gs scope p) = true) :
    PS X (.Assign [.Name x py] (.ListComp eltE gs scope p) pos) (VS X S Wx (.asg i (.e (.comp own tg ik ies ifs elt)))) := by
  obtain ⟨hh, tgE, iter, ifsE, rfl, c⟩ := cparts (Wx := Wx) k tk h
  have hl' := k.loc hl
  refine PS.imp (ps_setLc (k.calm hh) k.nd (by rw [k.hn]; exact hi) hl' (sw_true k.kind hl' h1 h2) c.hi c.ok c.hg c.ht c.he c.hs) ?_
  intro D σ H q
  exact vc_read c.hsl c.hif σ H _ (vo_e_rd σ H _ (vs_asgR D σ H q))
theorem asg_oc {X : Cx} {Wx : WX} (k : Kx X S N sc ht) (tk : Takes X Wx) {i : Nat} {x : Str} {py pos p : Pos} {own : List (Str × Nat)} {tg : Tg} {ik : Ik} {ies : List E} {o : OE} {ke : Kd} {eltE : Expr} {gs : List Comprehension} {scope : Scope}
    (hi : N[i]? = some x) (hl : locB sc x = true) (h1 : (py.line == p.line) = true) (h2 : (scope.names.any fun (n, k) => n == x && (k == .local || k == .cell)) = false) (h : chkO N sc ht (.oc own tg ik ies o ke) (.ListComp eltE gs scope p) = true) :
    PS X (.Assign [.Name x py] (.ListComp eltE gs scope p) pos) (VS X S Wx (.asg i (.oc own tg ik ies o ke))) := by
  unfold chkO at h
  split at h
  · rename_i eltE' tgE iter a scope' p' eq
    cases eq
    obtain ⟨h, h9⟩ := b2 h
    obtain ⟨h, h8⟩ := b2 h
    obtain ⟨h, h7⟩ := b2 h
    obtain ⟨h, h6⟩ := b2 h
    obtain ⟨h, h5⟩ := b2 h
    obtain ⟨h, h4⟩ := b2 h
    obtain ⟨h, h3⟩ := b2 h
    obtain ⟨h0, ha⟩ := b2 h
    obtain rfl := of_decide_eq_true ha
    have hk : scope.kind = .function := (blkOk_by h3).kind
    have hsl : ∀ i ∈ slots tg, i ∈ own.map (·.2) := fun i hi => of_decide_eq_true (List.all_eq_true.mp h4 i hi)
    have hl' := k.loc hl
    have g1 : ∀ (s : Shared) (H : Hp) (C : Addr) (cl : List (Str × Addr)) (fp : List Addr), PG (X.blk s H scope (compEnvC scope cl C X.env) fp) tgE (gOf X.K tg) := fun s H C cl fp => by
      have kb := k.blk (nb h0) hk s H C cl fp
      exact soundT kb.hn kb.nd kb.loB (kb.calm (nb h0)) tg tgE h6
    have g2 : ∀ (s : Shared) (H : Hp) (C : Addr) (cl : List (Str × Addr)) (fp : List Addr), PTs (X.blk s H scope (compEnvC scope cl C X.env) fp) [] (ttOf X S []) := fun s H C cl fp => soundI [] (k.blk (nb h0) hk s H C cl fp) [] (by simp) rfl rfl
    have g3 : ∀ (s : Shared) (H : Hp) (C : Addr) (cl : List (Str × Addr)) (fp : List Addr), PE (X.blk s H scope (compEnvC scope cl C X.env) fp) eltE (VO X S W0 o) := fun s H C cl fp => soundO o (k.blk (nb h0) hk s H C cl fp) takes0 eltE h9
    refine PS.imp (ps_setLc (k.calm (nb h0)) k.nd (by rw [k.hn]; exact hi) hl' (sw_true k.kind hl' h1 h2) (k.it h7 h8 (soundEs ies k tk _ h8) (sound1 ies k tk _ h8)) (by rw [k.hn, k.hsc]; exact blkOk_by h3) g1 g2 g3 (noFold (nb h5))) ?_
    intro D σ H q
    exact oc_read hsl σ H _ (vs_asgR D σ H q)
  · cases h
theorem b_or {a b : Bool} (h : (a || b) = true) : a = true ∨ b = true := by
  cases a <;> simp_all
theorem asg_cell {X : Cx} {Wx : WX} (k : Kx X S N sc ht) (hf : ∀ x, X.fn x = true) {i : Nat} {o : OE} {x : Str} {py pos p : Pos} {eltE : Expr} {gs : List Comprehension} {scope : Scope} (hi : N[i]? = some x) (hl : cellB sc x = true) (he : PE X (.ListComp eltE gs scope p) (VO X S Wx o)) :
    PS X (.Assign [.Name x py] (.ListComp eltE gs scope p) pos) (VS X S Wx (.asg i o)) := by
  obtain ⟨l1, l2⟩ := k.loC hf x (cell_loc hl)
  exact PS.imp (ps_set (i := i) k.nd (by rw [k.hn]; exact hi) l1 he (noSwapCell (by rw [k.hsc]; exact cell_at hl)) l2) fun D σ H q => vs_asgR D σ H q
theorem asg_oe {X : Cx} {Wx : WX} (k : Kx X S N sc ht) (hf : ∀ x, X.fn x = true) {i : Nat} {o : OE} {x : Str} {py pos : Pos} {e : Expr} (hi : N[i]? = some x) (hl : locC sc x = true) (h1 : isComp e = false) (he : PE X e (VO X S Wx o)) :
    PS X (.Assign [.Name x py] e pos) (VS X S Wx (.asg i o)) := by
  obtain ⟨l1, l2⟩ := k.loC hf x hl
  exact PS.imp (ps_set (i := i) k.nd (by rw [k.hn]; exact hi) l1 he (noSwap h1) l2) fun D σ H q => vs_asgR D σ H q
end
end SV

set_option Elab.async false
set_option linter.all false
set_option maxRecDepth 100000
set_option maxHeartbeats 1000000
namespace SV
open PySem PySem.Spec PyProof.Rows L2
section
variable {N : List Str} {sc : Scope}
theorem Kx.tr {X : Cx} {S : Sg} {ht : Bool} (hh : ht = false) (k : Kx X S N sc ht) (pn : List (Addr × Obj)) (xe : Value → Shared → Prop) : Kx (X.tr pn xe) S N sc ht :=
  ⟨k.hn, k.hsc, k.kind, k.calm, k.cool, k.nd, k.free, k.glo, fun f sp h => ⟨(k.call f sp h).ex⟩, k.hu, fun f h => ⟨(k.exc f h).ex⟩, k.cls, k.fld, fun C f h => (let ⟨a, b, j, d, e, g⟩ := k.mi C f h; ⟨a, b, j, d, e, g⟩), fun a nm dd e => by rw [k.cool hh] at e; cases e⟩
theorem Kx.su {X : Cx} {S : Sg} {ht : Bool} (k : Kx X S N sc ht) {a : Addr} {oe : Obj} {d : Option Addr} {pn : List (Addr × Obj)} {nm : Str} {Ca : Addr} (h1 : X.mg nm = some (.ref Ca)) (hz : Zc (.ref Ca) d oe) (hv : ∃ vs, oe.data = .fields vs) : Kx (X.suite a ((a, oe) :: pn)) (hotS S a nm d) N sc true :=
  ⟨k.hn, k.hsc, k.kind, (fun z => nomatch z), (fun z => nomatch z), k.nd, k.free, k.glo, (fun f sp h => nomatch h), k.hu, (fun f h => nomatch h), k.cls, k.fld, (fun C f h => nomatch h), fun a' nm' dd' e => by
    have e' : some (a, nm, d) = some (a', nm', dd') := e
    cases e'
    exact ⟨Ca, oe, h1, List.mem_cons_self, hz, hv⟩⟩
/-- the frame is the def's own -/
abbrev Frm (X : Cx) : Prop := X.stack = X.env :: X.outer ∧ X.env.frame = some X.env.locals
mutual
theorem soundS : ∀ (s : Sm) {S : Sg} {ht : Bool} {X : Cx} {Wx : WX} (k : Kx X S N sc ht) (fr : Frm X) (hf : ∀ x, X.fn x = true) (tk : Takes X Wx) (po : PassesOwn (model X.prog X.w) X.A X.env X.xe) (st : Stmt), chkS N sc ht s st = true → PS X st (VS X S Wx s)
  | .asg i o, S, ht, X, Wx, k, fr, hf, tk, po, st, h => by
    unfold chkS at h
    split at h
    · rename_i x py e pos
      obtain ⟨h1, h⟩ := b2 h
      have hi := of_decide_eq_true h1
      split at h
      · split at h
        · obtain ⟨h, h6⟩ := b2 h
          rcases b_or h with h | h
          · exact asg_cell k hf hi h (soundO (.e (.comp _ _ _ _ _ _)) k tk _ h6)
          · obtain ⟨h, h5⟩ := b2 h
            obtain ⟨h2, h4⟩ := b2 h
            exact asg_comp k tk hi h2 h4 (nb h5) h6
        · cases h
      · split at h
        · obtain ⟨h, h6⟩ := b2 h
          rcases b_or h with h | h
          · exact asg_cell k hf hi h (soundO _ k tk _ h6)
          · obtain ⟨h, h5⟩ := b2 h
            obtain ⟨h2, h4⟩ := b2 h
            exact asg_oc k tk hi h2 h4 (nb h5) h6
        · cases h
      · obtain ⟨h, h4⟩ := b2 h
        obtain ⟨h2, h3⟩ := b2 h
        exact asg_oe k hf hi h2 (nb h3) (soundO o k tk e h4)
    · cases h
  | .asgT tg c, S, ht, X, Wx, k, fr, hf, tk, po, st, h => by
    unfold chkS at h
    split at h
    · rename_i ts j p e pos
      obtain ⟨h, h4⟩ := b2 h
      obtain ⟨h, h3⟩ := b2 h
      obtain ⟨h, h2⟩ := b2 h
      obtain ⟨h0, h1⟩ := b2 h
      exact PS.imp (ps_asg (soundE c k tk e h3).1 (soundT k.hn k.nd (k.loC hf) (k.calm (nb h0)) tg _ h4) (noSwapS (nb h1)) (noStoresC h2)) fun D σ H q => vs_asgT D σ H q
    · cases h
  | .app i o kw, S, ht, X, Wx, k, fr, hf, tk, po, st, h => by
    unfold chkS at h
    split at h
    · rename_i x px m apos e cpos pos
      obtain ⟨h, h5⟩ := b2 h
      obtain ⟨h, h4⟩ := b2 h
      obtain ⟨h, h3⟩ := b2 h
      obtain ⟨h1, h2⟩ := b2 h
      obtain rfl := of_decide_eq_true h1
      exact PS.imp (ps_expr (pe_bm PySem.F.plainAttrs_list PySem.F.slot_list_append PySem.F.type_list_append mt_append (pv_of k h4) (pa_cons (soundO o k tk e h5) pa_nil (star_of (nb h3))) rfl (hfew1 (nb h3)) h2 (star_of (nb h3)) rfl) rfl) fun D σ H q => vs_appR D σ H q
    · cases h
  | .ext i c, S, ht, X, Wx, k, fr, hf, tk, po, st, h => by
    unfold chkS at h
    split at h
    · rename_i x px m apos e cpos pos
      obtain ⟨h, h5⟩ := b2 h
      obtain ⟨h, h4⟩ := b2 h
      obtain ⟨h, h3⟩ := b2 h
      obtain ⟨h1, h2⟩ := b2 h
      obtain rfl := of_decide_eq_true h1
      exact PS.imp (ps_expr (pe_bm PySem.F.plainAttrs_list PySem.F.slot_list_extend PySem.F.type_list_extend mt_extend (pv_of k h4) (pa_cons (soundE c k tk e h5).1 pa_nil (star_of (nb h3))) rfl (hfew1 (nb h3)) h2 (star_of (nb h3)) rfl) rfl) fun D σ H q => vs_extR D σ H q
    · cases h
  | .setI i ix o kw, S, ht, X, Wx, k, fr, hf, tk, po, st, h => by
    unfold chkS at h
    split at h
    · rename_i x px y ps e pos
      obtain ⟨h, h5⟩ := b2 h
      obtain ⟨h, h4⟩ := b2 h
      obtain ⟨h, h3⟩ := b2 h
      obtain ⟨h1, h2⟩ := b2 h
      have hy : ∀ v, assign (.Subscript (.Name x px) y ps) X.env v = (do
          let ov ← holding [v] (eval (.Name x px) X.env)
          let iv ← holding [v, ov] (eval y X.env)
          standAt ps
          holding [v, ov, iv] (setItem ov iv v)
          release [v, ov, iv] []) := by
        intro v
        cases y <;> first | rfl | cases h2
      exact PS.imp (ps_asg (soundO o k tk e h5) (pg_sub (pv_of k h3) (soundE ix k takes0 y h4).1 set_list hy) (noSwapS (nb h1)) noStores2) fun D σ H q => vs_setR D σ H q
    · cases h
  | .expr c, S, ht, X, Wx, k, fr, hf, tk, po, st, h => by
    unfold chkS at h
    split at h
    · rename_i e pos
      obtain ⟨h1, h2⟩ := b2 h
      exact vs_expr (soundE c k tk e h2).1 (noSwap (nb h1))
    · cases h
  | .ret o, S, ht, X, Wx, k, fr, hf, tk, po, st, h => by
    unfold chkS at h
    split at h
    · rename_i e pos
      exact vs_ret (soundO o k tk e h)
    · cases h
  | .retN, S, ht, X, Wx, k, fr, hf, tk, po, st, h => by
    unfold chkS at h
    split at h
    · rename_i pos
      exact vs_retN
    · cases h
  | .ife c a b, S, ht, X, Wx, k, fr, hf, tk, po, st, h => by
    unfold chkS at h
    split at h
    · rename_i e xs ys pos
      obtain ⟨h, h4⟩ := b2 h
      obtain ⟨h, h3⟩ := b2 h
      obtain ⟨h1, h2⟩ := b2 h
      exact vs_ife ((soundE c k tk e h2).2 h1) (soundSs a k fr hf tk po xs h3) (soundSs b k fr hf tk po ys h4)
    · cases h
  | .for_ tg ik ies b, S, ht, X, Wx, k, fr, hf, tk, po, st, h => by
    unfold chkS at h
    split at h
    · rename_i tgE iter body pos
      obtain ⟨h, h5⟩ := b2 h
      obtain ⟨h, h4⟩ := b2 h
      obtain ⟨h, h3⟩ := b2 h
      obtain ⟨h, h2⟩ := b2 h
      obtain ⟨h0, h1⟩ := b2 h
      exact vs_for po (k.calm (nb h0)) (k.it h3 h4 (soundEs ies k tk _ h4) (sound1 ies k tk _ h4)) (soundT k.hn k.nd (k.loC hf) (k.calm (nb h0)) tg tgE h2) (soundSs b k fr hf tk po body h5) (noFold (nb h1))
    · cases h
  | .whl c b, S, ht, X, Wx, k, fr, hf, tk, po, st, h => by
    unfold chkS at h
    split at h
    · rename_i e body pos
      obtain ⟨h, h3⟩ := b2 h
      obtain ⟨h1, h2⟩ := b2 h
      exact vs_whl po ((soundE c k tk e h2).2 h1) (soundSs b k fr hf tk po body h3)
    · cases h
  | .raise f m, S, ht, X, Wx, k, fr, hf, tk, po, st, h => by
    unfold chkS at h
    split at h
    · rename_i x p1 y p2 p3 p4 pos
      obtain ⟨h, h3⟩ := b2 h
      obtain ⟨h, h2⟩ := b2 h
      obtain ⟨h0, h1⟩ := b2 h
      obtain rfl := of_decide_eq_true h1
      obtain rfl := of_decide_eq_true h2
      obtain ⟨g, d⟩ := k.gl h3
      cases hX : S.X x with
      | true => exact vs_raise (k.calm (nb h0)) tk (k.exc x hX) g d
      | false =>
        refine ⟨fun pins s σ H D I q => ?_⟩
        obtain ⟨Z, H0, c, ρ, Dd, sr, cp, w⟩ := q
        unfold wpS at w
        rw [hX] at w
        cases w.1
    · cases h
  | .pass, S, ht, X, Wx, k, fr, hf, tk, po, st, h => by
    unfold chkS at h
    split at h
    · rename_i pos
      exact vs_pass
    · cases h
  | .brk, S, ht, X, Wx, k, fr, hf, tk, po, st, h => by
    unfold chkS at h
    split at h
    · rename_i pos
      exact vs_brk
    · cases h
  | .cont, S, ht, X, Wx, k, fr, hf, tk, po, st, h => by
    unfold chkS at h
    split at h
    · rename_i pos
      exact vs_cont
    · cases h
  | .mut pl op, S, ht, X, Wx, k, fr, hf, tk, po, st, h => by
    have key : ∃ x m apos args cpos pos, st = .Expr (.Call (.Attribute x m apos) args [] cpos) pos ∧ (apos.endLine == cpos.line) = true ∧ nameSub x = true ∧ chkPl N sc ht pl x = true ∧ chkMop N sc ht op m args = true := by
      unfold chkS at h
      split at h
      all_goals first | cases h | skip
      all_goals (
        obtain ⟨h, h5⟩ := b2 h
        obtain ⟨h, h4⟩ := b2 h
        obtain ⟨h, h3⟩ := b2 h
        obtain ⟨h0, h2⟩ := b2 h
        exact ⟨_, _, _, _, _, _, rfl, h2, h3, h4, h5⟩)
    obtain ⟨x, m, apos, args, cpos, pos, rfl, h2, h3, h4, h5⟩ := key
    have hx := soundPl k tk pl x h4
    match op, h5 with
    | .clr, h5 =>
      obtain ⟨h6, h7⟩ := b2 (show (decide (m = "clear") && args.isEmpty) = true from h5)
      obtain rfl := of_decide_eq_true h6
      match args, h7 with
      | [], _ => exact PS.imp (ps_expr (pe_bm0 PySem.F.plainAttrs_list PySem.F.slot_list_clear PySem.F.type_list_clear mt_clear hx (base_ok h3) h2) rfl) fun D σ H q => vs_mutC D σ H q
    | .app o, h5 =>
      match args, h5 with
      | [e], h5 =>
        obtain ⟨h5, h8⟩ := b2 (show (decide (m = "append") && !(isStar e) && chkO N sc ht o e) = true from h5)
        obtain ⟨h6, h7⟩ := b2 h5
        obtain rfl := of_decide_eq_true h6
        exact PS.imp (ps_expr (pe_bm PySem.F.plainAttrs_list PySem.F.slot_list_append PySem.F.type_list_append mt_append hx (pa_cons (soundO o k tk e h8) pa_nil (star_of (nb h7))) (base_ok h3) (hfew1 (nb h7)) h2 (star_of (nb h7)) rfl) rfl) fun D σ H q => vs_mutA D σ H q
      | [], h5 => exact nomatch (show false = true from h5)
      | _ :: _ :: _, h5 => exact nomatch (show false = true from h5)
    | .ins c o, h5 =>
      match args, h5 with
      | [y, e], h5 =>
        obtain ⟨h5, h10⟩ := b2 (show (decide (m = "insert") && !(isStar y) && !(isStar e) && chkE N sc ht c y && chkO N sc ht o e) = true from h5)
        obtain ⟨h5, h9⟩ := b2 h5
        obtain ⟨h5, h8⟩ := b2 h5
        obtain ⟨h6, h7⟩ := b2 h5
        obtain rfl := of_decide_eq_true h6
        exact PS.imp (ps_expr (pe_bm PySem.F.plainAttrs_list PySem.F.slot_list_insert PySem.F.type_list_insert mt_insert hx (pa_cons (soundE c k tk y h9).1 (pa_cons (soundO o k tk e h10) pa_nil (star_of (nb h8))) (star_of (nb h7))) (base_ok h3) (hfew2 (nb h7) (nb h8)) h2 (star_of (nb h7)) (by rw [star_of (nb h8)]; rfl)) rfl) fun D σ H q => vs_mutI D σ H q
      | [], h5 => exact nomatch (show false = true from h5)
      | [_], h5 => exact nomatch (show false = true from h5)
      | _ :: _ :: _ :: _, h5 => exact nomatch (show false = true from h5)
  | .forD tg i b, S, ht, X, Wx, k, fr, hf, tk, po, st, h => by
    unfold chkS at h
    split at h
    · rename_i tgE x px body pos
      obtain ⟨h, h4⟩ := b2 h
      obtain ⟨h, h3⟩ := b2 h
      obtain ⟨h0, h2⟩ := b2 h
      exact vs_forD po (k.calm (nb h0)) (pv_of k h3) (soundT k.hn k.nd (k.loC hf) (k.calm (nb h0)) tg tgE h2) (soundSs b k fr hf tk po body h4) (fun _ => rfl)
    · cases h
  | .forO tg i b, S, ht, X, Wx, k, fr, hf, tk, po, st, h => by
    unfold chkS at h
    split at h
    · rename_i tgE x px body pos
      obtain ⟨h, h4⟩ := b2 h
      obtain ⟨h, h3⟩ := b2 h
      obtain ⟨h0, h2⟩ := b2 h
      exact vs_forO po (k.calm (nb h0)) (pv_of k h3) (soundT k.hn k.nd (k.loC hf) (k.calm (nb h0)) tg tgE h2) (soundSs b k fr hf tk po body h4) (fun _ => rfl)
    · cases h
  | .asgH j i, S, ht, X, Wx, k, fr, hf, tk, po, st, h => by
    unfold chkS at h
    split at h
    · rename_i x py y pz lp pos
      obtain ⟨h, h3⟩ := b2 h
      obtain ⟨h1, h2⟩ := b2 h
      exact asg_H k hf (of_decide_eq_true h1) h2 (pv_of k h3)
    · cases h
  | .appH i o, S, ht, X, Wx, k, fr, hf, tk, po, st, h => by
    unfold chkS at h
    split at h
    · rename_i x px m apos e cpos pos
      obtain ⟨h, h5⟩ := b2 h
      obtain ⟨h, h4⟩ := b2 h
      obtain ⟨h, h3⟩ := b2 h
      obtain ⟨h1, h2⟩ := b2 h
      obtain rfl := of_decide_eq_true h1
      exact PS.imp (ps_expr (pe_bm PySem.F.plainAttrs_list PySem.F.slot_list_append PySem.F.type_list_append mt_append (pv_of k h4) (pa_cons (soundO o k tk e h5) pa_nil (star_of (nb h3))) rfl (hfew1 (nb h3)) h2 (star_of (nb h3)) rfl) rfl) fun D σ H q => vs_appH D σ H q
    · cases h
  | .tkO m l ix, S, ht, X, Wx, k, fr, hf, tk, po, st, h => by
    unfold chkS at h
    split at h
    · rename_i x py y pz z lp pos
      obtain ⟨h, h5⟩ := b2 h
      obtain ⟨h, h4⟩ := b2 h
      obtain ⟨h, h3⟩ := b2 h
      obtain ⟨h1, h2⟩ := b2 h
      exact asg_tkO k hf (of_decide_eq_true h1) h2 (pv_of k h4) (soundE ix k takes0 z h5).1 (noSlice (nb h3))
    · cases h
  | .setH l ix o, S, ht, X, Wx, k, fr, hf, tk, po, st, h => by
    unfold chkS at h
    split at h
    · rename_i x px y ps e pos
      obtain ⟨h, h5⟩ := b2 h
      obtain ⟨h, h4⟩ := b2 h
      obtain ⟨h, h3⟩ := b2 h
      obtain ⟨h1, h2⟩ := b2 h
      have hy : ∀ v, assign (.Subscript (.Name x px) y ps) X.env v = (do
          let ov ← holding [v] (eval (.Name x px) X.env)
          let iv ← holding [v, ov] (eval y X.env)
          standAt ps
          holding [v, ov, iv] (setItem ov iv v)
          release [v, ov, iv] []) := by
        intro v
        cases y <;> first | rfl | cases h2
      exact PS.imp (ps_asg (soundO o k tk e h5) (pg_sub (pv_of k h3) (soundE ix k takes0 y h4).1 set_list hy) (noSwapS (nb h1)) noStores2) fun D σ H q => vs_setH D σ H q
    · cases h
  | .mutK pl o, S, ht, X, Wx, k, fr, hf, tk, po, st, h => by
    unfold chkS at h
    split at h
    · rename_i x m apos e cpos pos
      obtain ⟨h, h8⟩ := b2 h
      obtain ⟨h, h7⟩ := b2 h
      obtain ⟨h, h6⟩ := b2 h
      obtain ⟨h, h4⟩ := b2 h
      obtain ⟨h, h3⟩ := b2 h
      obtain ⟨h0, h2⟩ := b2 h
      obtain rfl := of_decide_eq_true h6
      exact PS.imp (ps_expr (pe_bm PySem.F.plainAttrs_list PySem.F.slot_list_append PySem.F.type_list_append mt_append (soundPl k tk pl x h4) (pa_cons (soundO o k tk e h8) pa_nil (star_of (nb h7))) (base_ok h3) (hfew1 (nb h7)) h2 (star_of (nb h7)) rfl) rfl) fun D σ H q => vs_mutK D σ H q
    · cases h
  | .forM m o b, S, ht, X, Wx, k, fr, hf, tk, po, st, h => by
    unfold chkS at h
    split at h
    · rename_i y py iter body pos
      obtain ⟨h, h5⟩ := b2 h
      obtain ⟨h, h4⟩ := b2 h
      obtain ⟨h, h3⟩ := b2 h
      obtain ⟨h0, h2⟩ := b2 h
      exact vs_forM po (k.calm (nb h0)) (soundO o k tk iter h4) (soundT k.hn k.nd (k.loC hf) (k.calm (nb h0)) (.nm m) _ h3) (soundSs b k fr hf tk po body h5) (noFold (nb h2))
    · cases h
  | .forA m pl b, S, ht, X, Wx, k, fr, hf, tk, po, st, h => by
    unfold chkS at h
    split at h
    · rename_i y py iter body pos
      obtain ⟨h, h5⟩ := b2 h
      obtain ⟨h, h4⟩ := b2 h
      obtain ⟨h, h3⟩ := b2 h
      obtain ⟨h0, h2⟩ := b2 h
      exact vs_forA po (k.calm (nb h0)) (soundPl k tk pl iter h4) (soundT k.hn k.nd (k.loC hf) (k.calm (nb h0)) (.nm m) _ h3) (soundSs b k fr hf tk po body h5) (noFold (nb h2))
    · cases h
  | .asgO is o, S, ht, X, Wx, k, fr, hf, tk, po, st, h => by
    unfold chkS at h
    split at h
    · rename_i ts j p e pos
      obtain ⟨h, h4⟩ := b2 h
      obtain ⟨h, h3⟩ := b2 h
      obtain ⟨h, h2⟩ := b2 h
      obtain ⟨h0, h1⟩ := b2 h
      exact PS.imp (ps_asg (soundO o k tk e h3) (soundT k.hn k.nd (k.loC hf) (k.calm (nb h0)) (.tp (is.map .nm)) _ h4) (noSwapS (nb h1)) (noStores (nb h2))) fun D σ H q => vs_asgO D σ H q
    · cases h
  | .par i j a b, S, ht, X, Wx, k, fr, hf, tk, po, st, h => by
    unfold chkS at h
    split at h
    · rename_i x px y py kt pt u v k2 pt2 pos
      obtain ⟨h, h14⟩ := b2 h
      obtain ⟨h, h13⟩ := b2 h
      obtain ⟨h, h12⟩ := b2 h
      obtain ⟨h, h11⟩ := b2 h
      obtain ⟨h, h10⟩ := b2 h
      obtain ⟨h, h9⟩ := b2 h
      obtain ⟨h, h8⟩ := b2 h
      obtain ⟨h, h7⟩ := b2 h
      obtain ⟨h, h6⟩ := b2 h
      obtain ⟨h, h5⟩ := b2 h
      obtain ⟨h, h4⟩ := b2 h
      obtain ⟨h, h3⟩ := b2 h
      obtain ⟨h1, h2⟩ := b2 h
      exact PS.imp (ps_par2 (i := i) (j := j) (k.calm (nb h1)) k.nd (by rw [k.hn]; exact of_decide_eq_true h2) (by rw [k.hn]; exact of_decide_eq_true h3) (of_decide_eq_true h4) (k.loc h5) (k.loc h6)
        (pa_cons (soundO a k tk u h13) (pa_cons (soundO b k tk v h14) pa_nil (star_of (nb h12))) (star_of (nb h11))) (swap_some k.kind (k.loc h5) (k.loc h6) h7 (nb h8) (nb h9) (nb h10) (nb h11) (nb h12))) fun D σ H q => vs_par2 D σ H q
    · cases h
  | .swp i a b c, S, ht, X, Wx, k, fr, hf, tk, po, st, h => by
    unfold chkS at h
    split at h
    · rename_i x px y p1 x' px' y' p2 kt pt u v k2 pt2 pos
      obtain ⟨h, h8⟩ := b2 h
      obtain ⟨h, h7⟩ := b2 h
      obtain ⟨h, h6⟩ := b2 h
      obtain ⟨h, h5⟩ := b2 h
      obtain ⟨h, h4⟩ := b2 h
      obtain ⟨h, h3⟩ := b2 h
      obtain ⟨h1, h2⟩ := b2 h
      have hy : ∀ w, assign (.Subscript (.Name x px) y p1) X.env w = (do
          let ov ← holding [w] (eval (.Name x px) X.env)
          let iv ← holding [w, ov] (eval y X.env)
          standAt p1
          holding [w, ov, iv] (setItem ov iv w)
          release [w, ov, iv] []) := by
        intro w
        cases y <;> first | rfl | cases h2
      have hy' : ∀ w, assign (.Subscript (.Name x' px') y' p2) X.env w = (do
          let ov ← holding [w] (eval (.Name x' px') X.env)
          let iv ← holding [w, ov] (eval y' X.env)
          standAt p2
          holding [w, ov, iv] (setItem ov iv w)
          release [w, ov, iv] []) := by
        intro w
        cases y' <;> first | rfl | cases h3
      exact PS.imp (ps_asg (soundE c k tk _ h8).1 (pg_tup (k.calm (nb h1)) (pgs_cons (pg_sub (pv_of k h4) (soundE a k takes0 y h6).1 set_list hy) (pgs_cons (pg_sub (pv_of k h5) (soundE b k takes0 y' h7).1 set_list hy') pgs_nil))) rfl swap_subs) fun D σ H q => vs_swp D σ H q
    · cases h
  | .popT tg i, S, ht, X, Wx, k, fr, hf, tk, po, st, h => by
    unfold chkS at h
    split at h
    · rename_i t x px m apos cpos pos
      obtain ⟨h, h5⟩ := b2 h
      obtain ⟨h, h4⟩ := b2 h
      obtain ⟨h, h3⟩ := b2 h
      obtain ⟨h1, h2⟩ := b2 h
      obtain rfl := of_decide_eq_true h2
      exact PS.imp (ps_asg (pe_bm0 PySem.F.plainAttrs_list PySem.F.slot_list_pop PySem.F.type_list_pop mt_pop (pv_of k h4) rfl h3) (soundT k.hn k.nd (k.loC hf) (k.calm (nb h1)) tg t h5) rfl (by cases t <;> rfl) (h1 := by cases t <;> first | rfl | (cases tg <;> (unfold chkT at h5; cases h5)))) fun D σ H q => vs_popT D σ H q
    · cases h
  | .popB j c i, S, ht, X, Wx, k, fr, hf, tk, po, st, h => by
    unfold chkS at h
    split at h
    · rename_i y py e x px m apos cpos p2 pos
      obtain ⟨h, h6⟩ := b2 h
      obtain ⟨h, h5⟩ := b2 h
      obtain ⟨h, h4⟩ := b2 h
      obtain ⟨h, h3⟩ := b2 h
      obtain ⟨h1, h2⟩ := b2 h
      obtain rfl := of_decide_eq_true h3
      obtain ⟨l1, l2⟩ := k.loC hf y h2
      exact PS.imp (ps_set (i := j) k.nd (by rw [k.hn]; exact of_decide_eq_true h1) l1 (pe_op op_add (soundE c k tk e h5).1 (pe_bm0 PySem.F.plainAttrs_list PySem.F.slot_list_pop PySem.F.type_list_pop mt_pop (pv_of k h6) rfl h4)) rfl l2) fun D σ H q => vs_popB D σ H q
    · cases h
  | .dput i ix c, S, ht, X, Wx, k, fr, hf, tk, po, st, h => by
    unfold chkS at h
    split at h
    · rename_i z px y ps e pos
      obtain ⟨h, h6⟩ := b2 h
      obtain ⟨h, h5⟩ := b2 h
      obtain ⟨h, h4⟩ := b2 h
      obtain ⟨h, h3⟩ := b2 h
      obtain ⟨h0, h1⟩ := b2 h
      exact PS.imp (ps_dput (by have := k.hu; omega) (pv_of k h4) (soundE ix k takes0 y h5).1 (soundE c k tk e h6).1 (noSwap (nb h1))) fun D σ H q => vs_dput D σ H q
    · cases h
  | .setP pl ix c, S, ht, X, Wx, k, fr, hf, tk, po, st, h => by
    unfold chkS at h
    split at h
    · rename_i x y ps e pos
      obtain ⟨h, h6⟩ := b2 h
      obtain ⟨h, h5⟩ := b2 h
      obtain ⟨h, h4⟩ := b2 h
      obtain ⟨h, h3⟩ := b2 h
      obtain ⟨h1, h2⟩ := b2 h
      have hy : ∀ v, assign (.Subscript x y ps) X.env v = (do
          let ov ← holding [v] (eval x X.env)
          let iv ← holding [v, ov] (eval y X.env)
          standAt ps
          holding [v, ov, iv] (setItem ov iv v)
          release [v, ov, iv] []) := by
        intro v
        cases y <;> first | rfl | cases h3
      exact PS.imp (ps_asg (soundE c k tk e h6).1 (pg_sub (soundPl k takes0 pl x h4) (soundE ix k takes0 y h5).1 set_list hy) (noSwapS (nb h2)) noStores2) fun D σ H q => vs_setP D σ H q
    · cases h
  | .try1 b C i g, S, ht, X, Wx, k, fr, hf, tk, po, st, h => by
    unfold chkS at h
    split at h
    · rename_i body y np n b₀ suite pos' pos
      obtain ⟨h, h7⟩ := b2 h
      obtain ⟨h, h6⟩ := b2 h
      obtain ⟨h, h5⟩ := b2 h
      obtain ⟨h, h4⟩ := b2 h
      obtain ⟨h, h3⟩ := b2 h
      obtain ⟨h0, h1⟩ := b2 h
      obtain rfl := of_decide_eq_true h1
      obtain ⟨gl, d⟩ := k.gl h3
      by_cases hs : S.sub y y = some true
      · obtain ⟨cr, hm, _⟩ := k.cls _ _ _ hs
        exact vs_try1 fr.1 fr.2 k.nd (by rw [k.hn]; exact of_decide_eq_true h4) (k.loc h5) ⟨gl, d⟩ hm tk k.cls (fun W pn xe t po => soundSs b (k.tr (nb h0) pn xe) fr hf t po body h6)
          (fun a oe d pn nm Ca h1 hz hv => soundSs g (k.su h1 hz hv) fr hf takes0 PassesOwn.never (b₀ :: suite) h7)
      · refine ⟨fun pins s σ H D I q => ?_⟩
        obtain ⟨Z, H0, c, ρ, Dd, sr, cp, w⟩ := q
        unfold wpS at w
        exact absurd w.1 hs
    · cases h
  | .tryN b C g, S, ht, X, Wx, k, fr, hf, tk, po, st, h => by
    unfold chkS at h
    split at h
    · rename_i body y np b₀ suite pos' pos
      obtain ⟨h, h7⟩ := b2 h
      obtain ⟨h, h6⟩ := b2 h
      obtain ⟨h, h3⟩ := b2 h
      obtain ⟨h0, h1⟩ := b2 h
      obtain rfl := of_decide_eq_true h1
      obtain ⟨gl, d⟩ := k.gl h3
      by_cases hs : S.sub y y = some true
      · obtain ⟨cr, hm, _⟩ := k.cls _ _ _ hs
        exact vs_tryN fr.1 fr.2 ⟨gl, d⟩ hm tk k.cls (fun W pn xe t po => soundSs b (k.tr (nb h0) pn xe) fr hf t po body h6)
          (fun a oe d pn nm Ca h1 hz hv => soundSs g (k.su h1 hz hv) fr hf takes0 PassesOwn.never (b₀ :: suite) h7)
      · refine ⟨fun pins s σ H D I q => ?_⟩
        obtain ⟨Z, H0, c, ρ, Dd, sr, cp, w⟩ := q
        unfold wpS at w
        exact absurd w.1 hs
    · cases h
  | .tryC b hs, S, ht, X, Wx, k, fr, hf, tk, po, st, h => by
    unfold chkS at h
    split at h
    · rename_i body h₀ hds pos
      obtain ⟨h, h7⟩ := b2 h
      obtain ⟨h0, h6⟩ := b2 h
      exact vs_tryC fr.1 fr.2 k.nd tk k.cls (fun W pn xe t po => soundSs b (k.tr (nb h0) pn xe) fr hf t po body h6) (fun ac => soundHs hs k fr hf ac (h₀ :: hds) h7)
    · cases h
  | .hnd _ _ _, S, ht, X, Wx, k, fr, hf, tk, po, st, h => by unfold chkS at h; cases h
  | .raiseI C f e, S, ht, X, Wx, k, fr, hf, tk, po, st, h => by
    unfold chkS at h
    split at h
    · rename_i y p1 x p3 pos
      obtain ⟨h, h5⟩ := b2 h
      obtain ⟨h, h4⟩ := b2 h
      obtain ⟨h, h3⟩ := b2 h
      obtain ⟨h0, h1⟩ := b2 h
      obtain rfl := of_decide_eq_true h1
      obtain ⟨gl, d⟩ := k.gl h3
      by_cases hs : S.mi y = some f
      · exact vs_raiseI (k.calm (nb h0)) tk (k.mi _ _ hs) gl d (vs_cons (soundE e k tk x h5).1 vs_nil (star_of (nb h4))) (star_of (nb h4))
      · refine ⟨fun pins s σ H D I q => ?_⟩
        obtain ⟨Z, H0, c, ρ, Dd, sr, cp, w⟩ := q
        unfold wpS at w
        exact absurd w.1 hs
    · cases h
theorem soundHs : ∀ (hs : List Sm) {S : Sg} {ht : Bool} {X : Cx} (k : Kx X S N sc ht) (fr : Frm X) (hf : ∀ x, X.fn x = true) (ac : allC S hs) (xs : List ExceptHandler), chkHs N sc hs xs = true → HsU X xs (clU X S hs)
  | [], S, ht, X, k, fr, hf, ac, xs, h => by
    unfold chkHs at h
    cases xs with
    | nil => exact .nil
    | cons _ _ => cases h
  | s :: hs, S, ht, X, k, fr, hf, ac, xs, h => by
    unfold allC at ac
    cases s <;> first | exact ac.1.elim | skip
    rename_i C o g
    unfold chkHs at h
    split at h
    · rename_i y np nn b₀ suite pos xs
      obtain ⟨h, h7⟩ := b2 h
      obtain ⟨h, h6⟩ := b2 h
      obtain ⟨h, h5⟩ := b2 h
      obtain ⟨h1, h3⟩ := b2 h
      obtain rfl := of_decide_eq_true h1
      obtain ⟨gl, d⟩ := k.gl h3
      obtain ⟨cr, hm, _⟩ := k.cls _ _ _ ac.1
      unfold clU
      refine .cons (show Names X y _ from ⟨gl, d, .inl (by rw [hm] <;> rfl)⟩) ?_ (fun a oe cls dd pn hz hv => ⟨fun pins s σ H D I q => ?_⟩) (soundHs hs k fr hf ac.2 xs h7)
      · unfold nmU at h5
        split at h5
        · trivial
        · obtain ⟨q1, q2⟩ := b2 h5
          exact ⟨by rw [k.hn]; exact of_decide_eq_true q1, k.loc q2⟩
        · cases h5
      · obtain ⟨nm, Ca, q1, rfl, q⟩ := q
        exact (soundSs g (k.su q1 hz hv) fr hf takes0 PassesOwn.never (b₀ :: suite) h6).run pins s σ H D I (VSs.su _ _ _ q)
    · cases h
theorem soundSs : ∀ (ss : List Sm) {S : Sg} {ht : Bool} {X : Cx} {Wx : WX} (k : Kx X S N sc ht) (fr : Frm X) (hf : ∀ x, X.fn x = true) (tk : Takes X Wx) (po : PassesOwn (model X.prog X.w) X.A X.env X.xe) (sts : List Stmt), chkSs N sc ht ss sts = true → PSs X sts (VSs X S Wx ss)
  | [], S, ht, X, Wx, k, fr, hf, tk, po, sts, h => by
    unfold chkSs at h
    cases sts with
    | nil => exact vss_nil
    | cons _ _ => cases h
  | s :: ss, S, ht, X, Wx, k, fr, hf, tk, po, [], h => by unfold chkSs at h; cases h
  | s :: ss, S, ht, X, Wx, k, fr, hf, tk, po, st :: sts, h => by
    unfold chkSs at h
    obtain ⟨h1, h2⟩ := b2 h
    exact vss_cons (soundS s k fr hf tk po st h1) (soundSs ss k fr hf tk po sts h2)
end
end
end SV

set_option Elab.async false
set_option linter.all false
set_option maxRecDepth 100000
set_option maxHeartbeats 1000000
namespace SV
open PySem PySem.Spec PyProof.Rows L2
/-! ### a def -/
def startE (N : List Str) (ds : List D) : Env := ds.map (fun d => some (Kd.sh, d)) ++ List.replicate (N.length - ds.length) none
/-- what is wanted of a body whose answer is o -/
def edOf (o : Out) : Ed where
  nx := fun _ => match o with
    | .ret k d => Out.ret k d = .ret .sh .non
    | .exc _ => False
    | .any P _ => P .sh .non
  rt := fun k' d' => match o with
    | .ret k d => d' = d ∧ (k' = k ∨ k = .sh)
    | .exc _ => False
    | .any P _ => ∃ k, P k d' ∧ (k' = k ∨ k = .sh)
  ex := fun x _ => match o with
    | .ret _ _ => False
    | .exc y => Out.exc y = .exc x
    | .any _ E => E x
  bk := fun _ => False
  ct := fun _ => False
def wpD (S : Sg) (ss : List Sm) (N : List Str) (ds : List D) (o : Out) : Prop := wpB' S ss (edOf o) (startE N ds)
/-- a callee, for whoever stands at level k -/
structure GCall (P : Program) (w : World) (K : Fr) (mg : Str → Option Value) (base : Heap) (k : Nat) (g : Str) (sp : Spec1) : Prop where
  ex : ∃ (fa : Addr) (fd : FuncData) (ps : List Str) (j : Nat), j ≤ k ∧ FnOk P w K mg base (L2.CX P w) j fa fd ps (spV K mg sp) ∧ mg g = some (.ref fa) ∧ PySem.W.keepIn K (.ref fa) = true ∧ Binds K fd ps []
/-- an exception class with an __init__ of its own, for whoever stands at level k -/
def GMk (P : Program) (w : World) (K : Fr) (mg : Str → Option Value) (base : Heap) (k : Nat) (C f : Str) : Prop := ∃ (Ca fI : Addr) (j : Nat) (fd : FuncData) (ps : List Str), j + 1 ≤ k ∧ mg C = some (.ref Ca) ∧ OexC K Ca ∧ PySem.W.findIn K (.ref Ca) f = some none ∧ PySem.W.findIn K (.ref Ca) "__init__" = some (some (.ref fI)) ∧ PySem.W.typeIn K (.ref fI) = some (.type "function") ∧
  FnOk P w K mg base (L2.CX P w) j fI fd ps (spInit K f) ∧ Binds K fd ps []
structure Ctx (P : Program) (w : World) (K : Fr) (mg : Str → Option Value) (base : Heap) (k : Nat) (S : Sg) : Prop where
  free : ∀ b ∈ blts, mg b = none
  glo : ∀ x d, S.G x = some d → ∃ u v, mg x = some u ∧ RelV v u ∧ (∀ H, Rp K H (fun _ => False) v d) ∧ ∀ ds, d ≠ .lst ds
  call : ∀ g sp, S.T g = some sp → GCall P w K mg base k g sp
  exc : ∀ f, S.X f = true → ∃ C, mg f = some (.ref C) ∧ PySem.W.excIn K C veB "ValueError.__new__" = true ∧ PySem.W.keepIn K (.ref C) = true ∧ PySem.W.subIn K (.ref C) (.type "BaseException") = some true ∧ PySem.W.typeIn K (.ref C) = some (.type "type")
  cool : S.x = none
  cls : ∀ x y b, S.sub x y = some b → ClsF0 K mg x y b
  fld : ∀ x f, S.fld x f = true → FldF0 K mg x f
  mi : ∀ C f, S.mi C = some f → GMk P w K mg base k C f
section
variable {P : Program} {w : World} {K : Fr} {mg : Str → Option Value} {base : Heap} {k : Nat} {S : Sg} {N ps : List Str} {x qual : Str} {params : Arguments} {body : List Stmt} {scope : Scope} {f : Addr} {fd : FuncData} {CX : CXT}
theorem units65 {k : Nat} {A : Around} (r : Room k A) : A.units + 65 < cLine := by have := r.un; omega
theorem Ctx.kx (c : Ctx P w K mg base k S) (Sc : FnScope N ps scope) {cdv : Value} {A : Around} {outer : List PySem.Env} {s : Shared} {H : Hp} {E : XK} (hr : Room k (A.deeper (envOfC qual scope s.heap.objs.size f cdv))) :
    Kx (cxOf CX P w K mg base N qual scope f cdv A outer s H E) S N scope false :=
  ⟨rfl, rfl, Sc.kind, fun _ => rfl, fun _ => c.cool, Sc.nd, c.free, c.glo, fun g sp h => by
    obtain ⟨fa, fd, ps, j, hj, F, hm, hk, hb⟩ := (c.call g sp h).ex
    exact ⟨fa, fd, ps, j, F, hr.mono hj, hm, hk, hb⟩, units65 hr, fun g h => ⟨c.exc g h⟩, c.cls, c.fld, fun C f h => (let ⟨Ca, fI, j, fd, ps, hj, a, b, d, e, g, F, hb⟩ := c.mi C f h; ⟨Ca, fI, j, fd, ps, a, b, d, e, g, F, hr.mono hj, hb⟩), fun a nm dd e => by rw [c.cool] at e; cases e⟩
theorem start_sr {H : Hp} {Z : Addr → Prop} {vs : List V} {ds : List D} (fs : Fsh H Z) (r : Rps K H Z vs ds) (N : List Str) : Sr K Z H H (fun _ => none) (startE N ds) (L2.start N vs) := by
  have hl := r.1
  refine ⟨by unfold startE L2.start; simp [hl], fun i k d e => ?_, Same.refl H, fun a q => absurd rfl q, fs⟩
  unfold startE at e
  by_cases hi : i < ds.length
  · rw [List.getElem?_append_left (by simpa using hi), List.getElem?_map] at e
    have e2 : ds[i]? = some ds[i] := by simp [hi]
    rw [e2] at e
    simp at e
    obtain ⟨rfl, rfl⟩ := e
    have hv : vs[i]? = some (vs[i]'(by omega)) := by simp [show i < vs.length by omega]
    refine ⟨vs[i]'(by omega), ?_, show Rp _ _ _ _ _ from (r.2 i _ _ hv e2).z fun a z => ⟨z, rfl⟩⟩
    unfold L2.start
    rw [List.getElem?_append_left (by simp; omega), List.getElem?_map, hv] <;> rfl
  · rw [List.getElem?_append_right (by simp; omega)] at e
    rw [List.getElem?_replicate] at e
    split at e <;> cases e
theorem cp_of {X : Cx} (hK : X.K = K) (hmg : X.mg = mg) {H : Hp} {Z : Addr → Prop} {o : Out} {Q : VK} {E : XK} (fs : Fsh H Z)
    (h : match o with
      | .ret k d => ∀ v H' (c : Co), Same H H' → (∀ a, c a ≠ none → H a = none ∧ Mut (H' a)) → Rk K H' Z c k [0] v d → Q v H'
      | .exc x => ∀ cls dd H', Same H H' → ExcR K mg H' cls dd x → E cls dd H'
      | .any P Ex => (∀ k d, P k d → ∀ v H' (c : Co), Same H H' → (∀ a, c a ≠ none → H a = none ∧ Mut (H' a)) → Rk K H' Z c k [0] v d → Q v H') ∧ ∀ x, Ex x → ∀ cls dd H', Same H H' → ExcR K mg H' cls dd x → E cls dd H') : Cp X (fun cls d _ H => E cls d H) Z H { nx := fun _ H' => Q .non H', rt := Q } (edOf o) := by
  subst hK hmg
  have main : ∀ k0 d0 k1 d1, (∀ v H' (c : Co), Same H H' → (∀ a, c a ≠ none → H a = none ∧ Mut (H' a)) → Rk X.K H' Z c k0 [0] v d0 → Q v H') → d1 = d0 → (k1 = k0 ∨ k0 = .sh) → ∀ v1 H1 (c1 : Co), Same H H1 → (∀ a, c1 a ≠ none → H a = none ∧ Mut (H1 a)) → Rk X.K H1 Z c1 k1 [0] v1 d1 → Q v1 H1 := fun k0 d0 k1 d1 h q1 q2 v1 H1 c1 s n r => by
    subst q1
    by_cases hk : k1 = k0
    · subst hk
      exact h v1 H1 c1 s n r
    · have hk2 := q2.resolve_left hk
      subst hk2
      exact h v1 H1 (fun _ => none) s (fun a q => absurd rfl q) (show Rp _ _ _ _ _ from r.drop (fun a o q _ => q) (fun a z => ⟨z.1, rfl⟩) fun a s z => ⟨fs a (n a (by rw [z]; exact fun z => nomatch z)).1, rfl⟩)
  refine ⟨fun ρ σ H' c w sr => ?_, fun k1 d1 v1 H1 c1 w s n r => ?_, fun x ρ σ H' c cls dd w sr r => ?_, fun _ _ _ _ w => w.elim, fun _ _ _ _ w => w.elim⟩
  · cases o with
    | ret k d =>
      cases (show Out.ret k d = .ret .sh .non from w)
      exact h .non H' (fun _ => none) sr.keep (fun a q => absurd rfl q) (show Rp _ _ _ _ _ from .non)
    | exc x => exact (show False from w).elim
    | any P Ex => exact h.1 .sh .non w .non H' (fun _ => none) sr.keep (fun a q => absurd rfl q) (show Rp _ _ _ _ _ from .non)
  · cases o with
    | exc x => exact (show False from w).elim
    | ret k0 d0 =>
      obtain ⟨q1, q2⟩ := (show d1 = d0 ∧ (k1 = k0 ∨ k0 = .sh) from w)
      exact main k0 d0 k1 d1 h q1 q2 v1 H1 c1 s n r
    | any P Ex =>
      obtain ⟨k0, p, q2⟩ := (show ∃ k, P k d1 ∧ (k1 = k ∨ k = .sh) from w)
      exact main k0 d1 k1 d1 (h.1 k0 d1 p) rfl q2 v1 H1 c1 s n r
  · cases o with
    | ret k d => exact (show False from w).elim
    | exc y =>
      cases (show Out.exc y = .exc x from w)
      exact h cls dd H' sr.keep r
    | any P Ex => exact h.2 x w cls dd H' sr.keep r
/-- THE RULE for a def by data -/
theorem def_ok (F : FunD K x qual params body scope [] [] f fd) (Sc : FnScope N ps scope) (c : Ctx P w K mg base k S) {ss : List Sm} (chk : chkSs N scope false ss body = true) {sp : Spec1} (hl : ∀ ds o, sp ds o → ds.length = ps.length) (hw : ∀ ds o, sp ds o → wpD S ss N ds o) :
    FnOk P w K mg base (L2.CX P w) (k + 1) f fd ps (spV K mg sp) := by
  refine F.ok Sc (fun vs H Q E h => ?_) (fun cdv A outer s H vs Q E hr h => ?_)
  · obtain ⟨Z, ds, o, fs, r, ho, _⟩ := h
    rw [r.1, hl ds o ho]
  · obtain ⟨Z, ds, o, fs, r, ho, q⟩ := h
    have kx := c.kx (CX := L2.CX P w) (qual := qual) (f := f) (cdv := cdv) (A := A) (outer := outer) (s := s) (H := H) (E := E) Sc hr
    refine ⟨_, soundSs ss kx ⟨rfl, rfl⟩ (fun _ => rfl) (takes_of (E := E) rfl rfl rfl rfl) (passes_of rfl) body chk, ?_⟩
    exact ⟨Z, H, fun _ => none, startE N ds, edOf o, start_sr fs r N, cp_of rfl rfl fs q, hw ds o ho⟩
/-- .. for the law: nothing leaves it -/
theorem law_ok (F : FunD K x qual params body scope [] [] f fd) (Sc : FnScope N ps scope) (c : Ctx P w K mg base k S) {ss : List Sm} (chk : chkSs N scope false ss body = true) {sp : Spec1} (hl : ∀ ds o, sp ds o → ds.length = ps.length) (hx : ∀ ds o, sp ds o → ∃ k d, o = .ret k d) (hw : ∀ ds o, sp ds o → wpD S ss N ds o) :
    FnOk P w K mg base CX0 (k + 1) f fd ps (spV K mg sp) := by
  refine F.ok Sc (fun vs H Q E h => ?_) (fun cdv A outer s H vs Q E hr h => ?_)
  · obtain ⟨Z, ds, o, fs, r, ho, _⟩ := h
    rw [r.1, hl ds o ho]
  · obtain ⟨Z, ds, o, fs, r, ho, q⟩ := h
    have kx := c.kx (CX := CX0) (qual := qual) (f := f) (cdv := cdv) (A := A) (outer := outer) (s := s) (H := H) (E := E) Sc hr
    obtain ⟨k0, d0, rfl⟩ := hx ds o ho
    have q2 : match (Out.ret k0 d0) with
      | .ret k d => ∀ v H' (c : Co), Same H H' → (∀ a, c a ≠ none → H a = none ∧ Mut (H' a)) → Rk K H' Z c k [0] v d → Q v H'
      | .exc x => ∀ cls dd H', Same H H' → ExcR K mg H' cls dd x → E0 cls dd H'
      | .any P Ex => (∀ k d, P k d → ∀ v H' (c : Co), Same H H' → (∀ a, c a ≠ none → H a = none ∧ Mut (H' a)) → Rk K H' Z c k [0] v d → Q v H') ∧ ∀ x, Ex x → ∀ cls dd H', Same H H' → ExcR K mg H' cls dd x → E0 cls dd H' := q
    refine ⟨_, soundSs ss kx ⟨rfl, rfl⟩ (fun _ => rfl) (takes0 (X := cxOf CX0 P w K mg base N qual scope f cdv A outer s H E)) (passes_of rfl) body chk, ?_⟩
    exact ⟨Z, H, fun _ => none, startE N ds, edOf (.ret k0 d0), start_sr fs r N, cp_of rfl rfl fs q2, hw ds _ ho⟩
end
/-- the law's own promise: True of every script of at most n ints -/
def lawSp (n : Nat) : Spec1 := fun ds o => ∃ ns : List Int, ns.length ≤ n ∧ ds = [.scr ns] ∧ o = .ret .sh (.bl true)
theorem law_sp {K : Fr} {mg : Str → Option Value} {n : Nat} {H : Hp} {a : Addr} {ns : List Int} (hl : ns.length ≤ n) (hS : SqL K H a (ns.map V.int)) : spV K mg (lawSp n) [.ref a] H (fun v _ => v = .bl true) fun _ _ _ => False := by
  refine ⟨fun _ => True, [.scr ns], .ret .sh (.bl true), fun _ _ => trivial, .cons (.scr ?_) .nil, ⟨ns, hl, rfl, rfl⟩, fun v H' c s n r => ?_⟩
  · rcases hS with h | h
    · exact .inl ⟨h, trivial⟩
    · exact .inr h
  · have r2 : Rp K H' _ v (.bl true) := r
    cases r2
    rfl
end SV

set_option Elab.async false
set_option linter.all false
set_option maxRecDepth 100000
set_option maxHeartbeats 1000000
namespace SV
open PySem PySem.Spec PyProof.Rows L2
/-! ### an exception class's own __init__ -/
/-- what the class above must say, so that B.__init__(self, ..) is ValueError's -/
structure BasF (K : Fr) (mg : Str → Option Value) (B : Str) : Prop where
  ex : ∃ Cb, mg B = some (.ref Cb) ∧ PySem.W.specialIn K (.ref Cb) "__getattribute__" = some (some (.builtin "type.__getattribute__")) ∧ PySem.W.readsIn K Cb (.type "type") = true ∧ PySem.W.typeIn K (.ref Cb) = some (.type "type") ∧ PySem.W.findCls K (.ref Cb) (.type "type") "__init__" = some (.val (.builtin "ValueError.__init__"))
section
variable {X : Cx} {e : Expr} {es : List Expr} {ta : TA} {p1 p2 pos : Pos} {B : Str}
theorem pe_baseinit {pl : Sem Bool} (bf : BasF X.K X.mg B) (hg : Gl X B) (hd : (B == ("__debug__" : Str)) = false) (ha : PA X (e :: es) ta)
    (hc : eval (.Call (.Attribute (.Name B p1) "__init__" p2) (e :: es) [] pos) X.env = (do
      let bv ← eval (.Name B p1) X.env
      standAt p2.atName
      let (f, first) ← holding [bv] (getMethod bv "__init__" pl)
      callWith pos f first (backTo pos (starEach (e :: es) X.env)) (backToKw pos (keywordEach [] X.env))))
    (he : starEach (e :: es) X.env = (false, eval e X.env) :: starEach es X.env) (hpl : (backTo pos (starEach es X.env)).any (·.1) = false) :
    PE X (.Call (.Attribute (.Name B p1) "__init__" p2) (e :: es) [] pos) (tVeI X.K ta) := by
  obtain ⟨Cb, hm, hga, hr, hT, hf⟩ := bf.ex
  constructor
  intro pins s σ H Q inv w
  apply PySem.W.methodCall_KW (h := ?_) (he := hc)
  apply ld_glob inv hg hm ?_ hd
  obtain ⟨m, fr⟩ := inv.fr
  apply PySem.W.method_of_cls fr inv.ok.mod.kin hga
  apply PySem.W.cls_val fr inv.ok.mod.kin hT hr hf (by decide +kernel)
  apply PyProof.Rows.callWith_method1 ?_ he hpl
  apply thn (ha.run pos pins _ σ H _ (inv.tok _) w)
  rintro us s1 ⟨vs, H1, inv1, r1, a, C, ws, rfl, hl, T, ea, q⟩
  match us, r1 with
  | u0 :: ur, .cons ra rw' =>
    obtain rfl : u0 = Value.ref a := ra
    have hz : ur.length ≤ sizeLine := by
      have := Paired.length rw'
      rw [sizeLine_eq]
      omega
    exact oinit_ok T inv1 ea hz fun s' J => ⟨V.non, H1, J, rfl, q⟩
end
theorem init_ok {P : Program} {w : World} {K : Fr} {mg : Str → Option Value} {base : Heap} {x qual : Str} {params : Arguments} {body : List Stmt} {scope : Scope} {f : Addr} {fd : FuncData} {B pn fl m : Str} {p1 p2 p3 p4 p5 p6 p7 p8 p9 p10 : Pos} {j : Nat}
    (F : FunD K x qual params body scope [] [] f fd) (Sc : FnScope ["self", pn] ["self", pn] scope)
    (hb : body = [.Expr (.Call (.Attribute (.Name B p1) "__init__" p2) [.Name "self" p3, .Constant (.str m) j p4] [] p5) p6, .Assign [.Attribute (.Name "self" p7) fl p8] (.Name pn p9) p10])
    (hs : visB scope "self" = true) (hp : visB scope pn = true) (hB : gloB scope B = true) (d1 : (pn == ("__debug__" : Str)) = false) (d2 : (pn == ("__classdict__" : Str)) = false) (bf : BasF K mg B)
    (hc : ∀ env : PySem.Env, ∃ pl : Sem Bool, eval (.Call (.Attribute (.Name B p1) "__init__" p2) [.Name "self" p3, .Constant (.str m) j p4] [] p5) env = (do
      let bv ← eval (.Name B p1) env
      standAt p2.atName
      let (f, first) ← holding [bv] (getMethod bv "__init__" pl)
      callWith p5 f first (backTo p5 (starEach [.Name "self" p3, .Constant (.str m) j p4] env)) (backToKw p5 (keywordEach [] env)))) : FnOk P w K mg base (L2.CX P w) 1 f fd ["self", pn] (spInit K fl) := by
  subst hb
  have vis : ∀ y, visB scope y = true → Vis scope y := fun y h => by
    unfold visB at h
    split at h <;> first | exact .inl (by assumption) | exact .inr (.inl (by assumption)) | exact .inr (.inr (by assumption)) | cases h
  refine F.ok Sc (fun vs H Q E h => ?_) (fun cdv A outer s H vs Q E hr h => ?_)
  · obtain ⟨a, C, n, rfl, _⟩ := h
    rfl
  · obtain ⟨hB1, hB2⟩ := b2 hB
    have gl : scope.names.lookup B = some .globalImplicit := by
      split at hB1 <;> first | assumption | cases hB1
    obtain ⟨pl, hc⟩ := hc (cxOf (L2.CX P w) P w K mg base ["self", pn] qual scope f cdv A outer s H E).env
    refine ⟨_, pss_cons (ps_expr (pe_baseinit (pl := pl) bf gl (nb hB2) (pa_cons (pe_var (i := 0) rfl (vis _ hs) (by decide) (by decide)) (pa_cons pe_str pa_nil rfl) rfl) hc rfl rfl) rfl) (pss_one (ps_ost (pe_var (i := 0) rfl (vis _ hs) (by decide) (by decide)) (pe_var (i := 1) rfl (vis _ hp) d1 d2))), ?_⟩
    obtain ⟨a, C, n, rfl, T, hno, ea, q⟩ := h
    refine ⟨.ref a, rfl, ?_⟩
    refine ⟨a, C, [.str m], rfl, by simp, T, ea, ?_⟩
    exact ⟨.int n, rfl, .ref a, rfl, a, C, rfl, T, hno, .inl ⟨ea, fun dx nd ne => q dx nd ne⟩⟩
/-! ### what the written part is asked for all this, by Bools -/
def oexB (K : Fr) (C : Addr) : Bool := match K.lookup C with
  | some ⟨cl, _, .cls cd, ⟨sl⟩⟩ => (match cd.mro, sl with
    | .ref C' :: bm, [_, _, _, _, some (.builtin n), _] => decide (cl = .type "type") && decide (C' = C) && !cd.hasDel && cd.hasDict && decide (n = "ValueError.__new__") && PySem.HandSPX.refsVE bm
    | _, _ => false)
  | _ => false
def oexAll (K : Fr) (C : Addr) : Bool := oexB K C && decide (PySem.W.findIn K (.ref C) "__setattr__" = some (some (.builtin "object.__setattr__"))) && decide (PySem.W.subIn K (.ref C) (.type "BaseException") = some true) && decide (PySem.W.typeIn K (.ref C) = some (.type "type")) && PySem.W.keepIn K (.ref C)
theorem oexB_ok {K : Fr} {C : Addr} (h : oexB K C = true) : ∃ nm q N bs bm sn sub ab col dd k0 k1 k2 k3 k5, K.lookup C = some (excClassObj nm q C N bs bm true sn sub ab col dd k0 k1 k2 k3 k5 "ValueError.__new__") ∧ PySem.HandSPX.refsVE bm = true := by
  unfold oexB at h
  split at h
  · rename_i cl dd cd sl hl
    split at h
    · rename_i C' bm k0 k1 k2 k3 n k5 hm
      obtain ⟨h, h6⟩ := b2 h
      obtain ⟨h, h5⟩ := b2 h
      obtain ⟨h, h4⟩ := b2 h
      obtain ⟨h, h3⟩ := b2 h
      obtain ⟨h1, h2⟩ := b2 h
      obtain rfl := of_decide_eq_true h1
      obtain rfl := of_decide_eq_true h2
      obtain rfl := of_decide_eq_true h5
      obtain ⟨nm, bs, mro, ns, qn, hd, sn, sub, ab, col, del⟩ := cd
      dsimp only at hm h3 h4
      obtain rfl := hm
      obtain rfl : del = false := nb h3
      obtain rfl : hd = true := h4
      exact ⟨nm, qn, ns, bs, bm, sn, sub, ab, col, dd, k0, k1, k2, k3, k5, hl, h6⟩
    · cases h
  · cases h
theorem oex_ok {K : Fr} {C : Addr} (h : oexAll K C = true) : OexC K C := by
  unfold oexAll at h
  obtain ⟨h, h5⟩ := b2 h
  obtain ⟨h, h4⟩ := b2 h
  obtain ⟨h, h3⟩ := b2 h
  obtain ⟨h1, h2⟩ := b2 h
  exact ⟨oexB_ok h1, of_decide_eq_true h2, of_decide_eq_true h3, of_decide_eq_true h4, h5⟩
def excB (K : Fr) (D : Addr) : Bool := decide (PySem.W.findIn K (.ref D) "__getattribute__" = some (some (.builtin "BaseException.__getattribute__"))) && decide (PySem.W.findIn K (.ref D) "__getattr__" = some none) && decide (PySem.W.subIn K (.ref D) (.type "BaseException") = some true) && PySem.W.hasDictIn K D &&
  decide (PySem.W.findIn K (.ref D) "__class__" = some (some (.builtin "object.__class__"))) && decide (PySem.W.specialIn K (.builtin "object.__class__") "__get__" = some (some (.builtin "getset_descriptor.__get__"))) && decide (PySem.W.takesIn K (.builtin "object.__class__") = some true) && decide (PySem.W.mroIn K D (.type "object") = some true)
theorem exc_ok {K : Fr} {D : Addr} (h : excB K D = true) : ExcC K D := by
  unfold excB at h
  obtain ⟨h, h8⟩ := b2 h
  obtain ⟨h, h7⟩ := b2 h
  obtain ⟨h, h6⟩ := b2 h
  obtain ⟨h, h5⟩ := b2 h
  obtain ⟨h, h4⟩ := b2 h
  obtain ⟨h, h3⟩ := b2 h
  obtain ⟨h1, h2⟩ := b2 h
  exact ⟨of_decide_eq_true h1, of_decide_eq_true h2, of_decide_eq_true h3, h4, of_decide_eq_true h5, of_decide_eq_true h6, of_decide_eq_true h7, of_decide_eq_true h8⟩
def gloAt (K : Fr) (x : Str) : Bool := He.Fa.ok K (.glo x)
/-- x is a class; isinstance of it and of y -/
def clsB (K : Fr) (q : Str × Str × Bool) : Bool := gloAt K q.1 && excB K (He.ga K q.1) && (if q.2.1 = "ValueError" then He.Fa.ok K (.free "ValueError") && decide (PySem.W.kitOne K (.ref (He.ga K q.1)) (.type "ValueError") = some q.2.2) else
  gloAt K q.2.1 && decide (PySem.W.kitOne K (.ref (He.ga K q.1)) (.ref (He.ga K q.2.1)) = some q.2.2) && decide (PySem.W.exmOne K (.ref (He.ga K q.1)) (.ref (He.ga K q.2.1)) = some q.2.2))
def fldB (K : Fr) (q : Str × Str) : Bool := gloAt K q.1 && xfB K (He.ga K q.1) && decide (PySem.W.findIn K (.ref (He.ga K q.1)) q.2 = some none)
def basB (K : Fr) (B : Str) : Bool := gloAt K B && decide (PySem.W.specialIn K (.ref (He.ga K B)) "__getattribute__" = some (some (.builtin "type.__getattribute__"))) && PySem.W.readsIn K (He.ga K B) (.type "type") && decide (PySem.W.typeIn K (.ref (He.ga K B)) = some (.type "type")) &&
  (match PySem.W.findCls K (.ref (He.ga K B)) (.type "type") "__init__" with
    | some (.val (.builtin n)) => decide (n = "ValueError.__init__")
    | _ => false)
def miB (K : Fr) (q : Str × Str) : Bool := gloAt K q.1 && oexAll K (He.ga K q.1) && decide (PySem.W.findIn K (.ref (He.ga K q.1)) q.2 = some none) && decide (PySem.W.findIn K (.ref (He.ga K q.1)) "__init__" = some (some (.ref (He.ma K (He.ga K q.1) "__init__")))) && decide (PySem.W.typeIn K (.ref (He.ma K (He.ga K q.1) "__init__")) = some (.type "function"))
section
variable {K : Fr} {h : Heap} {mg : Str → Option Value}
theorem cls_ok (X : K.In h) (G : h.Ns mainGlobals mg) {q : Str × Str × Bool} (c : clsB K q = true) : ClsF0 K mg q.1 q.2.1 q.2.2 := by
  unfold clsB at c
  obtain ⟨c, c3⟩ := b2 c
  obtain ⟨c1, c2⟩ := b2 c
  refine ⟨_, He.glo_ok X G c1, exc_ok c2, ?_⟩
  split at c3
  · rename_i e
    obtain ⟨c3, c4⟩ := b2 c3
    exact ⟨_, of_decide_eq_true c4, .inr ⟨by rw [e]; exact He.free_ok X G c3, e, rfl⟩⟩
  · obtain ⟨c3, c5⟩ := b2 c3
    obtain ⟨c3, c4⟩ := b2 c3
    exact ⟨_, of_decide_eq_true c4, .inl ⟨He.glo_ok X G c3, ⟨_, rfl⟩, of_decide_eq_true c5⟩⟩
theorem fld_ok (X : K.In h) (G : h.Ns mainGlobals mg) {q : Str × Str} (c : fldB K q = true) : FldF0 K mg q.1 q.2 := by
  unfold fldB at c
  obtain ⟨c, c3⟩ := b2 c
  obtain ⟨c1, c2⟩ := b2 c
  exact ⟨_, He.glo_ok X G c1, xfB_ok c2, of_decide_eq_true c3⟩
theorem bas_ok (X : K.In h) (G : h.Ns mainGlobals mg) {B : Str} (c : basB K B = true) : BasF K mg B := by
  unfold basB at c
  obtain ⟨c, c5⟩ := b2 c
  obtain ⟨c, c4⟩ := b2 c
  obtain ⟨c, c3⟩ := b2 c
  obtain ⟨c1, c2⟩ := b2 c
  refine ⟨_, He.glo_ok X G c1, of_decide_eq_true c2, c3, of_decide_eq_true c4, ?_⟩
  split at c5
  · rename_i n e
    rw [e, of_decide_eq_true c5]
  · cases c5
theorem mi_ok {P : Program} {w : World} {base : Heap} {j k : Nat} {fd : FuncData} {ps : List Str} (X : K.In h) (G : h.Ns mainGlobals mg) {q : Str × Str} (c : miB K q = true) (F : FnOk P w K mg base (L2.CX P w) j (He.ma K (He.ga K q.1) "__init__") fd ps (spInit K q.2)) (hb : Binds K fd ps []) (hj : j + 1 ≤ k) : GMk P w K mg base k q.1 q.2 := by
  unfold miB at c
  obtain ⟨c, c5⟩ := b2 c
  obtain ⟨c, c4⟩ := b2 c
  obtain ⟨c, c3⟩ := b2 c
  obtain ⟨c1, c2⟩ := b2 c
  exact ⟨_, _, j, fd, ps, hj, He.glo_ok X G c1, oex_ok c2, of_decide_eq_true c3, of_decide_eq_true c4, of_decide_eq_true c5, F, hb⟩
end
end SV

set_option Elab.async false
set_option linter.all false
set_option maxRecDepth 100000
set_option maxHeartbeats 1000000
namespace SV
open PySem PySem.Spec PyProof.Rows L2
@[simp] theorem fOr_t {c : Bool} {a b : Prop} (h : c = true) : fOr c a b = a := if_pos h
@[simp] theorem fOr_f {c : Bool} {a b : Prop} (h : c = false) : fOr c a b = b := if_neg (by simp [h])
theorem fzE_nil {ρ : Env} : fzE [] ρ = ρ := by
  refine List.ext_getElem? fun i => ?_
  rw [fzE_at]
  cases ρ[i]? <;> simp
@[simp] theorem fz0 {ρ : Env} : fzE [] ρ = ρ := fzE_nil
@[simp] theorem mv0 {ρ : Env} : mvE [] ρ = ρ := mvE_nil
@[simp] theorem fl_ints : ∀ (l : List Int), flDs (l.map D.int) = true
  | [] => rfl
  | a :: l => by simp [flDs, flD, fl_ints l]
@[simp] theorem fl_ints2 (l : List Int) : (l.map D.int).all (flK .sh) = true := List.all_eq_true.mpr fun x hx => by
  obtain ⟨i, _, rfl⟩ := List.mem_map.mp hx
  rfl
theorem at_nn {α : Type} {xs : List α} {i : Int} (h0 : 0 ≤ i) (h1 : i < xs.length) : atI xs i = xs[i.toNat]? := by
  unfold atI ixN
  rw [if_pos h0, if_pos h1] <;> rfl
theorem at_intN {l : List Int} {i : Int} (h0 : 0 ≤ i) (h1 : i < l.length) : atI l i = some (l.getD i.toNat 0) := by
  rw [at_nn h0 h1]
  have : i.toNat < l.length := by omega
  simp [this]
theorem at_int {l : List Int} {i : Int} (h0 : 0 ≤ i) (h1 : i < l.length) : atI (l.map D.int) i = some (.int (l.getD i.toNat 0)) := atI_map (at_intN h0 h1)
theorem at_last {α : Type} {xs : List α} {x : α} : atI (xs ++ [x]) (-1) = some x := by
  unfold atI ixN
  rw [if_neg (by decide), if_pos (by simp; omega)]
  simp
  rw [show ((-1 : Int) + (xs.length + 1)).toNat = xs.length by omega]
  simp
theorem unf {S : Sg} {b l : List Sm} (e : b = l) {Dd : Ed} {ρ : Env} (h : wpB' S l Dd ρ) : wpB' S b Dd ρ := e ▸ h
theorem unfD {S : Sg} {b l : List Sm} (e : b = l) {N : List Str} {ds : List D} {o : Out} (h : wpB' S l (edOf o) (startE N ds)) : wpD S b N ds o := e ▸ h
theorem stp {S : Sg} {s : Sm} {ss : List Sm} {Dd : Ed} {ρ : Env} (h : wpS S s { Dd with nx := fun ρ => wpB' S ss Dd ρ } ρ) : wpB' S (s :: ss) Dd ρ := h
theorem wpBnil {S : Sg} {Dd : Ed} {ρ : Env} : wpB' S [] Dd ρ = Dd.nx ρ := rfl
end SV

set_option Elab.async false
set_option linter.all false
set_option maxRecDepth 100000
set_option maxHeartbeats 1000000
namespace SV
open PySem PySem.Spec PyProof.Rows L2
/-- running_sums: 0 roll 1 told 2 weight -/
abbrev N_running_sums : List Str := ["roll", "told", "weight"]
abbrev P_running_sums : List Str := ["roll"]
def b_running_sums_1 : List Sm :=
   [.app 1 (.e (.bin .add (.idx (.var 1) (.neg (.int 1))) (.var 2))) false]
def s_running_sums : List Sm :=
   [.asg 1 (.e (.lst [.int 0])),
    .for_ (.nm 2) .seq [.var 0] b_running_sums_1,
    .ret (.mv 1)]
/-- ends_well: 0 sums 1 kind 2 end 3 place -/
abbrev N_ends_well : List Str := ["sums", "kind", "end", "place"]
abbrev P_ends_well : List Str := ["sums", "kind", "end"]
def s_ends_well : List Sm :=
   [.asg 3 (.e (.bin .sub (.var 2) (.idx (.var 1) (.int 1)))),
    .ret (.e (.and [.cmp .ge (.var 3) (.int 0), .cmp .le (.bin .sub (.idx (.var 0) (.var 2)) (.idx (.var 0) (.var 3))) (.idx (.var 1) (.int 3))]))]
/-- heights: 0 roll 1 table 2 sums 3 told 4 end 5 greatest 6 kind -/
abbrev N_heights : List Str := ["roll", "table", "sums", "told", "end", "greatest", "kind"]
abbrev P_heights : List Str := ["roll", "table"]
def b_heights_1 : List Sm :=
   [.ife (.call "ends_well" [.var 2, .var 6, .var 4]) [.asg 5 (.e (.bi .max2 [.var 5, .bin .add (.idx (.var 3) (.bin .sub (.var 4) (.idx (.var 6) (.int 1)))) (.idx (.var 6) (.int 2))]))] []]
def b_heights_2 : List Sm :=
   [.asg 5 (.e (.idx (.var 3) (.neg (.int 1)))),
    .for_ (.nm 6) .seq [.var 1] b_heights_1,
    .app 3 (.e (.var 5)) false]
def s_heights : List Sm :=
   [.asg 2 (.cl "running_sums" [.var 0]),
    .asg 3 (.e (.lst [.int 0])),
    .for_ (.nm 4) .rng [.int 1, .bi .len [.var 2]] b_heights_2,
    .ret (.mv 3)]
/-- prices: 0 roll 1 table 2 high 3 at -/
abbrev N_prices : List Str := ["roll", "table", "high", "at"]
abbrev P_prices : List Str := ["roll", "table"]
def s_prices : List Sm :=
   [.asg 2 (.cl "heights" [.var 0, .var 1]),
    .ret (.e (.comp [("at", 3)] (.nm 3) .rng [.bi .len [.var 0]] [] (.bin .sub (.idx (.var 2) (.bin .add (.var 3) (.int 1))) (.idx (.var 2) (.var 3)))))]
/-- _law_cell: 0 _law_script 1 _law_place 2 _law_seed 3 _law_cell_here -/
abbrev N__law_cell : List Str := ["_law_script", "_law_place", "_law_seed", "_law_cell_here"]
abbrev P__law_cell : List Str := ["_law_script", "_law_place"]
def b__law_cell_1 : List Sm :=
   [.asg 2 (.e (.bin .mod (.bin .add (.bin .add (.bin .mul (.var 2) (.int 48271)) (.bin .mod (.var 3) (.int 1000003))) (.int 1)) (.int 2147483647)))]
def s__law_cell : List Sm :=
   [.ife (.cmp .lt (.var 1) (.bi .len [.var 0])) [.ret (.e (.idx (.var 0) (.var 1)))] [],
    .asg 2 (.e (.int 5)),
    .for_ (.nm 3) .seq [.slc (.var 0) [] [.int 63]] b__law_cell_1,
    .ret (.e (.bin .mod (.bin .add (.var 2) (.bin .mul (.int 7919) (.var 1))) (.int 1000003)))]
/-- _law_mix: 0 _law_cell_here 1 _law_k 2 _law_one 3 _law_two -/
abbrev N__law_mix : List Str := ["_law_cell_here", "_law_k", "_law_one", "_law_two"]
abbrev P__law_mix : List Str := ["_law_cell_here", "_law_k"]
def s__law_mix : List Sm :=
   [.asg 2 (.e (.bin .mod (.bin .pow (.bin .add (.bin .add (.bin .mod (.var 0) (.int 2147483629)) (.bin .mul (.int 1013) (.var 1))) (.int 7919)) (.int 3)) (.int 2147483647))),
    .asg 3 (.e (.bin .mod (.bin .add (.bin .add (.bin .mul (.var 2) (.int 40699)) (.bin .mul (.bin .mul (.int 3793) (.var 1)) (.var 1))) (.int 11)) (.int 2147483399))),
    .ret (.e (.bin .fdiv (.var 3) (.int 101)))]
/-- _law_row: 0 _law_script 1 _law_place 2 _law_sizes 3 _law_cell_here 4 _law_left 5 _law_some 6 _law_k 7 _law_other -/
abbrev N__law_row : List Str := ["_law_script", "_law_place", "_law_sizes", "_law_cell_here", "_law_left", "_law_some", "_law_k", "_law_other"]
abbrev P__law_row : List Str := ["_law_script", "_law_place", "_law_sizes"]
def b__law_row_1 : List Sm :=
   [.ife (.cmp .lt (.var 3) (.bin .pow (.int 10) (.int 18))) [.app 5 (.e (.bin .mod (.call "_law_mix" [.var 3, .var 6]) (.idx (.var 2) (.var 6)))) false] [.ife (.cmp .gt (.var 4) (.int 0)) [.app 5 (.e (.bin .mod (.var 4) (.idx (.var 2) (.var 6)))) false,
    .asg 4 (.e (.bin .fdiv (.var 4) (.idx (.var 2) (.var 6))))] [.asg 7 (.cl "_law_cell" [.var 0, .bin .mod (.bin .add (.bin .add (.var 1) (.int 1)) (.var 6)) (.int 63)]),
    .app 5 (.e (.bin .mod (.call "_law_mix" [.var 7, .var 6]) (.idx (.var 2) (.var 6)))) false]]]
def s__law_row : List Sm :=
   [.asg 3 (.cl "_law_cell" [.var 0, .var 1]),
    .asg 4 (.e (.var 3)),
    .asg 5 (.e (.lst [])),
    .for_ (.nm 6) .rng [.bi .len [.var 2]] b__law_row_1,
    .ret (.mv 5)]
/-- _law_table: 0 _law_script 1 _law_place 2 _law_most 3 _law_pool 4 _law_some 5 _law_flaw_here 6 _law_gain 7 _law_table_here 8 _law_k 9 _law_at 10 _law_width 11 _law_worth 12 _law_allowed 13 _law_name -/
abbrev N__law_table : List Str := ["_law_script", "_law_place", "_law_most", "_law_pool", "_law_some", "_law_flaw_here", "_law_gain", "_law_table_here", "_law_k", "_law_at", "_law_width", "_law_worth", "_law_allowed", "_law_name"]
abbrev P__law_table : List Str := ["_law_script", "_law_place", "_law_most"]
def b__law_table_1 : List Sm :=
   [.asg 9 (.e (.bin .add (.bin .mul (.int 3) (.var 8)) (.int 6))),
    .asg 10 (.e (.idx (.lst [.int 1, .int 2, .int 3, .int 4, .int 5, .int 6, .int 2, .int 3, .int 11, .int 40, .idx (.lst [.int 150, .int 200]) (.bin .mod (.var 8) (.int 2))]) (.idx (.var 4) (.var 9)))),
    .asg 11 (.e (.bin .add (.int 1) (.idx (.var 4) (.bin .add (.var 9) (.int 1))))),
    .ife (.cmp .eq (.idx (.var 4) (.int 3)) (.int 1)) [.asg 11 (.e (.bin .add (.bin .mul (.int 3) (.var 10)) (.bin .mod (.idx (.var 4) (.bin .add (.var 9) (.int 1))) (.int 4))))] [],
    .ife (.cmp .eq (.idx (.var 4) (.int 3)) (.int 2)) [.asg 11 (.e (.bin .add (.int 1) (.bin .mod (.idx (.var 4) (.bin .add (.var 9) (.int 1))) (.int 3))))] [],
    .ife (.cmp .eq (.idx (.var 4) (.int 3)) (.int 3)) [.asg 11 (.e (.var 10))] [],
    .asg 12 (.e (.bi .min2 [.bin .mul (.idx (.lst [.int 0, .int 0, .int 1, .int 2, .int 3, .int 12]) (.idx (.var 4) (.bin .add (.var 9) (.int 2)))) (.var 5), .bin .sub (.bin .pow (.int 10) (.int 18)) (.int 1)])),
    .asg 13 (.e (.idx (.var 3) (.bin .mod (.bin .add (.idx (.var 4) (.int 4)) (.bin .mul (.bin .add (.bin .mul (.int 2) (.idx (.var 4) (.int 5))) (.int 1)) (.var 8))) (.int 16)))),
    .app 7 (.e (.tup [.var 13, .var 10, .bi .min2 [.bin .mul (.var 11) (.var 6), .bin .pow (.int 10) (.int 18)], .var 12])) false]
def s__law_table : List Sm :=
   [.asg 3 (.e (.lst [.str "a", .str "ab", .str "abc", .str "b", .str "ba", .str "z", .str "zzzzzzzz", .str "roll", .str "cut", .str "by"])),
    .asg 3 (.e (.bin .add (.var 3) (.lst [.str "aab", .str "zz", .str "kind", .str "qsvw", .str "fghjmp", .str "x"]))),
    .asg 4 (.cl "_law_row" [.var 0, .var 1, .bin .add (.lst [.bin .add (.var 2) (.int 1), .int 4, .int 4, .int 4, .int 16, .int 4]) (.bin .mul (.lst [.int 11, .int 40, .int 6]) (.var 2))]),
    .asg 5 (.e (.idx (.lst [.int 1, .int 1, .int 7, .bin .pow (.int 10) (.int 17)]) (.idx (.var 4) (.int 1)))),
    .asg 6 (.e (.idx (.lst [.int 1, .int 1, .bin .pow (.int 10) (.int 6), .bin .mul (.int 25) (.bin .pow (.int 10) (.int 15))]) (.idx (.var 4) (.int 2)))),
    .asg 7 (.e (.lst [])),
    .for_ (.nm 8) .rng [.idx (.var 4) (.int 0)] b__law_table_1,
    .ret (.mv 7)]
/-- _law_flaw: 0 _law_script 1 _law_place 2 _law_most -/
abbrev N__law_flaw : List Str := ["_law_script", "_law_place", "_law_most"]
abbrev P__law_flaw : List Str := ["_law_script", "_law_place", "_law_most"]
def s__law_flaw : List Sm :=
   [.ret (.e (.idx (.lst [.int 1, .int 1, .int 7, .bin .pow (.int 10) (.int 17)]) (.idx (.call "_law_row" [.var 0, .var 1, .lst [.bin .add (.var 2) (.int 1), .int 4]]) (.int 1))))]
/-- _law_roll: 0 _law_script 1 _law_place 2 _law_most 3 _law_flaw_here 4 _law_some 5 _law_great 6 _law_roll_here 7 _law_k 8 _law_at 9 _law_weight -/
abbrev N__law_roll : List Str := ["_law_script", "_law_place", "_law_most", "_law_flaw_here", "_law_some", "_law_great", "_law_roll_here", "_law_k", "_law_at", "_law_weight"]
abbrev P__law_roll : List Str := ["_law_script", "_law_place", "_law_most", "_law_flaw_here"]
def b__law_roll_1 : List Sm :=
   [.asg 8 (.e (.bin .add (.bin .mul (.int 2) (.var 7)) (.int 3))),
    .asg 9 (.e (.int 0)),
    .ife (.cmp .lt (.idx (.var 4) (.var 8)) (.idx (.lst [.int 0, .int 1, .int 3, .int 6]) (.idx (.var 4) (.int 1)))) [.asg 9 (.e (.idx (.lst [.var 3, .var 3, .bin .mul (.int 2) (.var 3), .bin .mul (.int 3) (.var 3), .var 5]) (.idx (.var 4) (.bin .add (.var 8) (.int 1)))))] [],
    .app 6 (.e (.var 9)) false]
def s__law_roll : List Sm :=
   [.asg 4 (.cl "_law_row" [.var 0, .var 1, .bin .add (.lst [.bin .add (.var 2) (.int 1), .int 4, .int 3]) (.bin .mul (.lst [.int 8, .int 5]) (.var 2))]),
    .asg 5 (.e (.bin .mul (.int 9) (.var 3))),
    .ife (.cmp .eq (.idx (.var 4) (.int 2)) (.int 0)) [.asg 5 (.e (.bin .pow (.int 10) (.int 18)))] [],
    .asg 6 (.e (.lst [])),
    .for_ (.nm 7) .rng [.idx (.var 4) (.int 0)] b__law_roll_1,
    .ret (.mv 6)]
/-- _law_drawn: 0 _law_script 1 _law_place 2 _law_most 3 _law_kinds 4 _law_flaw_here -/
abbrev N__law_drawn : List Str := ["_law_script", "_law_place", "_law_most", "_law_kinds", "_law_flaw_here"]
abbrev P__law_drawn : List Str := ["_law_script", "_law_place", "_law_most", "_law_kinds"]
def s__law_drawn : List Sm :=
   [.asg 4 (.cl "_law_flaw" [.var 0, .var 1, .var 3]),
    .ret (.t2 (.cl "_law_roll" [.var 0, .bin .add (.var 1) (.int 1), .var 2, .var 4]) (.cl "_law_table" [.var 0, .var 1, .var 3]))]
/-- _law_sums: 0 _law_roll_here 1 _law_sums_here 2 _law_weight -/
abbrev N__law_sums : List Str := ["_law_roll_here", "_law_sums_here", "_law_weight"]
abbrev P__law_sums : List Str := ["_law_roll_here"]
def b__law_sums_1 : List Sm :=
   [.app 1 (.e (.bin .add (.idx (.var 1) (.neg (.int 1))) (.var 2))) false]
def s__law_sums : List Sm :=
   [.asg 1 (.e (.lst [.int 0])),
    .for_ (.nm 2) .seq [.var 0] b__law_sums_1,
    .ret (.mv 1)]
/-- _law_good: 0 _law_sums_here 1 _law_kind 2 _law_at 3 _law_end -/
abbrev N__law_good : List Str := ["_law_sums_here", "_law_kind", "_law_at", "_law_end"]
abbrev P__law_good : List Str := ["_law_sums_here", "_law_kind", "_law_at"]
def s__law_good : List Sm :=
   [.asg 3 (.e (.bin .add (.var 2) (.idx (.var 1) (.int 1)))),
    .ife (.or [.cmp .lt (.var 2) (.int 0), .cmp .ge (.var 3) (.bi .len [.var 0])]) [.ret (.e (.bl false))] [],
    .ret (.e (.cmp .le (.bin .sub (.idx (.var 0) (.var 3)) (.idx (.var 0) (.var 2))) (.idx (.var 1) (.int 3))))]
/-- _law_heights: 0 _law_roll_here 1 _law_table_here 2 _law_sums_here 3 _law_high 4 _law_end 5 _law_most 6 _law_kind 7 _law_at -/
abbrev N__law_heights : List Str := ["_law_roll_here", "_law_table_here", "_law_sums_here", "_law_high", "_law_end", "_law_most", "_law_kind", "_law_at"]
abbrev P__law_heights : List Str := ["_law_roll_here", "_law_table_here"]
def b__law_heights_1 : List Sm :=
   [.asg 7 (.e (.bin .sub (.var 4) (.idx (.var 6) (.int 1)))),
    .ife (.call "_law_good" [.var 2, .var 6, .var 7]) [.asg 5 (.e (.bi .max2 [.var 5, .bin .add (.idx (.var 3) (.var 7)) (.idx (.var 6) (.int 2))]))] []]
def b__law_heights_2 : List Sm :=
   [.asg 5 (.e (.idx (.var 3) (.neg (.int 1)))),
    .for_ (.nm 6) .seq [.var 1] b__law_heights_1,
    .app 3 (.e (.var 5)) false]
def s__law_heights : List Sm :=
   [.asg 2 (.cl "_law_sums" [.var 0]),
    .asg 3 (.e (.lst [.int 0])),
    .for_ (.nm 4) .rng [.int 1, .bi .len [.var 2]] b__law_heights_2,
    .ret (.mv 3)]
/-- _law_shown: 0 _law_roll_here 1 _law_table_here 2 _law_costs 3 _law_price 4 _law_sums_here 5 _law_paid 6 _law_kind 7 _law_at -/
abbrev N__law_shown : List Str := ["_law_roll_here", "_law_table_here", "_law_costs", "_law_price", "_law_sums_here", "_law_paid", "_law_kind", "_law_at"]
abbrev P__law_shown : List Str := ["_law_roll_here", "_law_table_here", "_law_costs"]
def b__law_shown_1 : List Sm :=
   [.ife (.cmp .lt (.var 3) (.int 0)) [.ret (.e (.non))] []]
def b__law_shown_2 : List Sm :=
   [.ife (.and [.call "_law_good" [.var 4, .var 6, .var 7], .cmp .lt (.bin .sub (.idx (.var 5) (.bin .add (.var 7) (.idx (.var 6) (.int 1)))) (.idx (.var 5) (.var 7))) (.idx (.var 6) (.int 2))]) [.ret (.e (.non))] []]
def b__law_shown_3 : List Sm :=
   [.for_ (.nm 7) .rng [.bi .len [.var 0]] b__law_shown_2]
def s__law_shown : List Sm :=
   [.ife (.cmp .ne (.bi .len [.var 2]) (.bi .len [.var 0])) [.ret (.e (.non))] [],
    .for_ (.nm 3) .seq [.var 2] b__law_shown_1,
    .asg 4 (.cl "_law_sums" [.var 0]),
    .asg 5 (.cl "_law_sums" [.var 2]),
    .for_ (.nm 6) .seq [.var 1] b__law_shown_3,
    .ret (.e (.idx (.var 5) (.neg (.int 1))))]
/-- _law_is_whole: 0 _law_one -/
abbrev N__law_is_whole : List Str := ["_law_one"]
abbrev P__law_is_whole : List Str := ["_law_one"]
def s__law_is_whole : List Sm :=
   [.ret (.e (.and [.isi (.var 0) .int, .not (.isi (.var 0) .bool)]))]
/-- _law_right: 0 _law_found 1 _law_roll_here 2 _law_table_here 3 _law_one -/
abbrev N__law_right : List Str := ["_law_found", "_law_roll_here", "_law_table_here", "_law_one"]
abbrev P__law_right : List Str := ["_law_found", "_law_roll_here", "_law_table_here"]
def b__law_right_1 : List Sm :=
   [.ife (.not (.call "_law_is_whole" [.var 3])) [.ret (.e (.bl false))] []]
def s__law_right : List Sm :=
   [.ife (.not (.isi (.var 0) .list)) [.ret (.e (.bl false))] [],
    .for_ (.nm 3) .seq [.var 0] b__law_right_1,
    .ret (.e (.cmp .eq (.call "_law_shown" [.var 1, .var 2, .var 0]) (.idx (.call "_law_heights" [.var 1, .var 2]) (.neg (.int 1)))))]
/-- law: 0 _law_script 1 _law_most 2 _law_handed 3 _law_found 4 _law_roll_here 5 _law_table_here -/
abbrev N_law : List Str := ["_law_script", "_law_most", "_law_handed", "_law_found", "_law_roll_here", "_law_table_here"]
abbrev P_law : List Str := ["_law_script"]
def s_law : List Sm :=
   [.asg 1 (.e (.int 40)),
    .ife (.cmp .eq (.idx (.call "_law_row" [.var 0, .int 2, .lst [.int 4]]) (.int 0)) (.int 0)) [.asg 1 (.e (.int 200))] [],
    .asgT (.tp [.nm 4, .nm 5]) (.call "_law_drawn" [.var 0, .int 0, .var 1, .int 8]),
    .asg 2 (.e (.lst [.bi .list [.var 4], .bi .list [.var 5]])),
    .asg 3 (.cl "prices" [.idx (.var 2) (.int 0), .idx (.var 2) (.int 1)]),
    .ife (.or [.not (.call "_law_right" [.var 3, .var 4, .var 5]), .cmp .ne (.var 2) (.lst [.var 4, .var 5])]) [.ret (.e (.bl false))] [],
    .app 3 (.e (.int 0)) false,
    .ret (.cl "_law_right" [.call "prices" [.idx (.var 2) (.int 0), .idx (.var 2) (.int 1)], .var 4, .var 5])]
end SV

set_option Elab.async false
set_option linter.all false
set_option maxRecDepth 100000
set_option maxHeartbeats 1000000
namespace SV
open PySem PySem.Spec PyProof.Rows L2
/-- kind_of12: 0 table 1 name 2 kind -/
abbrev N_kind_of12 : List Str := ["table", "name", "kind"]
abbrev P_kind_of12 : List Str := ["table", "name"]
def b_kind_of12_1 : List Sm :=
   [.ife (.cmp .eq (.idx (.var 2) (.int 0)) (.var 1)) [.ret (.mv 2)] []]
def s_kind_of12 : List Sm :=
   [.for_ (.nm 2) .seq [.var 0] b_kind_of12_1,
    .raise "NoKind" "no kind of that name"]
/-- names12: 0 table 1 kind -/
abbrev N_names12 : List Str := ["table", "kind"]
abbrev P_names12 : List Str := ["table"]
def s_names12 : List Sm :=
   [.ret (.e (.comp [("kind", 1)] (.nm 1) .seq [.var 0] [] (.idx (.var 1) (.int 0))))]
/-- end_of12: 0 table 1 piece 2 place 3 name -/
abbrev N_end_of12 : List Str := ["table", "piece", "place", "name"]
abbrev P_end_of12 : List Str := ["table", "piece"]
def s_end_of12 : List Sm :=
   [.asgT (.tp [.nm 2, .nm 3]) (.var 1),
    .ret (.e (.bin .add (.var 2) (.idx (.call "kind_of" [.var 0, .var 3]) (.int 1))))]
/-- _law_asked12: 0 _law_door 1 _law_table_here 2 _law_name 3 _law_place 4 e -/
abbrev N__law_asked12 : List Str := ["_law_door", "_law_table_here", "_law_name", "_law_place", "e"]
abbrev P__law_asked12 : List Str := ["_law_door", "_law_table_here", "_law_name", "_law_place"]
def b__law_asked12_1 : List Sm :=
   [.ife (.cmp .eq (.var 0) (.int 0)) [.ret (.t2 (.e (.str "told")) (.cl "kind_of" [.var 1, .var 2]))] [],
    .ret (.t2 (.e (.str "told")) (.cl "end_of" [.var 1, .tup [.var 3, .var 2]]))]
def b__law_asked12_2 : List Sm :=
   [.ife (.and [.xis 4 "NoKind", .not (.xis 4 "NoFit"), .xis 4 "ValueError"]) [.ret (.e (.tup [.str "none", .int 0]))] [],
    .ret (.e (.tup [.str "other", .int 0]))]
def s__law_asked12 : List Sm :=
   [.try1 b__law_asked12_1 "CutError" 4 b__law_asked12_2]
/-- _law_is_kind12: 0 _law_found 1 _law_kind 2 _law_one -/
abbrev N__law_is_kind12 : List Str := ["_law_found", "_law_kind", "_law_one"]
abbrev P__law_is_kind12 : List Str := ["_law_found", "_law_kind"]
def s__law_is_kind12 : List Sm :=
   [.ife (.or [.not (.isi (.var 0) .tuple), .cmp .ne (.bi .len [.var 0]) (.int 4), .not (.isi (.idx (.var 0) (.int 0)) .str)]) [.ret (.e (.bl false))] [],
    .ife (.not (.bi .all [.comp [("_law_one", 2)] (.nm 2) .seq [.slc (.var 0) [.int 1] []] [] (.call "_law_is_whole" [.var 2])])) [.ret (.e (.bl false))] [],
    .ret (.e (.cmp .eq (.var 0) (.var 1)))]
/-- _law_right12: 0 _law_table_here 1 _law_name 2 _law_place 3 _law_due 4 _law_kind 5 _law_handed 6 _law_word 7 _law_found 8 _law_other 9 _law_end -/
abbrev N__law_right12 : List Str := ["_law_table_here", "_law_name", "_law_place", "_law_due", "_law_kind", "_law_handed", "_law_word", "_law_found", "_law_other", "_law_end"]
abbrev P__law_right12 : List Str := ["_law_table_here", "_law_name", "_law_place"]
def b__law_right12_1 : List Sm :=
   [.ife (.cmp .eq (.idx (.var 4) (.int 0)) (.var 1)) [.asg 3 (.e (.var 4))] []]
def s__law_right12 : List Sm :=
   [.asg 3 (.e (.non)),
    .for_ (.nm 4) .seq [.var 0] b__law_right12_1,
    .asg 5 (.e (.bi .list [.var 0])),
    .asgO [6, 7] (.cl "_law_asked" [.int 0, .var 5, .var 1, .var 2]),
    .asgO [8, 9] (.cl "_law_asked" [.int 1, .var 5, .var 1, .var 2]),
    .ife (.cmp .ne (.var 5) (.var 0)) [.ret (.e (.bl false))] [],
    .ife (.isN (.var 3)) [.ret (.e (.and [.cmp .eq (.var 6) (.str "none"), .cmp .eq (.var 8) (.str "none")]))] [],
    .ife (.or [.cmp .ne (.var 6) (.str "told"), .not (.call "_law_is_kind" [.var 7, .var 3]), .cmp .ne (.var 8) (.str "told")]) [.ret (.e (.bl false))] [],
    .ret (.e (.and [.call "_law_is_whole" [.var 9], .cmp .eq (.var 9) (.bin .add (.var 2) (.idx (.var 3) (.int 1)))]))]
/-- _law_texts12: 0 _law_table_here 1 _law_some 2 _law_far 3 _law_signs 4 _law_own 5 _law_texts_here 6 _law_name 7 _law_kind -/
abbrev N__law_texts12 : List Str := ["_law_table_here", "_law_some", "_law_far", "_law_signs", "_law_own", "_law_texts_here", "_law_name", "_law_kind"]
abbrev P__law_texts12 : List Str := ["_law_table_here", "_law_some", "_law_far"]
def b__law_texts12_1 : List Sm :=
   [.ext 5 (.lst [.slc (.var 6) [] [.neg (.int 1)], .bin .add (.var 6) (.str "a"), .upp (.var 6), .bin .add (.var 6) (.idx (.var 3) (.bin .mod (.var 2) (.int 94)))]),
    .app 5 (.e (.bin .add (.idx (.var 3) (.bin .mod (.bin .fdiv (.var 2) (.int 94)) (.int 94))) (.slc (.var 6) [.int 1] []))) false]
def s__law_texts12 : List Sm :=
   [.asg 3 (.e (.str " !\"#$&'()*+,-./0123456789:;<=>?@ABCDEFGHIJKLMNOPQRSTUVWXYZ")),
    .asg 3 (.e (.bin .add (.var 3) (.str "[\\]^_`abcdefghijklmnopqrstuvwxyz{|}~"))),
    .asg 4 (.e (.comp [("_law_kind", 7)] (.nm 7) .seq [.var 0] [] (.idx (.var 7) (.int 0)))),
    .asg 5 (.e (.bi .list [.var 4])),
    .for_ (.nm 6) .seq [.var 4] b__law_texts12_1,
    .ret (.e (.bin .add (.var 5) (.slc (.lst [.str "", .str "a", .str "roll", .str "by", .str "q", .str "aaaaaaaaa", .str "0", .str " "]) [] [.bin .add (.int 2) (.var 1)])))]
/-- law12: 0 _law_script 1 _law_table_here 2 _law_some 3 _law_place 4 _law_turn 5 _law_handed 6 _law_told 7 _law_name 8 _law_kind -/
abbrev N_law12 : List Str := ["_law_script", "_law_table_here", "_law_some", "_law_place", "_law_turn", "_law_handed", "_law_told", "_law_name", "_law_kind"]
abbrev P_law12 : List Str := ["_law_script"]
def b_law12_1 : List Sm :=
   [.ife (.not (.call "_law_right" [.var 1, .var 7, .var 3])) [.ret (.e (.bl false))] []]
def b_law12_2 : List Sm :=
   [.asg 5 (.e (.bi .list [.var 1])),
    .asg 6 (.cl "names" [.var 5]),
    .ife (.or [.cmp .ne (.var 5) (.var 1), .not (.isi (.var 6) .list), .cmp .ne (.var 6) (.comp [("_law_kind", 8)] (.nm 8) .seq [.var 1] [] (.idx (.var 8) (.int 0)))]) [.ret (.e (.bl false))] [],
    .app 6 (.e (.str "a")) false,
    .for_ (.nm 7) .seq [.call "_law_texts" [.var 1, .idx (.var 2) (.int 0), .idx (.var 2) (.int 3)]] b_law12_1]
def s_law12 : List Sm :=
   [.asg 1 (.cl "_law_table" [.var 0, .int 0, .int 8]),
    .asg 2 (.cl "_law_row" [.var 0, .int 1, .lst [.int 7, .int 3, .int 206, .bin .pow (.int 10) (.int 59)]]),
    .asg 3 (.e (.idx (.lst [.bin .sub (.idx (.var 2) (.int 2)) (.int 5), .idx (.var 2) (.int 3), .neg (.idx (.var 2) (.int 3))]) (.idx (.var 2) (.int 1)))),
    .for_ (.nm 4) .rng [.int 2] b_law12_2,
    .ret (.e (.bl true))]
end SV

set_option Elab.async false
set_option linter.all false
set_option maxRecDepth 100000
set_option maxHeartbeats 1000000
namespace SV
open PySem PySem.Spec PyProof.Rows L2
/-- good_name11: 0 name 1 letter -/
abbrev N_good_name11 : List Str := ["name", "letter"]
abbrev P_good_name11 : List Str := ["name"]
def s_good_name11 : List Sm :=
   [.ife (.not (.chain .le .le (.int 1) (.bi .len [.var 0]) (.glo "LONGEST_NAME"))) [.ret (.e (.bl false))] [],
    .ret (.e (.bi .all [.comp [("letter", 1)] (.nm 1) .seq [.var 0] [] (.cmp .isIn (.var 1) (.glo "LETTERS"))]))]
/-- good_kind11: 0 kind 1 name 2 width 3 worth 4 allowed -/
abbrev N_good_kind11 : List Str := ["kind", "name", "width", "worth", "allowed"]
abbrev P_good_kind11 : List Str := ["kind"]
def s_good_kind11 : List Sm :=
   [.asgT (.tp [.nm 1, .nm 2, .nm 3, .nm 4]) (.var 0),
    .ife (.or [.not (.call "good_name" [.var 1]), .not (.chain .le .le (.int 1) (.var 2) (.glo "WIDEST"))]) [.ret (.e (.bl false))] [],
    .ret (.e (.and [.chain .le .le (.int 1) (.var 3) (.glo "DEAREST"), .chain .le .lt (.int 0) (.var 4) (.glo "DEAREST")]))]
/-- fault11: 0 table 1 seen 2 at 3 kind -/
abbrev N_fault11 : List Str := ["table", "seen", "at", "kind"]
abbrev P_fault11 : List Str := ["table"]
def b_fault11_1 : List Sm :=
   [.ife (.or [.cmp .ge (.var 2) (.glo "MOST_KINDS"), .not (.call "good_kind" [.var 3]), .din false (.idx (.var 3) (.int 0)) (.var 1)]) [.ret (.mv 2)] [],
    .dput 1 (.idx (.var 3) (.int 0)) (.bl true)]
def s_fault11 : List Sm :=
   [.asg 1 (.nd false),
    .for_ (.tp [.nm 2, .nm 3]) .enum [.var 0] b_fault11_1,
    .ret (.e (.non))]
/-- checked_table11: 0 table 1 at -/
abbrev N_checked_table11 : List Str := ["table", "at"]
abbrev P_checked_table11 : List Str := ["table"]
def s_checked_table11 : List Sm :=
   [.asg 1 (.cl "fault" [.var 0]),
    .ife (.notN (.var 1)) [.raiseI "NotATable" "at" (.var 1)] [],
    .ret (.e (.bi .list [.var 0]))]
/-- _law_longer11: 0 _law_table_here 1 _law_count 2 _law_found 3 _law_letters 4 _law_at -/
abbrev N__law_longer11 : List Str := ["_law_table_here", "_law_count", "_law_found", "_law_letters", "_law_at"]
abbrev P__law_longer11 : List Str := ["_law_table_here", "_law_count"]
def b__law_longer11_1 : List Sm :=
   [.asg 4 (.e (.bi .len [.var 2])),
    .app 2 (.e (.tup [.bin .mul (.idx (.var 3) (.bin .mod (.var 4) (.int 8))) (.bin .add (.int 1) (.bin .fdiv (.var 4) (.int 8))), .bin .add (.int 1) (.var 4), .int 5, .var 4])) false]
def s__law_longer11 : List Sm :=
   [.asg 2 (.e (.bi .list [.var 0])),
    .asg 3 (.e (.str "qrstuvwy")),
    .whl (.cmp .lt (.bi .len [.var 2]) (.var 1)) b__law_longer11_1,
    .ret (.mv 2)]
/-- _law_odd11: 0 _law_kind 1 _law_other 2 _law_some 3 _law_signs 4 _law_far 5 _law_name 6 _law_width 7 _law_worth 8 _law_allowed 9 _law_at 10 _law_sign -/
abbrev N__law_odd11 : List Str := ["_law_kind", "_law_other", "_law_some", "_law_signs", "_law_far", "_law_name", "_law_width", "_law_worth", "_law_allowed", "_law_at", "_law_sign"]
abbrev P__law_odd11 : List Str := ["_law_kind", "_law_other", "_law_some"]
def s__law_odd11 : List Sm :=
   [.asgT (.tp [.nm 5, .nm 6, .nm 7, .nm 8]) (.var 0),
    .asg 3 (.e (.str " !\"#$&'()*+,-./0123456789:;<=>?@ABCDEFGHIJKLMNOPQRSTUVWXYZ")),
    .asg 3 (.e (.bin .add (.var 3) (.str "[\\]^_`abcdefghijklmnopqrstuvwxyz{|}~"))),
    .asg 4 (.e (.idx (.var 2) (.int 4))),
    .ife (.cmp .eq (.idx (.var 2) (.int 1)) (.int 0)) [.asg 9 (.e (.bin .mod (.bin .fdiv (.var 4) (.int 94)) (.bi .max2 [.int 1, .bi .len [.var 5]]))),
    .asg 10 (.e (.idx (.var 3) (.bin .mod (.var 4) (.int 94)))),
    .asg 5 (.e (.idx (.lst [.str "", .bin .add (.bin .add (.slc (.var 5) [] [.var 9]) (.var 10)) (.slc (.var 5) [.bin .add (.var 9) (.int 1)] []), .str "abcdefghi", .idx (.var 1) (.int 0), .idx (.var 1) (.int 0)]) (.bin .mod (.idx (.var 2) (.int 2)) (.int 5))))] [],
    .ife (.cmp .eq (.idx (.var 2) (.int 1)) (.int 1)) [.asg 6 (.e (.idx (.lst [.int 0, .int 201, .bin .sub (.neg (.int 1)) (.var 4), .bin .add (.int 201) (.var 4), .int 1, .int 200]) (.bin .mod (.idx (.var 2) (.int 3)) (.int 6))))] [],
    .ife (.cmp .eq (.idx (.var 2) (.int 1)) (.int 2)) [.asg 7 (.e (.idx (.lst [.int 0, .bin .add (.bin .pow (.int 10) (.int 18)) (.int 1), .bin .sub (.neg (.int 1)) (.var 4), .bin .add (.bin .add (.bin .pow (.int 10) (.int 18)) (.int 1)) (.var 4), .int 1, .bin .pow (.int 10) (.int 18)]) (.bin .mod (.idx (.var 2) (.int 3)) (.int 6))))] [],
    .ife (.cmp .eq (.idx (.var 2) (.int 1)) (.int 3)) [.asg 8 (.e (.idx (.lst [.neg (.int 1), .bin .pow (.int 10) (.int 18), .bin .sub (.neg (.int 1)) (.var 4), .bin .add (.bin .pow (.int 10) (.int 18)) (.var 4), .int 0, .bin .sub (.bin .pow (.int 10) (.int 18)) (.int 1)]) (.bin .mod (.idx (.var 2) (.int 3)) (.int 6))))] [],
    .ret (.e (.tup [.var 5, .var 6, .var 7, .var 8]))]
/-- _law_spoilt11: 0 _law_table_here 1 _law_some 2 _law_found 3 _law_k 4 _law_mine 5 _law_at 6 _law_by -/
abbrev N__law_spoilt11 : List Str := ["_law_table_here", "_law_some", "_law_found", "_law_k", "_law_mine", "_law_at", "_law_by"]
abbrev P__law_spoilt11 : List Str := ["_law_table_here", "_law_some"]
def b__law_spoilt11_1 : List Sm :=
   [.asg 4 (.e (.slc (.var 1) [.bin .mul (.int 5) (.var 3)] [.bin .add (.bin .mul (.int 5) (.var 3)) (.int 6)])),
    .ife (.cmp .gt (.bi .len [.var 2]) (.int 0)) [.asg 5 (.e (.bin .mod (.idx (.var 4) (.int 5)) (.bi .len [.var 2]))),
    .asg 6 (.e (.bin .mod (.bin .add (.bin .add (.var 5) (.int 1)) (.idx (.var 4) (.int 3))) (.bi .len [.var 2]))),
    .setI 2 (.var 5) (.cl "_law_odd" [.idx (.var 2) (.var 5), .idx (.var 2) (.var 6), .var 4]) false] []]
def s__law_spoilt11 : List Sm :=
   [.asg 2 (.e (.bi .list [.var 0])),
    .for_ (.nm 3) .rng [.idx (.var 1) (.int 0)] b__law_spoilt11_1,
    .ret (.mv 2)]
/-- _law_right_name11: 0 _law_name 1 _law_letter -/
abbrev N__law_right_name11 : List Str := ["_law_name", "_law_letter"]
abbrev P__law_right_name11 : List Str := ["_law_name"]
def s__law_right_name11 : List Sm :=
   [.ife (.or [.cmp .lt (.bi .len [.var 0]) (.int 1), .cmp .gt (.bi .len [.var 0]) (.int 8)]) [.ret (.e (.bl false))] [],
    .ret (.e (.bi .all [.comp [("_law_letter", 1)] (.nm 1) .seq [.var 0] [] (.cmp .isIn (.var 1) (.str "abcdefghijklmnopqrstuvwxyz"))]))]
/-- _law_due11: 0 _law_table_here 1 _law_at 2 _law_earlier 3 _law_name 4 _law_width 5 _law_worth 6 _law_allowed 7 _law_kind -/
abbrev N__law_due11 : List Str := ["_law_table_here", "_law_at", "_law_earlier", "_law_name", "_law_width", "_law_worth", "_law_allowed", "_law_kind"]
abbrev P__law_due11 : List Str := ["_law_table_here"]
def b__law_due11_1 : List Sm :=
   [.asgT (.tp [.nm 3, .nm 4, .nm 5, .nm 6]) (.idx (.var 0) (.var 1)),
    .asg 2 (.e (.comp [("_law_kind", 7)] (.nm 7) .seq [.slc (.var 0) [] [.var 1]] [] (.idx (.var 7) (.int 0)))),
    .ife (.or [.cmp .gt (.var 1) (.int 7), .not (.call "_law_right_name" [.var 3]), .cmp .isIn (.var 3) (.var 2)]) [.ret (.mv 1)] [],
    .ife (.or [.cmp .lt (.var 4) (.int 1), .cmp .gt (.var 4) (.int 200), .cmp .lt (.var 5) (.int 1), .cmp .gt (.var 5) (.bin .pow (.int 10) (.int 18))]) [.ret (.mv 1)] [],
    .ife (.or [.cmp .lt (.var 6) (.int 0), .cmp .ge (.var 6) (.bin .pow (.int 10) (.int 18))]) [.ret (.mv 1)] []]
def s__law_due11 : List Sm :=
   [.for_ (.nm 1) .rng [.bi .len [.var 0]] b__law_due11_1,
    .ret (.e (.non))]
/-- _law_checked11: 0 _law_table_here 1 e 2 _law_found -/
abbrev N__law_checked11 : List Str := ["_law_table_here", "e", "_law_found"]
abbrev P__law_checked11 : List Str := ["_law_table_here"]
def b__law_checked11_1 : List Sm :=
   [.asg 2 (.cl "checked_table" [.var 0])]
def b__law_checked11_2 : List Sm :=
   [.ife (.or [.not (.xis 1 "NotATable"), .xis 1 "NotARoll"]) [.ret (.e (.tup [.str "other", .int 0]))] [],
    .ret (.e (.tup [.str "wrong", .xat 1 "at"]))]
def s__law_checked11 : List Sm :=
   [.try1 b__law_checked11_1 "CutError" 1 b__law_checked11_2,
    .ret (.t2 (.e (.str "told")) (.mv 2))]
/-- _law_right11: 0 _law_table_here 1 _law_due_here 2 _law_handed 3 _law_found 4 _law_word 5 _law_told -/
abbrev N__law_right11 : List Str := ["_law_table_here", "_law_due_here", "_law_handed", "_law_found", "_law_word", "_law_told"]
abbrev P__law_right11 : List Str := ["_law_table_here"]
def s__law_right11 : List Sm :=
   [.asg 1 (.cl "_law_due" [.var 0]),
    .asg 2 (.e (.bi .list [.var 0])),
    .asg 3 (.cl "fault" [.var 2]),
    .asgO [4, 5] (.cl "_law_checked" [.var 2]),
    .ife (.cmp .ne (.var 2) (.var 0)) [.ret (.e (.bl false))] [],
    .ife (.notN (.var 1)) [.ife (.or [.not (.call "_law_is_whole" [.var 3]), .cmp .ne (.var 3) (.var 1)]) [.ret (.e (.bl false))] [],
    .ret (.e (.and [.cmp .eq (.var 4) (.str "wrong"), .call "_law_is_whole" [.var 5], .cmp .eq (.var 5) (.var 1)]))] [],
    .ife (.or [.notN (.var 3), .cmp .ne (.var 4) (.str "told")]) [.ret (.e (.bl false))] [],
    .ife (.or [.not (.isi (.var 5) .list), .cmp .ne (.var 5) (.var 0)]) [.ret (.e (.bl false))] [],
    .app 5 (.e (.tup [.str "a", .int 1, .int 1, .int 1])) false,
    .ret (.e (.and [.cmp .eq (.var 2) (.var 0), .cmp .eq (.call "_law_checked" [.var 2]) (.tup [.str "told", .var 0])]))]
/-- law11: 0 _law_script 1 _law_table_here 2 _law_some 3 _law_more 4 _law_odd_here -/
abbrev N_law11 : List Str := ["_law_script", "_law_table_here", "_law_some", "_law_more", "_law_odd_here"]
abbrev P_law11 : List Str := ["_law_script"]
def s_law11 : List Sm :=
   [.asg 1 (.cl "_law_table" [.var 0, .int 0, .int 8]),
    .asg 2 (.cl "_law_row" [.var 0, .int 1, .lst [.int 3, .int 4, .int 10, .int 12, .bin .pow (.int 10) (.int 59), .int 8, .int 4, .int 10, .int 12, .bin .pow (.int 10) (.int 59), .int 8]]),
    .asg 3 (.cl "_law_row" [.var 0, .int 2, .lst [.int 4, .int 5]]),
    .ife (.cmp .eq (.idx (.var 3) (.int 0)) (.int 0)) [.asg 1 (.cl "_law_longer" [.var 1, .idx (.lst [.int 9, .int 10, .int 11, .int 12, .int 203]) (.idx (.var 3) (.int 1))])] [],
    .asg 4 (.cl "_law_spoilt" [.var 1, .var 2]),
    .ret (.e (.and [.call "_law_right" [.var 4], .call "_law_right" [.var 1], .call "_law_right" [.var 4]]))]
end SV

set_option Elab.async false
set_option linter.all false
set_option maxRecDepth 100000
set_option maxHeartbeats 1000000
namespace SV
open PySem PySem.Spec PyProof.Rows L2
/-- good_name92: 0 name 1 letter -/
abbrev N_good_name92 : List Str := ["name", "letter"]
abbrev P_good_name92 : List Str := ["name"]
def s_good_name92 : List Sm :=
   [.ife (.not (.chain .le .le (.int 1) (.bi .len [.var 0]) (.glo "LONGEST_NAME"))) [.ret (.e (.bl false))] [],
    .ret (.e (.bi .all [.comp [("letter", 1)] (.nm 1) .seq [.var 0] [] (.cmp .isIn (.var 1) (.glo "LETTERS"))]))]
/-- read_whole92: 0 word 1 figures 2 sign -/
abbrev N_read_whole92 : List Str := ["word", "figures", "sign"]
abbrev P_read_whole92 : List Str := ["word"]
def b_read_whole92_1 : List Sm :=
   [.ife (.cmp .notIn (.var 2) (.glo "FIGURES")) [.raise "NoLine" "no figure"] []]
def s_read_whole92 : List Sm :=
   [.asg 1 (.e (.var 0)),
    .ife (.cmp .eq (.slc (.var 0) [] [.int 1]) (.str "-")) [.asg 1 (.e (.slc (.var 0) [.int 1] []))] [],
    .ife (.not (.chain .le .le (.int 1) (.bi .len [.var 1]) (.glo "MOST_FIGURES"))) [.raise "NoLine" "no number"] [],
    .for_ (.nm 2) .seq [.var 1] b_read_whole92_1,
    .ife (.and [.cmp .eq (.idx (.var 1) (.int 0)) (.str "0"), .cmp .ne (.var 0) (.str "0")]) [.raise "NoLine" "a 0 too many"] [],
    .ret (.e (.bi .int1 [.var 0]))]
/-- read_name92: 0 word -/
abbrev N_read_name92 : List Str := ["word"]
abbrev P_read_name92 : List Str := ["word"]
def s_read_name92 : List Sm :=
   [.ife (.not (.call "good_name" [.var 0])) [.raise "NoLine" "no name"] [],
    .ret (.e (.var 0))]
/-- read_piece92: 0 word 1 parts -/
abbrev N_read_piece92 : List Str := ["word", "parts"]
abbrev P_read_piece92 : List Str := ["word"]
def s_read_piece92 : List Sm :=
   [.asg 1 (.e (.spl (.var 0) ":")),
    .ife (.cmp .ne (.bi .len [.var 1]) (.int 2)) [.raise "NoLine" "no piece"] [],
    .ret (.t2 (.cl "read_whole" [.idx (.var 1) (.int 0)]) (.cl "read_name" [.idx (.var 1) (.int 1)]))]
/-- read_cutting92: 0 line 1 word -/
abbrev N_read_cutting92 : List Str := ["line", "word"]
abbrev P_read_cutting92 : List Str := ["line"]
def s_read_cutting92 : List Sm :=
   [.ife (.cmp .eq (.var 0) (.str "-")) [.ret (.e (.lst []))] [],
    .ret (.e (.comp [("word", 1)] (.nm 1) .seq [.spl (.var 0) " "] [] (.call "read_piece" [.var 1])))]
/-- show_cutting92: 0 cutting 1 place 2 name -/
abbrev N_show_cutting92 : List Str := ["cutting", "place", "name"]
abbrev P_show_cutting92 : List Str := ["cutting"]
def s_show_cutting92 : List Sm :=
   [.ife (.cmp .eq (.var 0) (.lst [])) [.ret (.e (.str "-"))] [],
    .ret (.e (.jn " " (.comp [("place", 1), ("name", 2)] (.tp [.nm 1, .nm 2]) .seq [.var 0] [] (.fj [.inr 1, .inl ":", .inr 2]))))]
/-- _law_is_cutting92: 0 _law_found 1 _law_one -/
abbrev N__law_is_cutting92 : List Str := ["_law_found", "_law_one"]
abbrev P__law_is_cutting92 : List Str := ["_law_found"]
def b__law_is_cutting92_1 : List Sm :=
   [.ife (.or [.not (.isi (.var 1) .tuple), .cmp .ne (.bi .len [.var 1]) (.int 2)]) [.ret (.e (.bl false))] [],
    .ife (.or [.not (.call "_law_is_whole" [.idx (.var 1) (.int 0)]), .not (.isi (.idx (.var 1) (.int 1)) .str)]) [.ret (.e (.bl false))] []]
def s__law_is_cutting92 : List Sm :=
   [.ife (.not (.isi (.var 0) .list)) [.ret (.e (.bl false))] [],
    .for_ (.nm 1) .seq [.var 0] b__law_is_cutting92_1,
    .ret (.e (.bl true))]
/-- _law_line92: 0 _law_some 1 _law_place 2 _law_name -/
abbrev N__law_line92 : List Str := ["_law_some", "_law_place", "_law_name"]
abbrev P__law_line92 : List Str := ["_law_some"]
def s__law_line92 : List Sm :=
   [.ife (.cmp .eq (.bi .len [.var 0]) (.int 0)) [.ret (.e (.str "-"))] [],
    .ret (.e (.jn " " (.comp [("_law_place", 1), ("_law_name", 2)] (.tp [.nm 1, .nm 2]) .seq [.var 0] [] (.bin .add (.bin .add (.bi .str1 [.var 1]) (.str ":")) (.var 2)))))]
/-- _law_pieces92: 0 _law_script 1 _law_head 2 _law_count 3 _law_some 4 _law_letters 5 _law_found 6 _law_k 7 _law_mine 8 _law_number 9 _law_name -/
abbrev N__law_pieces92 : List Str := ["_law_script", "_law_head", "_law_count", "_law_some", "_law_letters", "_law_found", "_law_k", "_law_mine", "_law_number", "_law_name"]
abbrev P__law_pieces92 : List Str := ["_law_script"]
def b__law_pieces92_1 : List Sm :=
   [.asg 7 (.e (.slc (.var 3) [.bin .mul (.int 8) (.var 6)] [.bin .add (.bin .mul (.int 8) (.var 6)) (.int 8)])),
    .asg 8 (.e (.idx (.lst [.int 0, .idx (.var 7) (.int 2), .idx (.var 7) (.int 2), .bin .add (.bin .mul (.int 99) (.bin .pow (.int 10) (.int 18))) (.idx (.var 7) (.int 3))]) (.idx (.var 7) (.int 1)))),
    .asg 9 (.e (.bin .add (.bin .add (.idx (.var 4) (.idx (.var 7) (.int 5))) (.bin .mul (.idx (.var 4) (.idx (.var 7) (.int 6))) (.int 3))) (.bin .mul (.idx (.var 4) (.idx (.var 7) (.int 7))) (.int 4)))),
    .app 5 (.t2 (.e (.idx (.lst [.var 8, .neg (.var 8)]) (.idx (.var 7) (.int 0)))) (.e (.slc (.var 9) [] [.bin .add (.int 1) (.idx (.var 7) (.int 4))]))) false]
def s__law_pieces92 : List Sm :=
   [.asg 1 (.cl "_law_row" [.var 0, .int 0, .lst [.int 13, .int 8]]),
    .asg 2 (.e (.idx (.var 1) (.int 0))),
    .ife (.cmp .eq (.idx (.var 1) (.int 1)) (.int 0)) [.asg 2 (.e (.int 203))] [],
    .asg 3 (.cl "_law_row" [.var 0, .int 1, .bin .mul (.lst [.int 2, .int 4, .int 200, .bin .pow (.int 10) (.int 18), .int 8, .int 26, .int 26, .int 26]) (.var 2)]),
    .asg 4 (.e (.str "abcdefghijklmnopqrstuvwxyz")),
    .asg 5 (.e (.lst [])),
    .for_ (.nm 6) .rng [.var 2] b__law_pieces92_1,
    .ret (.mv 5)]
/-- law92: 0 _law_script 1 _law_some 2 _law_far 3 _law_turn 4 _law_handed 5 _law_line_here 6 _law_found 7 _law_place 8 _law_name -/
abbrev N_law92 : List Str := ["_law_script", "_law_some", "_law_far", "_law_turn", "_law_handed", "_law_line_here", "_law_found", "_law_place", "_law_name"]
abbrev P_law92 : List Str := ["_law_script"]
def b_law92_1 : List Sm :=
   [.asg 4 (.e (.bi .list [.var 1])),
    .asg 5 (.cl "show_cutting" [.var 4]),
    .ife (.or [.not (.isi (.var 5) .str), .cmp .ne (.var 5) (.call "_law_line" [.var 1]), .cmp .ne (.var 4) (.var 1)]) [.ret (.e (.bl false))] [],
    .asg 6 (.cl "read_cutting" [.var 5]),
    .ife (.or [.not (.call "_law_is_cutting" [.var 6]), .cmp .ne (.var 6) (.var 1)]) [.ret (.e (.bl false))] [],
    .app 6 (.e (.tup [.int 0, .str "a"])) false,
    .ife (.cmp .ne (.call "show_cutting" [.bi .list [.var 2]]) (.call "_law_line" [.var 2])) [.ret (.e (.bl false))] []]
def s_law92 : List Sm :=
   [.asg 1 (.cl "_law_pieces" [.var 0]),
    .asg 2 (.e (.comp [("_law_place", 7), ("_law_name", 8)] (.tp [.nm 7, .nm 8]) .seq [.var 1] [] (.tup [.bin .sub (.bin .mul (.var 7) (.bin .pow (.int 10) (.int 30))) (.int 1), .var 8]))),
    .for_ (.nm 3) .rng [.int 2] b_law92_1,
    .ret (.e (.cmp .eq (.call "read_cutting" [.str "-"]) (.lst [])))]
end SV

set_option Elab.async false
set_option linter.all false
set_option maxRecDepth 100000
set_option maxHeartbeats 1000000
namespace SV
open PySem PySem.Spec PyProof.Rows L2
/-! ### the law's helpers: cell, mix, row -/
def seedF : List Int → Int → Int
  | [], s => s
  | c :: cs, s => seedF cs ((s * 48271 + c % 1000003 + 1) % 2147483647)
theorem cut_to {α : Type} {xs : List α} {n : Nat} : cutD xs none (some (n : Int)) = xs.take n := by
  unfold cutD
  rw [HT.sIx_none, HT.sIx_nat]
  simp
def cellF (ns : List Int) (p : Int) : Int := if p < ns.length then ns.getD p.toNat 0 else (seedF (ns.take 63) 5 + 7919 * p) % 1000003
def spCell : Spec1 := fun ds o => ∃ ns p, ds = [.scr ns, .int p] ∧ 0 ≤ p ∧ o = .ret .sh (.int (cellF ns p))
section
variable {S : Sg}
theorem cell_loop {ns : List Int} {p : Int} : ∀ (cs : List Int) (s : Int) (x : Option (Kd × D)) (Dd : Ed), (∀ x, Dd.nx [some (.sh, .scr ns), some (.sh, .int p), some (.sh, .int (seedF cs s)), x]) →
    forW (fun D' ρ' => wpB' S b__law_cell_1 D' ρ') (.nm 3) (cs.map .int) Dd [some (.sh, .scr ns), some (.sh, .int p), some (.sh, .int s), x]
  | [], s, x, Dd, h => h x
  | c :: cs, s, x, Dd, h => by
    have ih := cell_loop cs ((s * 48271 + c % 1000003 + 1) % 2147483647) (some (.sh, .int c)) Dd h
    simp only [List.map_cons, forW, bindT, List.set_cons_succ, List.set_cons_zero]
    refine unf (by delta b__law_cell_1; rfl) ?_
    simp [wpB', wpS, wpO, wpE, wpEs, wpB, binW, addW, subW, mulW, fdivW, modW, powW, cmpW, iiW, idxW, slcW, revW, negW, biW, itW, bindT, bindTs, wipeE, bW, ifW, ints1, isiW, isTy, lcW, topf, kOf, als, alss, flD, flDs, flK, disj, elK, lstW, intW, eqW]
    exact ⟨.inl (.inr (by decide)), ih⟩
theorem w_cell : ∀ ds o, spCell ds o → wpD S s__law_cell N__law_cell ds o := by
  rintro _ _ ⟨ns, p, rfl, h0, rfl⟩
  unfold wpD s__law_cell startE
  have e := cut_to (xs := ns) (n := 63)
  simp [wpB', wpS, wpO, wpE, wpEs, wpB, binW, addW, subW, mulW, fdivW, modW, powW, cmpW, iiW, idxW, slcW, revW, negW, biW, itW, bindT, bindTs, wipeE, bW, ifW, ints1, isiW, isTy, lcW, topf, kOf, als, alss, flD, flDs, flK, disj, elK, lstW, intW, eqW, edOf]
  by_cases h : p < ns.length
  · simp [h]
    rw [at_intN h0 h]; unfold cellF; rw [if_pos h]
  · simp [h]
    simp at e
    rw [e]
    refine cell_loop _ _ _ _ fun x => ?_
    simp [wpB', wpS, wpO, wpE, wpEs, wpB, binW, addW, subW, mulW, fdivW, modW, powW, cmpW, iiW, idxW, slcW, revW, negW, biW, itW, bindT, bindTs, wipeE, bW, ifW, ints1, isiW, isTy, lcW, topf, kOf, als, alss, flD, flDs, flK, disj, elK, lstW, intW, eqW]
    exact ⟨.inl (.inl (by decide)), by unfold cellF; rw [if_neg h]⟩
def mixF (c k : Int) : Int := ((((c % 2147483629 + 1013 * k + 7919) ^ 3 % 2147483647) * 40699 + 3793 * k * k + 11) % 2147483399) / 101
def spMix : Spec1 := fun ds o => ∃ c k, ds = [.int c, .int k] ∧ 0 ≤ k ∧ k < 100000000 ∧ o = .ret .sh (.int (mixF c k))
theorem w_mix : ∀ ds o, spMix ds o → wpD S s__law_mix N__law_mix ds o := by
  rintro _ _ ⟨c, k, rfl, h0, h1, rfl⟩
  unfold wpD s__law_mix startE
  simp [wpB', wpS, wpO, wpE, wpEs, wpB, binW, addW, subW, mulW, fdivW, modW, powW, cmpW, iiW, idxW, slcW, revW, negW, biW, itW, bindT, bindTs, wipeE, bW, ifW, ints1, isiW, isTy, lcW, topf, kOf, als, alss, flD, flDs, flK, disj, elK, lstW, intW, eqW, edOf]
  refine ⟨.inl (.inl (by decide)), ⟨by decide, by decide, ?_⟩, .inl (.inr (by decide)), .inl (.inl (by decide)), .inl (.inr ?_), ⟨by decide, by decide⟩, rfl⟩
  · have := Int.emod_nonneg c (b := 2147483629) (by decide)
    have := Int.emod_lt_of_pos c (b := 2147483629) (by decide)
    omega
  · omega
end
end SV

set_option Elab.async false
set_option linter.all false
set_option maxRecDepth 100000
set_option maxHeartbeats 1000000
namespace SV
open PySem PySem.Spec PyProof.Rows L2
theorem at_midN {pre ms : List Int} {m : Int} : atI (pre ++ m :: ms) (pre.length : Int) = some m := by
  rw [at_nn (by omega) (by simp; omega)]
  simp
theorem at_mid {α : Type} {pre ms : List α} {m : α} : atI (pre ++ m :: ms) (pre.length : Int) = some m := by
  rw [at_nn (by omega) (by simp; omega)]
  simp
theorem log2_lt {i : Int} (h : 0 ≤ i) (h2 : i < 2 ^ 200) : i.natAbs.log2 < 9000 := by
  by_cases z : i.natAbs = 0
  · rw [z]; decide
  · have := (Nat.log2_lt z).mpr (show i.natAbs < 2 ^ 200 by omega)
    omega
/-- the sizes that a row may be asked for -/
def szOk (ms : List Int) : Prop := ∀ m ∈ ms, 1 ≤ m ∧ m < 2 ^ 200
def rowG (ns : List Int) (p c : Int) : List Int → Nat → Int → List Int
  | [], _, _ => []
  | m :: ms, k, left => if c < 10 ^ 18 then mixF c k % m :: rowG ns p c ms (k + 1) left else if 0 < left then left % m :: rowG ns p c ms (k + 1) (left / m) else mixF (cellF ns ((p + 1 + k) % 63)) k % m :: rowG ns p c ms (k + 1) left
def rowF (ns : List Int) (p : Int) (ms : List Int) : List Int := rowG ns p (cellF ns p) ms 0 (cellF ns p)
theorem rowG_len {ns : List Int} {p c : Int} : ∀ (ms : List Int) (k : Nat) (l : Int), (rowG ns p c ms k l).length = ms.length
  | [], _, _ => rfl
  | m :: ms, k, l => by
    unfold rowG
    split
    · simp [rowG_len ms]
    · split <;> simp [rowG_len ms]
theorem rowG_lt {ns : List Int} {p c : Int} : ∀ (ms : List Int) (k : Nat) (l : Int) (j : Nat), szOk ms → j < ms.length → 0 ≤ (rowG ns p c ms k l).getD j 0 ∧ (rowG ns p c ms k l).getD j 0 < ms.getD j 0
  | [], _, _, _, _, h => by simp at h
  | m :: ms, k, l, 0, hs, h => by
    have hm := hs m (by simp)
    have e : ∀ x : Int, 0 ≤ x % m ∧ x % m < m := fun x => ⟨Int.emod_nonneg _ (by omega), Int.emod_lt_of_pos _ (by omega)⟩
    unfold rowG
    split
    · simpa using e _
    · split <;> simpa using e _
  | m :: ms, k, l, j + 1, hs, h => by
    have hs' : szOk ms := fun x hx => hs x (by simp [hx])
    have hl : j < ms.length := by simpa using h
    unfold rowG
    split
    · simpa using rowG_lt ms _ _ j hs' hl
    · split <;> simpa using rowG_lt ms _ _ j hs' hl
theorem rowF_len {ns : List Int} {p : Int} {ms : List Int} : (rowF ns p ms).length = ms.length := rowG_len ..
theorem rowF_lt {ns : List Int} {p : Int} {ms : List Int} {j : Nat} (hs : szOk ms) (h : j < ms.length) : 0 ≤ (rowF ns p ms).getD j 0 ∧ (rowF ns p ms).getD j 0 < ms.getD j 0 := rowG_lt _ _ _ _ hs h
def spRow : Spec1 := fun ds o => ∃ ns p ms, ds = [.scr ns, .int p, .lst (ms.map .int)] ∧ 0 ≤ p ∧ szOk ms ∧ ms.length ≤ 1000000 ∧ o = .ret (.ls .sh) (.lst ((rowF ns p ms).map .int))
section
variable {S : Sg}
theorem row_loop (hC : S.T "_law_cell" = some spCell) (hM : S.T "_law_mix" = some spMix) {ns : List Int} {p c : Int} (hp : 0 ≤ p) : ∀ (ms pre acc : List Int) (left : Int) (x y : Option (Kd × D)) (Dd : Ed), szOk ms → pre.length + ms.length ≤ 1000000 → pre.length = acc.length → (∀ l x y, Dd.nx [some (.sh, .scr ns), some (.sh, .int p), some (.sh, .lst ((pre ++ ms).map .int)), some (.sh, .int c), some (.sh, .int l), some (.ls .sh, .lst ((acc ++ rowG ns p c ms pre.length left).map .int)), x, y]) →
    forW (fun D' ρ' => wpB' S b__law_row_1 D' ρ') (.nm 6) ((List.range' pre.length ms.length).map fun i : Nat => D.int i) Dd [some (.sh, .scr ns), some (.sh, .int p), some (.sh, .lst ((pre ++ ms).map .int)), some (.sh, .int c), some (.sh, .int left), some (.ls .sh, .lst (acc.map .int)), x, y]
  | [], pre, acc, left, x, y, Dd, _, _, _, h => by simpa [rowG, forW] using h left x y
  | m :: ms, pre, acc, left, x, y, Dd, hs, hn, ha, h => by
    have hm := hs m (by simp)
    have hs' : szOk ms := fun z hz => hs z (by simp [hz])
    have hl : acc.length < sizeLine := by
      have : sizeLine = 16777216 := rfl
      simp at hn
      omega
    have at1 : atI ((pre ++ m :: ms).map D.int) (pre.length : Int) = some (.int m) := atI_map at_mid
    have e1 : ∀ z : Int, (acc ++ [z]).map D.int = acc.map D.int ++ [D.int z] := by simp
    simp only [List.length_cons, List.range'_succ, List.map_cons, forW, bindT, List.set_cons_succ, List.set_cons_zero]
    refine unf (by delta b__law_row_1; rfl) ?_
    have ih : ∀ (z l : Int) (y : Option (Kd × D)), rowG ns p c (m :: ms) pre.length left = z :: rowG ns p c ms (pre.length + 1) l → forW (fun D' ρ' => wpB' S b__law_row_1 D' ρ') (.nm 6) ((List.range' (pre.length + 1) ms.length).map fun i : Nat => D.int i) Dd [some (.sh, .scr ns), some (.sh, .int p), some (.sh, .lst ((pre ++ m :: ms).map .int)), some (.sh, .int c), some (.sh, .int l), some (.ls .sh, .lst (acc.map D.int ++ [D.int z])), some (.sh, .int pre.length), y] := fun z l y e => by
      have q := row_loop hC hM hp ms (pre ++ [m]) (acc ++ [z]) l (some (.sh, .int pre.length)) y Dd hs' (by simp at hn ⊢; omega) (by simp [ha]) (fun l' x' y' => by
        have := h l' x' y'
        rw [e] at this
        simpa using this)
      rw [e1] at q
      simpa using q
    have k1 : pre.length < 100000000 := by simp at hn; omega
    by_cases h1 : c < 10 ^ 18
    · have r1 : rowG ns p c (m :: ms) pre.length left = mixF c pre.length % m :: rowG ns p c ms (pre.length + 1) left := by rw [rowG, if_pos h1]
      simp [wpB', wpS, wpO, wpE, wpEs, wpB, binW, addW, subW, mulW, fdivW, modW, powW, cmpW, iiW, idxW, slcW, revW, negW, biW, itW, bindT, bindTs, wipeE, bW, ifW, ints1, isiW, isTy, lcW, topf, kOf, als, alss, flD, flDs, flK, disj, elK, lstW, intW, eqW, hC, hM]
      have h2 : c < 1000000000000000000 := h1
      simp only [h2, if_true, decide_true]
      refine ⟨⟨by decide, by decide, by decide⟩, _, ⟨c, _, rfl, by omega, by omega, rfl⟩, ?_⟩
      simp only [List.map_append, List.map_cons] at at1
      simp only [at1]
      simp [wpB', wpS, wpO, wpE, wpEs, wpB, binW, addW, subW, mulW, fdivW, modW, powW, cmpW, iiW, idxW, slcW, revW, negW, biW, itW, bindT, bindTs, wipeE, bW, ifW, ints1, isiW, isTy, lcW, topf, kOf, als, alss, flD, flDs, flK, disj, elK, lstW, intW, eqW]
      refine ⟨by omega, hl, ?_⟩
      simpa using ih _ _ y r1
    · simp [wpB', wpS, wpO, wpE, wpEs, wpB, binW, addW, subW, mulW, fdivW, modW, powW, cmpW, iiW, idxW, slcW, revW, negW, biW, itW, bindT, bindTs, wipeE, bW, ifW, ints1, isiW, isTy, lcW, topf, kOf, als, alss, flD, flDs, flK, disj, elK, lstW, intW, eqW, hC, hM]
      have h2 : ¬ c < 1000000000000000000 := h1
      simp only [h2, if_false, decide_false]
      simp only [List.map_append, List.map_cons] at at1
      refine ⟨⟨by decide, by decide, by decide⟩, ?_⟩
      by_cases h3 : 0 < left
      · have r1 : rowG ns p c (m :: ms) pre.length left = left % m :: rowG ns p c ms (pre.length + 1) (left / m) := by rw [rowG, if_neg h1, if_pos h3]
        simp only [h3, decide_true, at1]
        simp [wpB', wpS, wpO, wpE, wpEs, wpB, binW, addW, subW, mulW, fdivW, modW, powW, cmpW, iiW, idxW, slcW, revW, negW, biW, itW, bindT, bindTs, wipeE, bW, ifW, ints1, isiW, isTy, lcW, topf, kOf, als, alss, flD, flDs, flK, disj, elK, lstW, intW, eqW, at1]
        refine ⟨by omega, hl, ⟨by omega, log2_lt (by omega) hm.2⟩, ?_⟩
        simpa using ih _ _ y r1
      · have r1 : rowG ns p c (m :: ms) pre.length left = mixF (cellF ns ((p + 1 + pre.length) % 63)) pre.length % m :: rowG ns p c ms (pre.length + 1) left := by rw [rowG, if_neg h1, if_neg h3]
        simp only [h3, decide_false]
        simp [wpB', wpS, wpO, wpE, wpEs, wpB, binW, addW, subW, mulW, fdivW, modW, powW, cmpW, iiW, idxW, slcW, revW, negW, biW, itW, bindT, bindTs, wipeE, bW, ifW, ints1, isiW, isTy, lcW, topf, kOf, als, alss, flD, flDs, flK, disj, elK, lstW, intW, eqW, at1, hC, hM]
        refine ⟨_, ⟨ns, _, rfl, Int.emod_nonneg _ (by decide), rfl⟩, ?_⟩
        simp [wpB', wpS, wpO, wpE, wpEs, wpB, binW, addW, subW, mulW, fdivW, modW, powW, cmpW, iiW, idxW, slcW, revW, negW, biW, itW, bindT, bindTs, wipeE, bW, ifW, ints1, isiW, isTy, lcW, topf, kOf, als, alss, flD, flDs, flK, disj, elK, lstW, intW, eqW, at1, hC, hM]
        refine ⟨_, ⟨_, _, rfl, by omega, by omega, rfl⟩, ?_⟩
        simp [wpB', wpS, wpO, wpE, wpEs, wpB, binW, addW, subW, mulW, fdivW, modW, powW, cmpW, iiW, idxW, slcW, revW, negW, biW, itW, bindT, bindTs, wipeE, bW, ifW, ints1, isiW, isTy, lcW, topf, kOf, als, alss, flD, flDs, flK, disj, elK, lstW, intW, eqW, at1]
        refine ⟨by omega, hl, ?_⟩
        simpa using ih _ _ _ r1
theorem w_row (hC : S.T "_law_cell" = some spCell) (hM : S.T "_law_mix" = some spMix) : ∀ ds o, spRow ds o → wpD S s__law_row N__law_row ds o := by
  rintro _ _ ⟨ns, p, ms, rfl, h0, hs, hl, rfl⟩
  refine unfD (by delta s__law_row; rfl) ?_
  simp [wpB', wpS, wpO, wpE, wpEs, wpB, binW, addW, subW, mulW, fdivW, modW, powW, cmpW, iiW, idxW, slcW, revW, negW, biW, itW, bindT, bindTs, wipeE, bW, ifW, ints1, isiW, isTy, lcW, topf, kOf, als, alss, flD, flDs, flK, disj, elK, lstW, intW, eqW, edOf, startE, hC]
  refine ⟨_, ⟨ns, p, rfl, h0, rfl⟩, ?_⟩
  simp [wpB', wpS, wpO, wpE, wpEs, wpB, binW, addW, subW, mulW, fdivW, modW, powW, cmpW, iiW, idxW, slcW, revW, negW, biW, itW, bindT, bindTs, wipeE, bW, ifW, ints1, isiW, isTy, lcW, topf, kOf, als, alss, flD, flDs, flK, disj, elK, lstW, intW, eqW, edOf, startE, hC]
  refine ⟨by omega, ?_⟩
  rw [List.range_eq_range']
  refine row_loop hC hM h0 ms [] [] _ _ _ _ hs (by simpa using hl) rfl fun l x y => ?_
  simp [wpB', wpS, wpO, wpE, wpEs, wpB, binW, addW, subW, mulW, fdivW, modW, powW, cmpW, iiW, idxW, slcW, revW, negW, biW, itW, bindT, bindTs, wipeE, bW, ifW, ints1, isiW, isTy, lcW, topf, kOf, als, alss, flD, flDs, flK, disj, elK, lstW, intW, eqW]
  rfl
end
end SV

set_option Elab.async false
set_option linter.all false
set_option maxRecDepth 100000
set_option maxHeartbeats 1000000
namespace SV
open PySem PySem.Spec PyProof.Rows L2
/-! ### sums, good, heights -/
theorem rng1 {n : Nat} : (List.range n).map (fun k : Nat => D.int (1 + (k : Int))) = (List.range' 1 n).map fun i : Nat => D.int i := by
  rw [List.range'_eq_map_range, List.map_map]
  refine List.map_congr_left fun i _ => ?_
  simp
theorem lc_map {step : D → (Option D → Prop) → Prop} {f : D → D} {Q : List D → Prop} : ∀ {items acc : List D}, (∀ x ∈ items, ∀ k : Option D → Prop, k (some (f x)) → step x k) → acc.length + items.length ≤ sizeLine → Q (acc ++ items.map f) → lcW step items acc Q
  | [], acc, _, _, q => by simpa [lcW] using q
  | x :: xs, acc, h, hl, q => by
    unfold lcW
    refine h x (by simp) _ ⟨by simp at hl; omega, ?_⟩
    exact lc_map (fun y hy => h y (by simp [hy])) (by simp at hl ⊢; omega) (by simpa using q)

def sumG (s : Int) : List Int → List Int
  | [] => []
  | x :: xs => (s + x) :: sumG (s + x) xs
def sumF (l : List Int) : List Int := 0 :: sumG 0 l
theorem sumG_len : ∀ (l : List Int) (s : Int), (sumG s l).length = l.length
  | [], _ => rfl
  | x :: xs, s => by simp [sumG, sumG_len xs]
def spSums : Spec1 := fun ds o => ∃ l : List Int, ds = [.lst (l.map .int)] ∧ l.length ≤ 1000000 ∧ o = .ret (.ls .sh) (.lst ((sumF l).map .int))
section
variable {S : Sg}
theorem sums_loop {l0 : D} : ∀ (l acc : List Int) (s : Int) (x : Option (Kd × D)) (Dd : Ed), acc.length + 1 + l.length ≤ 2000000 → (∀ x, Dd.nx [some (.sh, l0), some (.ls .sh, .lst ((acc ++ [s] ++ sumG s l).map .int)), x]) →
    forW (fun D' ρ' => wpB' S b_running_sums_1 D' ρ') (.nm 2) (l.map .int) Dd [some (.sh, l0), some (.ls .sh, .lst ((acc ++ [s]).map .int)), x]
  | [], acc, s, x, Dd, _, h => by simpa [sumG, forW] using h x
  | a :: l, acc, s, x, Dd, hn, h => by
    have ih := sums_loop (l0 := l0) l (acc ++ [s]) (s + a) (some (.sh, .int a)) Dd (by simp at hn ⊢; omega) (fun x => by simpa [sumG] using h x)
    have hz : (acc.map D.int ++ [D.int s]).length < sizeLine := by
      have : sizeLine = 16777216 := rfl
      simp at hn ⊢
      omega
    simp only [List.map_cons, forW, bindT, List.set_cons_succ, List.set_cons_zero]
    refine unf (by delta b_running_sums_1; rfl) ?_
    have e : atI (acc.map D.int ++ [D.int s]) (-1) = some (.int s) := at_last
    simp [wpB', wpS, wpO, wpE, wpEs, wpB, binW, addW, subW, mulW, fdivW, modW, powW, cmpW, iiW, idxW, slcW, revW, negW, biW, itW, bindT, bindTs, wipeE, bW, ifW, ints1, isiW, isTy, lcW, topf, kOf, als, alss, flD, flDs, flK, disj, elK, lstW, intW, eqW, e]
    exact ⟨by simpa using hz, by simpa using ih⟩
theorem w_sums : ∀ ds o, spSums ds o → wpD S s_running_sums N_running_sums ds o := by
  rintro _ _ ⟨l, rfl, hl, rfl⟩
  refine unfD (by delta s_running_sums; rfl) ?_
  simp [wpB', wpS, wpO, wpE, wpEs, wpB, binW, addW, subW, mulW, fdivW, modW, powW, cmpW, iiW, idxW, slcW, revW, negW, biW, itW, bindT, bindTs, wipeE, bW, ifW, ints1, isiW, isTy, lcW, topf, kOf, als, alss, flD, flDs, flK, disj, elK, lstW, intW, eqW, edOf, startE]
  refine ⟨by decide, sums_loop l [] 0 none _ (by simp; omega) fun x => ?_⟩
  simp [sumF]
end
structure Kn where
  (nm : Str) (w g a : Int)
def encK (k : Kn) : D := .tup [.str k.nm, .int k.w, .int k.g, .int k.a]
theorem encK1 {k : Kn} : atI [D.str k.nm, .int k.w, .int k.g, .int k.a] 1 = some (.int k.w) := rfl
theorem encK2 {k : Kn} : atI [D.str k.nm, .int k.w, .int k.g, .int k.a] 2 = some (.int k.g) := rfl
theorem encK3 {k : Kn} : atI [D.str k.nm, .int k.w, .int k.g, .int k.a] 3 = some (.int k.a) := rfl
theorem fl_tab : ∀ t : List Kn, flDs (t.map encK) = true
  | [] => rfl
  | k :: t => by simp [flDs, flD, encK, fl_tab t]
theorem fl_tab2 (t : List Kn) : (t.map encK).all (flK .sh) = true := List.all_eq_true.mpr fun x hx => by
  obtain ⟨i, _, rfl⟩ := List.mem_map.mp hx
  rfl
def goodF (s : List Int) (k : Kn) (i : Int) : Bool := !(decide (i < 0) || decide ((s.length : Int) ≤ i + k.w)) && decide (s.getD (i + k.w).toNat 0 - s.getD i.toNat 0 ≤ k.a)
def tabOk (t : List Kn) : Prop := ∀ k ∈ t, 1 ≤ k.w
def spEnds : Spec1 := fun ds o => ∃ (s : List Int) (k : Kn) (e : Int), ds = [.lst (s.map .int), encK k, .int e] ∧ 1 ≤ k.w ∧ 0 ≤ e ∧ e < s.length ∧ o = .ret .sh (.bl (goodF s k (e - k.w)))
def spGood : Spec1 := fun ds o => ∃ (s : List Int) (k : Kn) (i : Int), ds = [.lst (s.map .int), encK k, .int i] ∧ 1 ≤ k.w ∧ o = .ret .sh (.bl (goodF s k i))
section
variable {S : Sg}
theorem w_ends : ∀ ds o, spEnds ds o → wpD S s_ends_well N_ends_well ds o := by
  rintro _ _ ⟨s, k, e, rfl, hk, h0, h1, rfl⟩
  refine unfD (by delta s_ends_well; rfl) ?_
  simp [wpB', wpS, wpO, wpE, wpEs, wpB, binW, addW, subW, mulW, fdivW, modW, powW, cmpW, iiW, idxW, slcW, revW, negW, biW, itW, bindT, bindTs, wipeE, bW, ifW, ints1, isiW, isTy, lcW, topf, kOf, als, alss, flD, flDs, flK, disj, elK, lstW, intW, eqW, edOf, startE, encK, encK1]
  by_cases h : 0 ≤ e - k.w
  · have h2 : k.w ≤ e := by omega
    simp only [h2, decide_true, if_true]
    refine ⟨_, at_int h0 h1, ?_⟩
    simp [wpB', wpS, wpO, wpE, wpEs, wpB, binW, addW, subW, mulW, fdivW, modW, powW, cmpW, iiW, idxW, slcW, revW, negW, biW, itW, bindT, bindTs, wipeE, bW, ifW, ints1, isiW, isTy, lcW, topf, kOf, als, alss, flD, flDs, flK, disj, elK, lstW, intW, eqW]
    refine ⟨_, at_int h (by omega), ?_⟩
    simp [wpB', wpS, wpO, wpE, wpEs, wpB, binW, addW, subW, mulW, fdivW, modW, powW, cmpW, iiW, idxW, slcW, revW, negW, biW, itW, bindT, bindTs, wipeE, bW, ifW, ints1, isiW, isTy, lcW, topf, kOf, als, alss, flD, flDs, flK, disj, elK, lstW, intW, eqW, encK3]
    unfold goodF
    have e1 : e - k.w + k.w = e := by omega
    rw [e1]
    simp
    omega
  · have h2 : ¬ k.w ≤ e := by omega
    simp only [h2, decide_false, if_false]
    unfold goodF
    simp
    omega
theorem w_good : ∀ ds o, spGood ds o → wpD S s__law_good N__law_good ds o := by
  rintro _ _ ⟨s, k, i, rfl, hk, rfl⟩
  refine unfD (by delta s__law_good; rfl) ?_
  simp [wpB', wpS, wpO, wpE, wpEs, wpB, binW, addW, subW, mulW, fdivW, modW, powW, cmpW, iiW, idxW, slcW, revW, negW, biW, itW, bindT, bindTs, wipeE, bW, ifW, ints1, isiW, isTy, lcW, topf, kOf, als, alss, flD, flDs, flK, disj, elK, lstW, intW, eqW, edOf, startE, encK, encK1]
  by_cases h : i < 0
  · simp only [h, decide_true, if_true]
    unfold goodF
    simp [h]
    all_goals (intro h0; omega)
  · simp only [h, decide_false, if_false]
    by_cases h2 : (s.length : Int) ≤ i + k.w
    · simp [wpB', wpS, wpO, wpE, wpEs, wpB, binW, addW, subW, mulW, fdivW, modW, powW, cmpW, iiW, idxW, slcW, revW, negW, biW, itW, bindT, bindTs, wipeE, bW, ifW, ints1, isiW, isTy, lcW, topf, kOf, als, alss, flD, flDs, flK, disj, elK, lstW, intW, eqW, h2]
      unfold goodF
      simp [h2]
      all_goals (intro h0; omega)
    · simp [wpB', wpS, wpO, wpE, wpEs, wpB, binW, addW, subW, mulW, fdivW, modW, powW, cmpW, iiW, idxW, slcW, revW, negW, biW, itW, bindT, bindTs, wipeE, bW, ifW, ints1, isiW, isTy, lcW, topf, kOf, als, alss, flD, flDs, flK, disj, elK, lstW, intW, eqW, h2]
      refine ⟨_, at_int (by omega) (by omega), ?_⟩
      simp [wpB', wpS, wpO, wpE, wpEs, wpB, binW, addW, subW, mulW, fdivW, modW, powW, cmpW, iiW, idxW, slcW, revW, negW, biW, itW, bindT, bindTs, wipeE, bW, ifW, ints1, isiW, isTy, lcW, topf, kOf, als, alss, flD, flDs, flK, disj, elK, lstW, intW, eqW]
      refine ⟨_, at_int (by omega) (by omega), ?_⟩
      simp [wpB', wpS, wpO, wpE, wpEs, wpB, binW, addW, subW, mulW, fdivW, modW, powW, cmpW, iiW, idxW, slcW, revW, negW, biW, itW, bindT, bindTs, wipeE, bW, ifW, ints1, isiW, isTy, lcW, topf, kOf, als, alss, flD, flDs, flK, disj, elK, lstW, intW, eqW, encK3]
      unfold goodF
      simp [h, h2]
def mx (a b : Int) : Int := if a < b then b else a
def grF (s told : List Int) (e : Int) : List Kn → Int → Int
  | [], g => g
  | k :: ks, g => grF s told e ks (if goodF s k (e - k.w) = true then mx g (told.getD (e - k.w).toNat 0 + k.g) else g)
def htG (s : List Int) (t : List Kn) : Nat → List Int → List Int
  | 0, told => told
  | n + 1, told => htG s t n (told ++ [grF s told told.length t (told.getD (told.length - 1) 0)])
def htF (roll : List Int) (t : List Kn) : List Int := htG (sumF roll) t roll.length [0]
theorem htG_len {s : List Int} {t : List Kn} : ∀ (n : Nat) (told : List Int), (htG s t n told).length = told.length + n
  | 0, _ => rfl
  | n + 1, told => by
    unfold htG
    rw [htG_len n]
    simp
    omega
def spHt : Spec1 := fun ds o => ∃ (l : List Int) (t : List Kn), ds = [.lst (l.map .int), .lst (t.map encK)] ∧ l.length ≤ 1000000 ∧ tabOk t ∧ o = .ret (.ls .sh) (.lst ((htF l t).map .int))
theorem ht_in (hE : S.T "ends_well" = some spEnds) {l0 : D} {s told : List Int} {t0 : List Kn} {e : Int} (h0 : 0 ≤ e) (h1 : e < s.length) (h2 : e = told.length) : ∀ (ks : List Kn) (g : Int) (x : Option (Kd × D)) (Dd : Ed), tabOk ks →
    (∀ x, Dd.nx [some (.sh, l0), some (.sh, .lst (t0.map encK)), some (.ls .sh, .lst (s.map .int)), some (.ls .sh, .lst (told.map .int)), some (.sh, .int e), some (.sh, .int (grF s told e ks g)), x]) →
    forW (fun D' ρ' => wpB' S b_heights_1 D' ρ') (.nm 6) (ks.map encK) Dd [some (.sh, l0), some (.sh, .lst (t0.map encK)), some (.ls .sh, .lst (s.map .int)), some (.ls .sh, .lst (told.map .int)), some (.sh, .int e), some (.sh, .int g), x]
  | [], g, x, Dd, _, h => by simpa [grF, forW] using h x
  | k :: ks, g, x, Dd, hk, h => by
    have hw := hk k (by simp)
    simp only [List.map_cons, forW, bindT, List.set_cons_succ, List.set_cons_zero]
    refine unf (by delta b_heights_1; rfl) ?_
    simp [wpB', wpS, wpO, wpE, wpEs, wpB, binW, addW, subW, mulW, fdivW, modW, powW, cmpW, iiW, idxW, slcW, revW, negW, biW, itW, bindT, bindTs, wipeE, bW, ifW, ints1, isiW, isTy, lcW, topf, kOf, als, alss, flD, flDs, flK, disj, elK, lstW, intW, eqW, hE]
    refine ⟨_, ⟨s, k, e, rfl, hw, h0, h1, rfl⟩, ?_⟩
    by_cases hg : goodF s k (e - k.w) = true
    · have ih := ht_in hE h0 h1 h2 ks (mx g (told.getD (e - k.w).toNat 0 + k.g)) (some (.sh, encK k)) Dd (fun z hz => hk z (by simp [hz])) (fun x => by simpa [grF, hg] using h x)
      have hp : 0 ≤ e - k.w := by
        unfold goodF at hg
        simp at hg
        omega
      rw [hg]
      simp [wpB', wpS, wpO, wpE, wpEs, wpB, binW, addW, subW, mulW, fdivW, modW, powW, cmpW, iiW, idxW, slcW, revW, negW, biW, itW, bindT, bindTs, wipeE, bW, ifW, ints1, isiW, isTy, lcW, topf, kOf, als, alss, flD, flDs, flK, disj, elK, lstW, intW, eqW, encK, encK1, encK2]
      refine ⟨_, at_int hp (by omega), ?_⟩
      simp [wpB', wpS, wpO, wpE, wpEs, wpB, binW, addW, subW, mulW, fdivW, modW, powW, cmpW, iiW, idxW, slcW, revW, negW, biW, itW, bindT, bindTs, wipeE, bW, ifW, ints1, isiW, isTy, lcW, topf, kOf, als, alss, flD, flDs, flK, disj, elK, lstW, intW, eqW]
      unfold mx at ih
      simpa [encK] using ih
    · have ih := ht_in hE h0 h1 h2 ks g (some (.sh, encK k)) Dd (fun z hz => hk z (by simp [hz])) (fun x => by simpa [grF, hg] using h x)
      have hg' : goodF s k (e - k.w) = false := by simpa using hg
      rw [hg']
      simp [wpB', wpS, wpO, wpE, wpEs, wpB, binW, addW, subW, mulW, fdivW, modW, powW, cmpW, iiW, idxW, slcW, revW, negW, biW, itW, bindT, bindTs, wipeE, bW, ifW, ints1, isiW, isTy, lcW, topf, kOf, als, alss, flD, flDs, flK, disj, elK, lstW, intW, eqW]
      exact ih
theorem ht_loop (hE : S.T "ends_well" = some spEnds) {l0 : D} {s : List Int} {t : List Kn} (ht : tabOk t) (hs : s.length ≤ 2000000) : ∀ (n : Nat) (told : List Int) (x y z : Option (Kd × D)) (Dd : Ed), 0 < told.length → s.length = told.length + n →
    (∀ x y z, Dd.nx [some (.sh, l0), some (.sh, .lst (t.map encK)), some (.ls .sh, .lst (s.map .int)), some (.ls .sh, .lst ((htG s t n told).map .int)), x, y, z]) →
    forW (fun D' ρ' => wpB' S b_heights_2 D' ρ') (.nm 4) ((List.range' told.length n).map fun i : Nat => D.int i) Dd [some (.sh, l0), some (.sh, .lst (t.map encK)), some (.ls .sh, .lst (s.map .int)), some (.ls .sh, .lst (told.map .int)), x, y, z]
  | 0, told, x, y, z, Dd, _, _, h => by simpa [htG, forW] using h x y z
  | n + 1, told, x, y, z, Dd, hp, hn, h => by
    have hz : told.length < sizeLine := by
      have : sizeLine = 16777216 := rfl
      omega
    simp only [List.range'_succ, List.map_cons, forW, bindT, List.set_cons_succ, List.set_cons_zero]
    refine unf (by delta b_heights_2; rfl) ?_
    have e : atI (told.map D.int) (-1) = some (.int (told.getD (told.length - 1) 0)) := by
      obtain ⟨q, a, rfl⟩ : ∃ q a, told = q ++ [a] := ⟨told.dropLast, told.getLast (by intro h; simp [h] at hp), (List.dropLast_concat_getLast _).symm⟩
      rw [List.map_append]
      refine at_last.trans ?_
      simp
    simp [wpB', wpS, wpO, wpE, wpEs, wpB, binW, addW, subW, mulW, fdivW, modW, powW, cmpW, iiW, idxW, slcW, revW, negW, biW, itW, bindT, bindTs, wipeE, bW, ifW, ints1, isiW, isTy, lcW, topf, kOf, als, alss, flD, flDs, flK, disj, elK, lstW, intW, eqW, e]
    refine ht_in hE (by omega) (by omega) rfl t _ z _ ht fun x => ?_
    simp [wpB', wpS, wpO, wpE, wpEs, wpB, binW, addW, subW, mulW, fdivW, modW, powW, cmpW, iiW, idxW, slcW, revW, negW, biW, itW, bindT, bindTs, wipeE, bW, ifW, ints1, isiW, isTy, lcW, topf, kOf, als, alss, flD, flDs, flK, disj, elK, lstW, intW, eqW, hz]
    have ih := ht_loop hE ht hs n (told ++ [grF s told told.length t (told.getD (told.length - 1) 0)]) (some (.sh, .int told.length)) (some (.sh, .int (grF s told told.length t (told.getD (told.length - 1) 0)))) x Dd (by simp) (by simp; omega) (fun x y z => by simpa [htG] using h x y z)
    simpa using ih
theorem w_ht (hE : S.T "ends_well" = some spEnds) (hS : S.T "running_sums" = some spSums) : ∀ ds o, spHt ds o → wpD S s_heights N_heights ds o := by
  rintro _ _ ⟨l, t, rfl, hl, ht, rfl⟩
  refine unfD (by delta s_heights; rfl) ?_
  have hln : (sumF l).length = l.length + 1 := by simp [sumF, sumG_len]
  simp [wpB', wpS, wpO, wpE, wpEs, wpB, binW, addW, subW, mulW, fdivW, modW, powW, cmpW, iiW, idxW, slcW, revW, negW, biW, itW, bindT, bindTs, wipeE, bW, ifW, ints1, isiW, isTy, lcW, topf, kOf, als, alss, flD, flDs, flK, disj, elK, lstW, intW, eqW, edOf, startE, hS]
  refine ⟨_, ⟨l, rfl, hl, rfl⟩, ?_⟩
  simp [wpB', wpS, wpO, wpE, wpEs, wpB, binW, addW, subW, mulW, fdivW, modW, powW, cmpW, iiW, idxW, slcW, revW, negW, biW, itW, bindT, bindTs, wipeE, bW, ifW, ints1, isiW, isTy, lcW, topf, kOf, als, alss, flD, flDs, flK, disj, elK, lstW, intW, eqW, edOf, startE, hS, hln]
  refine ⟨by decide, by omega, ?_⟩
  rw [rng1]
  refine ht_loop (l0 := .lst (l.map .int)) (s := sumF l) hE ht (by omega) l.length [0] none none none _ (by decide) (by simp; omega) fun x y z => ?_
  simp [wpB', wpS, wpO, wpE, wpEs, wpB, binW, addW, subW, mulW, fdivW, modW, powW, cmpW, iiW, idxW, slcW, revW, negW, biW, itW, bindT, bindTs, wipeE, bW, ifW, ints1, isiW, isTy, lcW, topf, kOf, als, alss, flD, flDs, flK, disj, elK, lstW, intW, eqW]
  rfl
end
end SV

set_option Elab.async false
set_option linter.all false
set_option maxRecDepth 100000
set_option maxHeartbeats 1000000
namespace SV
open PySem PySem.Spec PyProof.Rows L2
def prF (l : List Int) (t : List Kn) : List Int := (List.range l.length).map fun i : Nat => (htF l t).getD (i + 1) 0 - (htF l t).getD i 0
def spPr : Spec1 := fun ds o => ∃ (l : List Int) (t : List Kn), ds = [.lst (l.map .int), .lst (t.map encK)] ∧ l.length ≤ 1000000 ∧ tabOk t ∧ o = .ret (.ls .sh) (.lst ((prF l t).map .int))
section
variable {S : Sg}
theorem w_pr (hH : S.T "heights" = some spHt) : ∀ ds o, spPr ds o → wpD S s_prices N_prices ds o := by
  rintro _ _ ⟨l, t, rfl, hl, ht, rfl⟩
  refine unfD (by delta s_prices; rfl) ?_
  simp [wpB', wpS, wpO, wpE, wpEs, wpB, binW, addW, subW, mulW, fdivW, modW, powW, cmpW, iiW, idxW, slcW, revW, negW, biW, itW, bindT, bindTs, wipeE, bW, ifW, ints1, isiW, isTy, lcW, topf, kOf, als, alss, flD, flDs, flK, disj, elK, lstW, intW, eqW, edOf, startE, hH]
  refine ⟨_, ⟨l, t, rfl, hl, ht, rfl⟩, ?_⟩
  have hz : sizeLine = 16777216 := rfl
  have hL : (htF l t).length = l.length + 1 := by unfold htF; rw [htG_len]; simp; omega
  simp [wpB', wpS, wpO, wpE, wpEs, wpB, binW, addW, subW, mulW, fdivW, modW, powW, cmpW, iiW, idxW, slcW, revW, negW, biW, itW, bindT, bindTs, wipeE, bW, ifW, ints1, isiW, isTy, lcW, topf, kOf, als, alss, flD, flDs, flK, disj, elK, lstW, intW, eqW]
  refine ⟨by omega, ?_⟩
  refine lc_map (f := fun d => match d with | .int i => .int ((htF l t).getD (i + 1).toNat 0 - (htF l t).getD i.toNat 0) | d => d) (fun x hx k hk => ?_) (by simp; omega) ?_
  · obtain ⟨i, hi, rfl⟩ := List.mem_map.mp hx
    have hi2 : i < l.length := List.mem_range.mp hi
    simp [wpB', wpS, wpO, wpE, wpEs, wpB, binW, addW, subW, mulW, fdivW, modW, powW, cmpW, iiW, idxW, slcW, revW, negW, biW, itW, bindT, bindTs, wipeE, bW, ifW, ints1, isiW, isTy, lcW, topf, kOf, als, alss, flD, flDs, flK, disj, elK, lstW, intW, eqW]
    refine ⟨_, at_int (by omega) (by omega), ?_⟩
    simp [wpB', wpS, wpO, wpE, wpEs, wpB, binW, addW, subW, mulW, fdivW, modW, powW, cmpW, iiW, idxW, slcW, revW, negW, biW, itW, bindT, bindTs, wipeE, bW, ifW, ints1, isiW, isTy, lcW, topf, kOf, als, alss, flD, flDs, flK, disj, elK, lstW, intW, eqW]
    refine ⟨_, at_int (by omega) (by omega), ?_⟩
    simp [wpB', wpS, wpO, wpE, wpEs, wpB, binW, addW, subW, mulW, fdivW, modW, powW, cmpW, iiW, idxW, slcW, revW, negW, biW, itW, bindT, bindTs, wipeE, bW, ifW, ints1, isiW, isTy, lcW, topf, kOf, als, alss, flD, flDs, flK, disj, elK, lstW, intW, eqW]
    simpa using hk
  · have e : (List.map (fun i : Nat => D.int i) (List.range l.length)).map (fun d => match d with | .int i => D.int ((htF l t).getD (i + 1).toNat 0 - (htF l t).getD i.toNat 0) | d => d) = (prF l t).map D.int := by
      unfold prF
      rw [List.map_map, List.map_map]
      refine List.map_congr_left fun i _ => ?_
      have e1 : ((i : Int) + 1).toNat = i + 1 := by omega
      simp [e1]
    rw [List.nil_append, e]
    simp [wpB', wpS, wpO, wpE, wpEs, wpB, binW, addW, subW, mulW, fdivW, modW, powW, cmpW, iiW, idxW, slcW, revW, negW, biW, itW, bindT, bindTs, wipeE, bW, ifW, ints1, isiW, isTy, lcW, topf, kOf, als, alss, flD, flDs, flK, disj, elK, lstW, intW, eqW]
/-! ### the law's own heights -/
theorem lht_in (hE : S.T "_law_good" = some spGood) {l0 : D} {s told : List Int} {t0 : List Kn} {e : Int} (h0 : 0 ≤ e) (h1 : e < s.length) (h2 : e = told.length) : ∀ (ks : List Kn) (g : Int) (x y : Option (Kd × D)) (Dd : Ed), tabOk ks →
    (∀ x y, Dd.nx [some (.sh, l0), some (.sh, .lst (t0.map encK)), some (.ls .sh, .lst (s.map .int)), some (.ls .sh, .lst (told.map .int)), some (.sh, .int e), some (.sh, .int (grF s told e ks g)), x, y]) →
    forW (fun D' ρ' => wpB' S b__law_heights_1 D' ρ') (.nm 6) (ks.map encK) Dd [some (.sh, l0), some (.sh, .lst (t0.map encK)), some (.ls .sh, .lst (s.map .int)), some (.ls .sh, .lst (told.map .int)), some (.sh, .int e), some (.sh, .int g), x, y]
  | [], g, x, y, Dd, _, h => by simpa [grF, forW] using h x y
  | k :: ks, g, x, y, Dd, hk, h => by
    have hw := hk k (by simp)
    simp only [List.map_cons, forW, bindT, List.set_cons_succ, List.set_cons_zero]
    refine unf (by delta b__law_heights_1; rfl) ?_
    simp [wpB', wpS, wpO, wpE, wpEs, wpB, binW, addW, subW, mulW, fdivW, modW, powW, cmpW, iiW, idxW, slcW, revW, negW, biW, itW, bindT, bindTs, wipeE, bW, ifW, ints1, isiW, isTy, lcW, topf, kOf, als, alss, flD, flDs, flK, disj, elK, lstW, intW, eqW, hE, encK, encK1, encK2]
    refine ⟨_, ⟨s, k, _, rfl, hw, rfl⟩, ?_⟩
    by_cases hg : goodF s k (e - k.w) = true
    · have ih := lht_in hE h0 h1 h2 ks (mx g (told.getD (e - k.w).toNat 0 + k.g)) (some (.sh, encK k)) (some (.sh, .int (e - k.w))) Dd (fun z hz => hk z (by simp [hz])) (fun x y => by simpa [grF, hg] using h x y)
      have hp : 0 ≤ e - k.w := by
        unfold goodF at hg
        simp at hg
        omega
      rw [hg]
      simp [wpB', wpS, wpO, wpE, wpEs, wpB, binW, addW, subW, mulW, fdivW, modW, powW, cmpW, iiW, idxW, slcW, revW, negW, biW, itW, bindT, bindTs, wipeE, bW, ifW, ints1, isiW, isTy, lcW, topf, kOf, als, alss, flD, flDs, flK, disj, elK, lstW, intW, eqW, encK, encK1, encK2]
      refine ⟨_, at_int hp (by omega), ?_⟩
      simp [wpB', wpS, wpO, wpE, wpEs, wpB, binW, addW, subW, mulW, fdivW, modW, powW, cmpW, iiW, idxW, slcW, revW, negW, biW, itW, bindT, bindTs, wipeE, bW, ifW, ints1, isiW, isTy, lcW, topf, kOf, als, alss, flD, flDs, flK, disj, elK, lstW, intW, eqW]
      unfold mx at ih
      simpa [encK] using ih
    · have ih := lht_in hE h0 h1 h2 ks g (some (.sh, encK k)) (some (.sh, .int (e - k.w))) Dd (fun z hz => hk z (by simp [hz])) (fun x y => by simpa [grF, hg] using h x y)
      have hg' : goodF s k (e - k.w) = false := by simpa using hg
      rw [hg']
      simp [wpB', wpS, wpO, wpE, wpEs, wpB, binW, addW, subW, mulW, fdivW, modW, powW, cmpW, iiW, idxW, slcW, revW, negW, biW, itW, bindT, bindTs, wipeE, bW, ifW, ints1, isiW, isTy, lcW, topf, kOf, als, alss, flD, flDs, flK, disj, elK, lstW, intW, eqW]
      exact ih
theorem lht_loop (hE : S.T "_law_good" = some spGood) {l0 : D} {s : List Int} {t : List Kn} (ht : tabOk t) (hs : s.length ≤ 2000000) : ∀ (n : Nat) (told : List Int) (x y z u : Option (Kd × D)) (Dd : Ed), 0 < told.length → s.length = told.length + n →
    (∀ x y z u, Dd.nx [some (.sh, l0), some (.sh, .lst (t.map encK)), some (.ls .sh, .lst (s.map .int)), some (.ls .sh, .lst ((htG s t n told).map .int)), x, y, z, u]) →
    forW (fun D' ρ' => wpB' S b__law_heights_2 D' ρ') (.nm 4) ((List.range' told.length n).map fun i : Nat => D.int i) Dd [some (.sh, l0), some (.sh, .lst (t.map encK)), some (.ls .sh, .lst (s.map .int)), some (.ls .sh, .lst (told.map .int)), x, y, z, u]
  | 0, told, x, y, z, u, Dd, _, _, h => by simpa [htG, forW] using h x y z u
  | n + 1, told, x, y, z, u, Dd, hp, hn, h => by
    have hz : told.length < sizeLine := by
      have : sizeLine = 16777216 := rfl
      omega
    simp only [List.range'_succ, List.map_cons, forW, bindT, List.set_cons_succ, List.set_cons_zero]
    refine unf (by delta b__law_heights_2; rfl) ?_
    have e : atI (told.map D.int) (-1) = some (.int (told.getD (told.length - 1) 0)) := by
      obtain ⟨q, a, rfl⟩ : ∃ q a, told = q ++ [a] := ⟨told.dropLast, told.getLast (by intro h; simp [h] at hp), (List.dropLast_concat_getLast _).symm⟩
      rw [List.map_append]
      refine at_last.trans ?_
      simp
    simp [wpB', wpS, wpO, wpE, wpEs, wpB, binW, addW, subW, mulW, fdivW, modW, powW, cmpW, iiW, idxW, slcW, revW, negW, biW, itW, bindT, bindTs, wipeE, bW, ifW, ints1, isiW, isTy, lcW, topf, kOf, als, alss, flD, flDs, flK, disj, elK, lstW, intW, eqW, e]
    refine lht_in hE (by omega) (by omega) rfl t _ z u _ ht fun x y => ?_
    simp [wpB', wpS, wpO, wpE, wpEs, wpB, binW, addW, subW, mulW, fdivW, modW, powW, cmpW, iiW, idxW, slcW, revW, negW, biW, itW, bindT, bindTs, wipeE, bW, ifW, ints1, isiW, isTy, lcW, topf, kOf, als, alss, flD, flDs, flK, disj, elK, lstW, intW, eqW, hz]
    have ih := lht_loop hE ht hs n (told ++ [grF s told told.length t (told.getD (told.length - 1) 0)]) (some (.sh, .int told.length)) (some (.sh, .int (grF s told told.length t (told.getD (told.length - 1) 0)))) x y Dd (by simp) (by simp; omega) (fun x y z u => by simpa [htG] using h x y z u)
    simpa using ih
theorem w_lht (hE : S.T "_law_good" = some spGood) (hS : S.T "_law_sums" = some spSums) : ∀ ds o, spHt ds o → wpD S s__law_heights N__law_heights ds o := by
  rintro _ _ ⟨l, t, rfl, hl, ht, rfl⟩
  refine unfD (by delta s__law_heights; rfl) ?_
  have hln : (sumF l).length = l.length + 1 := by simp [sumF, sumG_len]
  simp [wpB', wpS, wpO, wpE, wpEs, wpB, binW, addW, subW, mulW, fdivW, modW, powW, cmpW, iiW, idxW, slcW, revW, negW, biW, itW, bindT, bindTs, wipeE, bW, ifW, ints1, isiW, isTy, lcW, topf, kOf, als, alss, flD, flDs, flK, disj, elK, lstW, intW, eqW, edOf, startE, hS]
  refine ⟨_, ⟨l, rfl, hl, rfl⟩, ?_⟩
  simp [wpB', wpS, wpO, wpE, wpEs, wpB, binW, addW, subW, mulW, fdivW, modW, powW, cmpW, iiW, idxW, slcW, revW, negW, biW, itW, bindT, bindTs, wipeE, bW, ifW, ints1, isiW, isTy, lcW, topf, kOf, als, alss, flD, flDs, flK, disj, elK, lstW, intW, eqW, edOf, startE, hS, hln]
  refine ⟨by decide, by omega, ?_⟩
  rw [rng1]
  refine lht_loop (l0 := .lst (l.map .int)) (s := sumF l) hE ht (by omega) l.length [0] none none none none _ (by decide) (by simp; omega) fun x y z u => ?_
  simp [wpB', wpS, wpO, wpE, wpEs, wpB, binW, addW, subW, mulW, fdivW, modW, powW, cmpW, iiW, idxW, slcW, revW, negW, biW, itW, bindT, bindTs, wipeE, bW, ifW, ints1, isiW, isTy, lcW, topf, kOf, als, alss, flD, flDs, flK, disj, elK, lstW, intW, eqW]
  rfl
theorem w_lsums : ∀ ds o, spSums ds o → wpD S s__law_sums N__law_sums ds o := fun ds o h => (w_sums ds o h : wpD S s_running_sums N_running_sums ds o)
end
end SV

set_option Elab.async false
set_option linter.all false
set_option maxRecDepth 100000
set_option maxHeartbeats 1000000
namespace SV
open PySem PySem.Spec PyProof.Rows L2
/-! ### plain: heights and prices -/
theorem gr_congr {s A B : List Int} {e : Nat} (h : ∀ j, j < e → A.getD j 0 = B.getD j 0) : ∀ (ks : List Kn) (g : Int), tabOk ks → grF s A e ks g = grF s B e ks g
  | [], g, _ => rfl
  | k :: ks, g, hk => by
    have hw := hk k (by simp)
    unfold grF
    rw [gr_congr h ks _ fun z hz => hk z (by simp [hz])]
    by_cases hg : goodF s k (e - k.w) = true
    · have hp : 0 ≤ (e : Int) - k.w := by
        unfold goodF at hg
        simp at hg
        omega
      rw [if_pos hg, if_pos hg, h _ (by omega)]
    · rw [if_neg hg, if_neg hg]
theorem gr_ge {s A : List Int} {e : Int} : ∀ (ks : List Kn) (g : Int), g ≤ grF s A e ks g
  | [], g => Int.le_refl g
  | k :: ks, g => by
    unfold grF
    refine Int.le_trans ?_ (gr_ge ks _)
    split
    · unfold mx; split <;> omega
    · omega
theorem gr_good {s A : List Int} {e : Int} {k : Kn} (hg : goodF s k (e - k.w) = true) : ∀ (ks : List Kn) (g : Int), k ∈ ks → A.getD (e - k.w).toNat 0 + k.g ≤ grF s A e ks g
  | [], g, h => by simp at h
  | k2 :: ks, g, h => by
    unfold grF
    rcases List.mem_cons.mp h with rfl | h
    · refine Int.le_trans ?_ (gr_ge ks _)
      rw [if_pos hg]
      unfold mx; split <;> omega
    · exact gr_good hg ks _ h
theorem ht_pre {s : List Int} {t : List Kn} : ∀ (n : Nat) (told : List Int) (j : Nat), j < told.length → (htG s t n told).getD j 0 = told.getD j 0
  | 0, _, _, _ => rfl
  | n + 1, told, j, h => by
    unfold htG
    rw [ht_pre n _ j (by simp; omega)]
    simp [List.getD, List.getElem?_append_left h]
theorem ht_at {s : List Int} {t : List Kn} (ht : tabOk t) : ∀ (n : Nat) (told : List Int) (e : Nat), 0 < told.length → told.length ≤ e → e < told.length + n → (htG s t n told).getD e 0 = grF s (htG s t n told) e t ((htG s t n told).getD (e - 1) 0)
  | 0, _, _, _, _, _ => by omega
  | n + 1, told, e, h0, h1, h2 => by
    by_cases q : e = told.length
    · subst q
      have p : ∀ j, j < told.length → told.getD j 0 = (htG s t (n + 1) told).getD j 0 := fun j hj => (ht_pre (n + 1) told j hj).symm
      rw [← p (told.length - 1) (by omega), ← gr_congr p t _ ht]
      unfold htG
      rw [ht_pre n _ _ (by simp)]
      simp
    · have := ht_at (s := s) ht n (told ++ [grF s told told.length t (told.getD (told.length - 1) 0)]) e (by simp) (by simp; omega) (by simp; omega)
      unfold htG
      exact this
theorem htF_len {l : List Int} {t : List Kn} : (htF l t).length = l.length + 1 := by unfold htF; rw [htG_len]; simp; omega
theorem htF_0 {l : List Int} {t : List Kn} : (htF l t).getD 0 0 = 0 := by unfold htF; rw [ht_pre _ _ _ (by simp)]; rfl
theorem htF_mono {l : List Int} {t : List Kn} (ht : tabOk t) {i : Nat} (h : i < l.length) : (htF l t).getD i 0 ≤ (htF l t).getD (i + 1) 0 := by
  have := ht_at (s := sumF l) ht l.length [0] (i + 1) (by simp) (by simp) (by simp; omega)
  unfold htF
  rw [this]
  exact gr_ge _ _
theorem sumF_len {l : List Int} : (sumF l).length = l.length + 1 := by simp [sumF, sumG_len]
theorem htF_good {l : List Int} {t : List Kn} (ht : tabOk t) {k : Kn} (hk : k ∈ t) {i : Int} (hg : goodF (sumF l) k i = true) : (htF l t).getD i.toNat 0 + k.g ≤ (htF l t).getD (i + k.w).toNat 0 := by
  have hw := ht k hk
  have hq := hg
  unfold goodF at hq
  simp [sumF_len] at hq
  obtain ⟨e, he⟩ : ∃ e : Nat, i + k.w = e := ⟨(i + k.w).toNat, by omega⟩
  have ei : i = (e : Int) - k.w := by omega
  have := ht_at (s := sumF l) ht l.length [0] e (by simp) (by simp; omega) (by simp; omega)
  have e2 : (i + k.w).toNat = e := by omega
  rw [e2]
  unfold htF
  rw [this]
  subst ei
  exact gr_good hg t _ hk
/-- sums of the steps -/
theorem sum_at : ∀ (c : List Int) (s : Int) (h : Nat → Int) (j : Nat), (∀ i, i < c.length → c.getD i 0 = h (i + 1) - h i) → s = h 0 → j < c.length → (sumG s c).getD j 0 = h (j + 1)
  | [], _, _, _, _, _, hj => by simp at hj
  | x :: xs, s, h, 0, hc, hs, _ => by
    have := hc 0 (by simp)
    simp at this
    simp [sumG]
    omega
  | x :: xs, s, h, j + 1, hc, hs, hj => by
    have h0 := hc 0 (by simp)
    simp at h0
    have := sum_at xs (s + x) (fun i => h (i + 1)) j (fun i hi => by simpa using hc (i + 1) (by simpa using hi)) (by show s + x = h 1; omega) (by simpa using hj)
    simpa [sumG] using this
theorem prF_at {l : List Int} {t : List Kn} {i : Nat} (h : i < l.length) : (prF l t).getD i 0 = (htF l t).getD (i + 1) 0 - (htF l t).getD i 0 := by
  unfold prF
  simp [h]
theorem prF_len {l : List Int} {t : List Kn} : (prF l t).length = l.length := by simp [prF]
theorem prF_sum {l : List Int} {t : List Kn} {j : Nat} (h : j ≤ l.length) : (sumF (prF l t)).getD j 0 = (htF l t).getD j 0 := by
  cases j with
  | zero => rw [htF_0]; rfl
  | succ j => 
    have := sum_at (prF l t) 0 (fun i => (htF l t).getD i 0) j (fun i hi => prF_at (by rw [prF_len] at hi; exact hi)) htF_0.symm (by rw [prF_len]; omega)
    simpa [sumF] using this
/-- prices that show it -/
def showsOk (l : List Int) (t : List Kn) (c : List Int) : Prop := c.length = l.length ∧ (∀ x ∈ c, 0 ≤ x) ∧ ∀ k ∈ t, ∀ i : Nat, i < l.length → goodF (sumF l) k i = true → k.g ≤ (sumF c).getD (i + k.w).toNat 0 - (sumF c).getD i 0
theorem prF_ok {l : List Int} {t : List Kn} (ht : tabOk t) : showsOk l t (prF l t) := by
  refine ⟨prF_len, fun x hx => ?_, fun k hk i hi hg => ?_⟩
  · unfold prF at hx
    obtain ⟨i, hi, rfl⟩ := List.mem_map.mp hx
    have := htF_mono ht (List.mem_range.mp hi)
    omega
  · have hq := hg
    have hw := ht k hk
    unfold goodF at hq
    simp [sumF_len] at hq
    rw [prF_sum (by omega), prF_sum (by omega)]
    have := htF_good ht hk hg
    rw [Int.toNat_natCast] at this
    omega
/-! ### shown, right -/
def spShown : Spec1 := fun ds o => ∃ (l : List Int) (t : List Kn) (c : List Int), ds = [.lst (l.map .int), .lst (t.map encK), .lst (c.map .int)] ∧ l.length ≤ 1000000 ∧ tabOk t ∧ showsOk l t c ∧ o = .ret .sh (.int ((sumF c).getD l.length 0))
section
variable {S : Sg}
theorem sh_l1 {a b c d e f g : Option (Kd × D)} : ∀ (l : List Int) (x : Option (Kd × D)) (Dd : Ed), (∀ y ∈ l, 0 ≤ y) → (∀ x, Dd.nx [a, b, c, x, d, e, f, g]) →
    forW (fun D' ρ' => wpB' S b__law_shown_1 D' ρ') (.nm 3) (l.map .int) Dd [a, b, c, x, d, e, f, g]
  | [], x, Dd, _, h => by simpa [forW] using h x
  | y :: l, x, Dd, hp, h => by
    have ih := sh_l1 l (some (.sh, .int y)) Dd (fun z hz => hp z (by simp [hz])) h
    have h0 : ¬ y < 0 := by have := hp y (by simp); omega
    simp only [List.map_cons, forW, bindT, List.set_cons_succ, List.set_cons_zero]
    refine unf (by delta b__law_shown_1; rfl) ?_
    simp [wpB', wpS, wpO, wpE, wpEs, wpB, binW, addW, subW, mulW, fdivW, modW, powW, cmpW, iiW, idxW, slcW, revW, negW, biW, itW, bindT, bindTs, wipeE, bW, ifW, ints1, isiW, isTy, lcW, topf, kOf, als, alss, flD, flDs, flK, disj, elK, lstW, intW, eqW, h0]
    exact ih
theorem sh_l2 (hG : S.T "_law_good" = some spGood) {l0 t0 c0 x3 : Option (Kd × D)} {s c : List Int} {k : Kn} (hw : 1 ≤ k.w) (hc : c.length = s.length) : ∀ (n a : Nat) (y : Option (Kd × D)) (Dd : Ed), (∀ i : Nat, a ≤ i → i < a + n → goodF s k i = true → k.g ≤ c.getD (i + k.w).toNat 0 - c.getD i 0) → (∀ y, Dd.nx [l0, t0, c0, x3, some (.ls .sh, .lst (s.map .int)), some (.ls .sh, .lst (c.map .int)), some (.sh, encK k), y]) →
    forW (fun D' ρ' => wpB' S b__law_shown_2 D' ρ') (.nm 7) ((List.range' a n).map fun i : Nat => D.int i) Dd [l0, t0, c0, x3, some (.ls .sh, .lst (s.map .int)), some (.ls .sh, .lst (c.map .int)), some (.sh, encK k), y]
  | 0, a, y, Dd, _, h => by simpa [forW] using h y
  | n + 1, a, y, Dd, hk, h => by
    have ih := sh_l2 hG (l0 := l0) (t0 := t0) (c0 := c0) (x3 := x3) (k := k) hw hc n (a + 1) (some (.sh, .int a)) Dd (fun i h1 h2 => hk i (by omega) (by omega)) h
    simp only [List.range'_succ, List.map_cons, forW, bindT, List.set_cons_succ, List.set_cons_zero]
    refine unf (by delta b__law_shown_2; rfl) ?_
    simp [wpB', wpS, wpO, wpE, wpEs, wpB, binW, addW, subW, mulW, fdivW, modW, powW, cmpW, iiW, idxW, slcW, revW, negW, biW, itW, bindT, bindTs, wipeE, bW, ifW, ints1, isiW, isTy, lcW, topf, kOf, als, alss, flD, flDs, flK, disj, elK, lstW, intW, eqW, hG]
    refine ⟨_, ⟨s, k, _, rfl, hw, rfl⟩, ?_⟩
    by_cases hg : goodF s k a = true
    · have hq := hg
      unfold goodF at hq
      simp at hq
      rw [hg]
      simp [wpB', wpS, wpO, wpE, wpEs, wpB, binW, addW, subW, mulW, fdivW, modW, powW, cmpW, iiW, idxW, slcW, revW, negW, biW, itW, bindT, bindTs, wipeE, bW, ifW, ints1, isiW, isTy, lcW, topf, kOf, als, alss, flD, flDs, flK, disj, elK, lstW, intW, eqW, encK, encK1, encK2]
      refine ⟨_, at_int (by omega) (by omega), ?_⟩
      simp [wpB', wpS, wpO, wpE, wpEs, wpB, binW, addW, subW, mulW, fdivW, modW, powW, cmpW, iiW, idxW, slcW, revW, negW, biW, itW, bindT, bindTs, wipeE, bW, ifW, ints1, isiW, isTy, lcW, topf, kOf, als, alss, flD, flDs, flK, disj, elK, lstW, intW, eqW]
      refine ⟨_, at_int (by omega) (by omega), ?_⟩
      have h2 : ¬ c.getD (a + k.w).toNat 0 - c.getD a 0 < k.g := by have := hk a (by omega) (by omega) hg; omega
      simp [wpB', wpS, wpO, wpE, wpEs, wpB, binW, addW, subW, mulW, fdivW, modW, powW, cmpW, iiW, idxW, slcW, revW, negW, biW, itW, bindT, bindTs, wipeE, bW, ifW, ints1, isiW, isTy, lcW, topf, kOf, als, alss, flD, flDs, flK, disj, elK, lstW, intW, eqW, encK, encK1, encK2]
      simp at h2
      first
      | (rw [if_neg (by omega)]; simpa [encK] using ih)
      | exact ⟨by omega, by simpa [encK] using ih⟩
      | (simp [h2]; simpa [encK] using ih)
    · have hg' : goodF s k a = false := by simpa using hg
      rw [hg']
      simp [wpB', wpS, wpO, wpE, wpEs, wpB, binW, addW, subW, mulW, fdivW, modW, powW, cmpW, iiW, idxW, slcW, revW, negW, biW, itW, bindT, bindTs, wipeE, bW, ifW, ints1, isiW, isTy, lcW, topf, kOf, als, alss, flD, flDs, flK, disj, elK, lstW, intW, eqW]
      exact ih
theorem sh_l3 (hG : S.T "_law_good" = some spGood) {t0 c0 : Option (Kd × D)} {l s c : List Int} (hc : c.length = s.length) (hl : l.length ≤ 1000000) : ∀ (ks : List Kn) (x3 x y : Option (Kd × D)) (Dd : Ed), tabOk ks → (∀ k ∈ ks, ∀ i : Nat, i < l.length → goodF s k i = true → k.g ≤ c.getD (i + k.w).toNat 0 - c.getD i 0) → (∀ x y, Dd.nx [some (.sh, .lst (l.map .int)), t0, c0, x3, some (.ls .sh, .lst (s.map .int)), some (.ls .sh, .lst (c.map .int)), x, y]) →
    forW (fun D' ρ' => wpB' S b__law_shown_3 D' ρ') (.nm 6) (ks.map encK) Dd [some (.sh, .lst (l.map .int)), t0, c0, x3, some (.ls .sh, .lst (s.map .int)), some (.ls .sh, .lst (c.map .int)), x, y]
  | [], x3, x, y, Dd, _, _, h => by simpa [forW] using h x y
  | k :: ks, x3, x, y, Dd, hk, hg, h => by
    simp only [List.map_cons, forW, bindT, List.set_cons_succ, List.set_cons_zero]
    refine unf (by delta b__law_shown_3; rfl) ?_
    simp [wpB', wpS, wpO, wpE, wpEs, wpB, binW, addW, subW, mulW, fdivW, modW, powW, cmpW, iiW, idxW, slcW, revW, negW, biW, itW, bindT, bindTs, wipeE, bW, ifW, ints1, isiW, isTy, lcW, topf, kOf, als, alss, flD, flDs, flK, disj, elK, lstW, intW, eqW]
    refine ⟨by omega, ?_⟩
    rw [List.range_eq_range']
    refine sh_l2 hG (hk k (by simp)) hc _ 0 _ _ (fun i _ h2 => hg k (by simp) i (by omega)) fun y => ?_
    exact sh_l3 hG hc hl ks x3 _ y Dd (fun z hz => hk z (by simp [hz])) (fun z hz => hg z (by simp [hz])) h
theorem shaped_int {i : Int} : SeqAt.shaped (toP (.int i)) = true := rfl
theorem eqB_int {i j : Int} : eqB (.int i) (.int j) = (i == j) := rfl
theorem w_shown (hG : S.T "_law_good" = some spGood) (hS : S.T "_law_sums" = some spSums) : ∀ ds o, spShown ds o → wpD S s__law_shown N__law_shown ds o := by
  rintro _ _ ⟨l, t, c, rfl, hl, ht, hs, rfl⟩
  refine unfD (by delta s__law_shown; rfl) ?_
  have e : ((c.length : Int) == l.length) = true := by simp [hs.1]
  simp [wpB', wpS, wpO, wpE, wpEs, wpB, binW, addW, subW, mulW, fdivW, modW, powW, cmpW, iiW, idxW, slcW, revW, negW, biW, itW, bindT, bindTs, wipeE, bW, ifW, ints1, isiW, isTy, lcW, topf, kOf, als, alss, flD, flDs, flK, disj, elK, lstW, intW, eqW, edOf, startE, hS, shaped_int, eqB_int, hs.1]
  refine sh_l1 c none _ hs.2.1 fun x => ?_
  simp [wpB', wpS, wpO, wpE, wpEs, wpB, binW, addW, subW, mulW, fdivW, modW, powW, cmpW, iiW, idxW, slcW, revW, negW, biW, itW, bindT, bindTs, wipeE, bW, ifW, ints1, isiW, isTy, lcW, topf, kOf, als, alss, flD, flDs, flK, disj, elK, lstW, intW, eqW, hS]
  refine ⟨_, ⟨l, rfl, hl, rfl⟩, ?_⟩
  simp [wpB', wpS, wpO, wpE, wpEs, wpB, binW, addW, subW, mulW, fdivW, modW, powW, cmpW, iiW, idxW, slcW, revW, negW, biW, itW, bindT, bindTs, wipeE, bW, ifW, ints1, isiW, isTy, lcW, topf, kOf, als, alss, flD, flDs, flK, disj, elK, lstW, intW, eqW, hS]
  refine ⟨_, ⟨c, rfl, by rw [hs.1]; exact hl, rfl⟩, ?_⟩
  simp [wpB', wpS, wpO, wpE, wpEs, wpB, binW, addW, subW, mulW, fdivW, modW, powW, cmpW, iiW, idxW, slcW, revW, negW, biW, itW, bindT, bindTs, wipeE, bW, ifW, ints1, isiW, isTy, lcW, topf, kOf, als, alss, flD, flDs, flK, disj, elK, lstW, intW, eqW, hS]
  refine sh_l3 hG (by rw [sumF_len, sumF_len, hs.1]) hl t x none none _ ht hs.2.2 fun x y => ?_
  have e : atI ((sumF c).map D.int) (-1) = some (.int ((sumF c).getD l.length 0)) := by
    have h0 := sumF_len (l := c)
    obtain ⟨q, a, h⟩ : ∃ q a, sumF c = q ++ [a] := ⟨(sumF c).dropLast, (sumF c).getLast (by intro h; simp [h] at h0), (List.dropLast_concat_getLast _).symm⟩
    rw [h] at h0
    have h1 : q.length = l.length := by rw [← hs.1]; simpa using h0
    rw [h, List.map_append, ← h1]
    refine at_last.trans ?_
    simp
  simp [wpB', wpS, wpO, wpE, wpEs, wpB, binW, addW, subW, mulW, fdivW, modW, powW, cmpW, iiW, idxW, slcW, revW, negW, biW, itW, bindT, bindTs, wipeE, bW, ifW, ints1, isiW, isTy, lcW, topf, kOf, als, alss, flD, flDs, flK, disj, elK, lstW, intW, eqW, e]
def spWhole : Spec1 := fun ds o => ∃ i : Int, ds = [.int i] ∧ o = .ret .sh (.bl true)
theorem w_whole : ∀ ds o, spWhole ds o → wpD S s__law_is_whole N__law_is_whole ds o := by
  rintro _ _ ⟨i, rfl, rfl⟩
  refine unfD (by delta s__law_is_whole; rfl) ?_
  simp [wpB', wpS, wpO, wpE, wpEs, wpB, binW, addW, subW, mulW, fdivW, modW, powW, cmpW, iiW, idxW, slcW, revW, negW, biW, itW, bindT, bindTs, wipeE, bW, ifW, ints1, isiW, isTy, lcW, topf, kOf, als, alss, flD, flDs, flK, disj, elK, lstW, intW, eqW, edOf, startE]
def spRight : Spec1 := fun ds o => ∃ (l : List Int) (t : List Kn), ds = [.lst ((prF l t).map .int), .lst (l.map .int), .lst (t.map encK)] ∧ l.length ≤ 1000000 ∧ tabOk t ∧ o = .ret .sh (.bl true)
theorem right_l (hW : S.T "_law_is_whole" = some spWhole) {a b c : Option (Kd × D)} : ∀ (l : List Int) (x : Option (Kd × D)) (Dd : Ed), (∀ x, Dd.nx [a, b, c, x]) →
    forW (fun D' ρ' => wpB' S b__law_right_1 D' ρ') (.nm 3) (l.map .int) Dd [a, b, c, x]
  | [], x, Dd, h => by simpa [forW] using h x
  | y :: l, x, Dd, h => by
    have ih := right_l hW l (some (.sh, .int y)) Dd h
    simp only [List.map_cons, forW, bindT, List.set_cons_succ, List.set_cons_zero]
    refine unf (by delta b__law_right_1; rfl) ?_
    simp [wpB', wpS, wpO, wpE, wpEs, wpB, binW, addW, subW, mulW, fdivW, modW, powW, cmpW, iiW, idxW, slcW, revW, negW, biW, itW, bindT, bindTs, wipeE, bW, ifW, ints1, isiW, isTy, lcW, topf, kOf, als, alss, flD, flDs, flK, disj, elK, lstW, intW, eqW, hW]
    refine ⟨_, ⟨y, rfl, rfl⟩, ?_⟩
    simp [wpB', wpS, wpO, wpE, wpEs, wpB, binW, addW, subW, mulW, fdivW, modW, powW, cmpW, iiW, idxW, slcW, revW, negW, biW, itW, bindT, bindTs, wipeE, bW, ifW, ints1, isiW, isTy, lcW, topf, kOf, als, alss, flD, flDs, flK, disj, elK, lstW, intW, eqW]
    exact ih
theorem w_right (hW : S.T "_law_is_whole" = some spWhole) (hS : S.T "_law_shown" = some spShown) (hH : S.T "_law_heights" = some spHt) : ∀ ds o, spRight ds o → wpD S s__law_right N__law_right ds o := by
  rintro _ _ ⟨l, t, rfl, hl, ht, rfl⟩
  refine unfD (by delta s__law_right; rfl) ?_
  simp [wpB', wpS, wpO, wpE, wpEs, wpB, binW, addW, subW, mulW, fdivW, modW, powW, cmpW, iiW, idxW, slcW, revW, negW, biW, itW, bindT, bindTs, wipeE, bW, ifW, ints1, isiW, isTy, lcW, topf, kOf, als, alss, flD, flDs, flK, disj, elK, lstW, intW, eqW, edOf, startE]
  refine right_l hW _ _ _ fun x => ?_
  simp [wpB', wpS, wpO, wpE, wpEs, wpB, binW, addW, subW, mulW, fdivW, modW, powW, cmpW, iiW, idxW, slcW, revW, negW, biW, itW, bindT, bindTs, wipeE, bW, ifW, ints1, isiW, isTy, lcW, topf, kOf, als, alss, flD, flDs, flK, disj, elK, lstW, intW, eqW, hS, hH]
  refine ⟨_, ⟨l, t, _, rfl, hl, ht, prF_ok ht, rfl⟩, ?_⟩
  simp [wpB', wpS, wpO, wpE, wpEs, wpB, binW, addW, subW, mulW, fdivW, modW, powW, cmpW, iiW, idxW, slcW, revW, negW, biW, itW, bindT, bindTs, wipeE, bW, ifW, ints1, isiW, isTy, lcW, topf, kOf, als, alss, flD, flDs, flK, disj, elK, lstW, intW, eqW]
  refine ⟨_, ⟨l, t, rfl, hl, ht, rfl⟩, ?_⟩
  have e : atI ((htF l t).map D.int) (-1) = some (.int ((htF l t).getD l.length 0)) := by
    have h0 := htF_len (l := l) (t := t)
    obtain ⟨q, a, h⟩ : ∃ q a, htF l t = q ++ [a] := ⟨(htF l t).dropLast, (htF l t).getLast (by intro h; simp [h] at h0), (List.dropLast_concat_getLast _).symm⟩
    rw [h] at h0
    have h1 : q.length = l.length := by simpa using h0
    rw [h, List.map_append, ← h1]
    refine at_last.trans ?_
    simp
  simp [wpB', wpS, wpO, wpE, wpEs, wpB, binW, addW, subW, mulW, fdivW, modW, powW, cmpW, iiW, idxW, slcW, revW, negW, biW, itW, bindT, bindTs, wipeE, bW, ifW, ints1, isiW, isTy, lcW, topf, kOf, als, alss, flD, flDs, flK, disj, elK, lstW, intW, eqW, e, shaped_int, eqB_int]
  simpa using prF_sum (l := l) (t := t) (Nat.le_refl _)
end
end SV

set_option Elab.async false
set_option linter.all false
set_option maxRecDepth 100000
set_option maxHeartbeats 2000000
namespace SV
open PySem PySem.Spec PyProof.Rows L2
/-! ### what is drawn -/
theorem at_lit {l : List Int} {i : Int} {n : Int} (h : 0 ≤ i ∧ i < n) (hn : (l.length : Int) = n) : atI (l.map D.int) i = some (.int (l.getD i.toNat 0)) := at_int h.1 (by omega)
def flawL : List Int := [1, 1, 7, 100000000000000000]
theorem getD_bd {l : List Int} {lo hi : Int} (h0 : lo ≤ 0 ∧ 0 ≤ hi) (h : ∀ x ∈ l, lo ≤ x ∧ x ≤ hi) (j : Nat) : lo ≤ l.getD j 0 ∧ l.getD j 0 ≤ hi := by
  by_cases hj : j < l.length
  · have e : l.getD j 0 = l[j] := by simp [hj]
    rw [e]
    exact h _ (List.getElem_mem hj)
  · have e : l.getD j 0 = 0 := by simp [List.getElem?_eq_none (by omega : l.length ≤ j)]
    rw [e]; exact h0
def flawF (ns : List Int) (p m : Int) : Int := flawL.getD ((rowF ns p [m + 1, 4]).getD 1 0).toNat 0
theorem flawF_bd {ns : List Int} {p m : Int} : 0 ≤ flawF ns p m ∧ flawF ns p m ≤ 100000000000000000 := getD_bd ⟨by decide, by decide⟩ (by unfold flawL; decide) _
def spFlaw : Spec1 := fun ds o => ∃ ns p m, ds = [.scr ns, .int p, .int m] ∧ 0 ≤ p ∧ 0 ≤ m ∧ m ≤ 10000 ∧ o = .ret .sh (.int (flawF ns p m))
def repI (l : List Int) (n : Nat) : List Int := (List.replicate n l).flatten
theorem rep_map (l : List Int) : ∀ n : Nat, (List.replicate n (l.map D.int)).flatten = (repI l n).map D.int
  | 0 => rfl
  | n + 1 => by
    unfold repI
    rw [List.replicate_succ, List.flatten_cons, List.replicate_succ, List.flatten_cons, List.map_append, rep_map l n]
    rfl
theorem rep_len (l : List Int) (n : Nat) : (repI l n).length = n * l.length := by
  unfold repI
  induction n with
  | zero => simp
  | succ n ih => rw [List.replicate_succ, List.flatten_cons, List.length_append, ih, Nat.succ_mul]; omega
theorem rep_mem {l : List Int} {x : Int} : ∀ {n : Nat}, x ∈ repI l n → x ∈ l := fun h => by
  unfold repI at h
  obtain ⟨a, h1, h2⟩ := List.mem_flatten.mp h
  rw [(List.mem_replicate.mp h1).2] at h2
  exact h2
theorem rep_at (l : List Int) : ∀ (n k j : Nat), k < n → j < l.length → (repI l n).getD (l.length * k + j) 0 = l.getD j 0
  | 0, k, j, h, _ => by omega
  | n + 1, 0, j, _, hj => by
    unfold repI
    rw [List.replicate_succ, List.flatten_cons]
    simp [List.getD, List.getElem?_append_left hj]
  | n + 1, k + 1, j, h, hj => by
    have := rep_at l n k j (by omega) hj
    unfold repI at this ⊢
    rw [List.replicate_succ, List.flatten_cons]
    rw [List.getD, List.getElem?_append_right (by rw [Nat.mul_succ]; omega)]
    rw [show l.length * (k + 1) + j - l.length = l.length * k + j by rw [Nat.mul_succ]; omega]
    exact this
def tabS (m : Nat) : List Int := [(m : Int) + 1, 4, 4, 4, 16, 4] ++ repI [11, 40, 6] m
theorem tabS_ok {m : Nat} (h : m ≤ 10000) : szOk (tabS m) ∧ (tabS m).length = 6 + 3 * m := by
  refine ⟨fun x hx => ?_, by simp [tabS, rep_len]; omega⟩
  unfold tabS at hx
  rcases List.mem_append.mp hx with h1 | h1
  · simp at h1
    omega
  · have := rep_mem h1
    simp at this
    omega
def rollS (m : Nat) : List Int := [(m : Int) + 1, 4, 3] ++ repI [8, 5] m
theorem rollS_ok {m : Nat} (h : m ≤ 10000) : szOk (rollS m) ∧ (rollS m).length = 3 + 2 * m := by
  refine ⟨fun x hx => ?_, by simp [rollS, rep_len]; omega⟩
  unfold rollS at hx
  rcases List.mem_append.mp hx with h1 | h1
  · simp at h1
    omega
  · have := rep_mem h1
    simp at this
    omega
section
variable {S : Sg}
theorem w_flaw (hR : S.T "_law_row" = some spRow) : ∀ ds o, spFlaw ds o → wpD S s__law_flaw N__law_flaw ds o := by
  rintro _ _ ⟨ns, p, m, rfl, hp, h0, h1, rfl⟩
  refine unfD (by delta s__law_flaw; rfl) ?_
  have hs : szOk [m + 1, 4] := by
    intro x hx
    simp at hx
    omega
  simp [wpB', wpS, wpO, wpE, wpEs, wpB, binW, addW, subW, mulW, fdivW, modW, powW, cmpW, iiW, idxW, slcW, revW, negW, biW, itW, bindT, bindTs, wipeE, bW, ifW, ints1, isiW, isTy, lcW, topf, kOf, als, alss, flD, flDs, flK, disj, elK, lstW, intW, eqW, edOf, startE, hR]
  refine ⟨⟨by decide, by decide, by decide⟩, by decide, by decide, _, ⟨ns, p, [m + 1, 4], rfl, hp, hs, by simp, rfl⟩, ?_⟩
  simp [wpB', wpS, wpO, wpE, wpEs, wpB, binW, addW, subW, mulW, fdivW, modW, powW, cmpW, iiW, idxW, slcW, revW, negW, biW, itW, bindT, bindTs, wipeE, bW, ifW, ints1, isiW, isTy, lcW, topf, kOf, als, alss, flD, flDs, flK, disj, elK, lstW, intW, eqW]
  have h2 := rowF_lt (ns := ns) (p := p) (j := 1) hs (by simp)
  refine ⟨_, at_int (by decide) (by rw [rowF_len]; simp), ?_⟩
  simp at h2
  simp [wpB', wpS, wpO, wpE, wpEs, wpB, binW, addW, subW, mulW, fdivW, modW, powW, cmpW, iiW, idxW, slcW, revW, negW, biW, itW, bindT, bindTs, wipeE, bW, ifW, ints1, isiW, isTy, lcW, topf, kOf, als, alss, flD, flDs, flK, disj, elK, lstW, intW, eqW]
  refine ⟨_, at_lit (l := flawL) (n := 4) (by simpa using h2) rfl, ?_⟩
  simp [wpB', wpS, wpO, wpE, wpEs, wpB, binW, addW, subW, mulW, fdivW, modW, powW, cmpW, iiW, idxW, slcW, revW, negW, biW, itW, bindT, bindTs, wipeE, bW, ifW, ints1, isiW, isTy, lcW, topf, kOf, als, alss, flD, flDs, flK, disj, elK, lstW, intW, eqW]
  unfold flawF
  simp
/-! the roll -/
def wtF (r : List Int) (flaw great : Int) (k : Nat) : Int := if r.getD (2 * k + 3) 0 < ([0, 1, 3, 6] : List Int).getD (r.getD 1 0).toNat 0 then ([flaw, flaw, 2 * flaw, 3 * flaw, great] : List Int).getD (r.getD (2 * k + 4) 0).toNat 0 else 0
def greatF (r : List Int) (flaw : Int) : Int := if r.getD 2 0 = 0 then 1000000000000000000 else 9 * flaw
def rollF (ns : List Int) (p : Int) (m : Nat) (flaw : Int) : List Int := (List.range ((rowF ns p (rollS m)).getD 0 0).toNat).map (wtF (rowF ns p (rollS m)) flaw (greatF (rowF ns p (rollS m)) flaw))
theorem rollF_len {ns : List Int} {p : Int} {m : Nat} {flaw : Int} (hm : m ≤ 10000) : (rollF ns p m flaw).length ≤ m := by
  have h := rowF_lt (ns := ns) (p := p) (j := 0) (tabS_ok hm).1 (by rw [(tabS_ok hm).2]; omega)
  have h := rowF_lt (ns := ns) (p := p) (j := 0) (rollS_ok hm).1 (by rw [(rollS_ok hm).2]; omega)
  have e : (rollS m).getD 0 0 = (m : Int) + 1 := rfl
  unfold rollF
  simp only [List.length_map, List.length_range]
  omega
def spRoll : Spec1 := fun ds o => ∃ ns p m flaw, ds = [.scr ns, .int p, .int (m : Nat), .int flaw] ∧ 0 ≤ p ∧ m ≤ 10000 ∧ 0 ≤ flaw ∧ flaw ≤ 100000000000000000 ∧ o = .ret (.ls .sh) (.lst ((rollF ns p m flaw).map .int))
theorem roll_loop {a b c : Option (Kd × D)} {r : List Int} {flaw great : Int} {m : Nat} (hm : m ≤ 10000) (hr : r.length = 3 + 2 * m) (hb : ∀ j, j < r.length → 0 ≤ r.getD j 0 ∧ r.getD j 0 < (rollS m).getD j 0) (hf : 0 ≤ flaw ∧ flaw ≤ 100000000000000000) : ∀ (n k : Nat) (acc : List Int) (x y z : Option (Kd × D)) (Dd : Ed), k + n ≤ m → acc.length = k → (∀ x y z, Dd.nx [a, b, c, some (.sh, .int flaw), some (.ls .sh, .lst (r.map .int)), some (.sh, .int great), some (.ls .sh, .lst ((acc ++ (List.range' k n).map (wtF r flaw great)).map .int)), x, y, z]) →
    forW (fun D' ρ' => wpB' S b__law_roll_1 D' ρ') (.nm 7) ((List.range' k n).map fun i : Nat => D.int i) Dd [a, b, c, some (.sh, .int flaw), some (.ls .sh, .lst (r.map .int)), some (.sh, .int great), some (.ls .sh, .lst (acc.map .int)), x, y, z]
  | 0, k, acc, x, y, z, Dd, _, _, h => by simpa [forW] using h x y z
  | n + 1, k, acc, x, y, z, Dd, hk, ha, h => by
    have hz : acc.length < sizeLine := by
      have : sizeLine = 16777216 := rfl
      omega
    have ih : forW (fun D' ρ' => wpB' S b__law_roll_1 D' ρ') (.nm 7) ((List.range' (k + 1) n).map fun i : Nat => D.int i) Dd [a, b, c, some (.sh, .int flaw), some (.ls .sh, .lst (r.map .int)), some (.sh, .int great), some (.ls .sh, .lst (acc.map .int ++ [.int (wtF r flaw great k)])), some (.sh, .int k), some (.sh, .int (2 * k + 3)), some (.sh, .int (wtF r flaw great k))] := by
      have q := roll_loop (a := a) (b := b) (c := c) (great := great) hm hr hb hf n (k + 1) (acc ++ [wtF r flaw great k]) (some (.sh, .int k)) (some (.sh, .int (2 * k + 3))) (some (.sh, .int (wtF r flaw great k))) Dd (by omega) (by simp [ha]) (fun x y z => by simpa [List.range'_succ] using h x y z)
      simpa using q
    have b1 := hb 1 (by omega)
    have b2 := hb (2 * k + 3) (by omega)
    have b3 := hb (2 * k + 4) (by omega)
    have r1 : (rollS m).getD 1 0 = 4 := rfl
    have r3 : (rollS m).getD (2 * k + 4) 0 = 5 := by
      have e : (rollS m).getD (2 * k + 4) 0 = (repI [8, 5] m).getD (2 * k + 1) 0 := by
        unfold rollS
        rw [List.getD, List.getElem?_append_right (by simp)]
        rfl
      rw [e]
      exact rep_at [8, 5] m k 1 (by omega) (by decide)
    simp only [List.range'_succ, List.map_cons, forW, bindT, List.set_cons_succ, List.set_cons_zero]
    refine unf (by delta b__law_roll_1; rfl) ?_
    have i1 : (2 * (k : Int) + 3).toNat = 2 * k + 3 := by omega
    have i2 : (2 * (k : Int) + 3 + 1).toNat = 2 * k + 4 := by omega
    have z1 : acc.length < 16777216 := by omega
    try simp [wpB', wpS, wpO, wpE, wpEs, wpB, binW, addW, subW, mulW, fdivW, modW, powW, cmpW, iiW, idxW, slcW, revW, negW, biW, itW, bindT, bindTs, wipeE, bW, ifW, ints1, isiW, isTy, lcW, topf, kOf, als, alss, flD, flDs, flK, disj, elK, lstW, intW, eqW, -List.getD_eq_getElem?_getD, CMul, CPow, sizeLine_eq]
    refine ⟨_, at_int (by omega) (by omega), ?_⟩
    try simp [wpB', wpS, wpO, wpE, wpEs, wpB, binW, addW, subW, mulW, fdivW, modW, powW, cmpW, iiW, idxW, slcW, revW, negW, biW, itW, bindT, bindTs, wipeE, bW, ifW, ints1, isiW, isTy, lcW, topf, kOf, als, alss, flD, flDs, flK, disj, elK, lstW, intW, eqW, -List.getD_eq_getElem?_getD, CMul, CPow, sizeLine_eq]
    refine ⟨_, at_int (by decide) (by omega), ?_⟩
    try simp [wpB', wpS, wpO, wpE, wpEs, wpB, binW, addW, subW, mulW, fdivW, modW, powW, cmpW, iiW, idxW, slcW, revW, negW, biW, itW, bindT, bindTs, wipeE, bW, ifW, ints1, isiW, isTy, lcW, topf, kOf, als, alss, flD, flDs, flK, disj, elK, lstW, intW, eqW, -List.getD_eq_getElem?_getD, CMul, CPow, sizeLine_eq]
    refine ⟨_, at_lit (l := [0, 1, 3, 6]) (n := 4) (by rw [r1] at b1; exact b1) rfl, ?_⟩
    try simp [wpB', wpS, wpO, wpE, wpEs, wpB, binW, addW, subW, mulW, fdivW, modW, powW, cmpW, iiW, idxW, slcW, revW, negW, biW, itW, bindT, bindTs, wipeE, bW, ifW, ints1, isiW, isTy, lcW, topf, kOf, als, alss, flD, flDs, flK, disj, elK, lstW, intW, eqW, -List.getD_eq_getElem?_getD, CMul, CPow, sizeLine_eq, i1, z1]
    by_cases hc : r.getD (2 * k + 3) 0 < ([0, 1, 3, 6] : List Int).getD (r.getD 1 0).toNat 0
    · try simp [wpB', wpS, wpO, wpE, wpEs, wpB, binW, addW, subW, mulW, fdivW, modW, powW, cmpW, iiW, idxW, slcW, revW, negW, biW, itW, bindT, bindTs, wipeE, bW, ifW, ints1, isiW, isTy, lcW, topf, kOf, als, alss, flD, flDs, flK, disj, elK, lstW, intW, eqW, -List.getD_eq_getElem?_getD, CMul, CPow, sizeLine_eq, hc, z1]
      refine ⟨_, at_int (by omega) (by omega), ?_⟩
      try simp [wpB', wpS, wpO, wpE, wpEs, wpB, binW, addW, subW, mulW, fdivW, modW, powW, cmpW, iiW, idxW, slcW, revW, negW, biW, itW, bindT, bindTs, wipeE, bW, ifW, ints1, isiW, isTy, lcW, topf, kOf, als, alss, flD, flDs, flK, disj, elK, lstW, intW, eqW, -List.getD_eq_getElem?_getD, CMul, CPow, sizeLine_eq]
      refine ⟨_, at_lit (l := [flaw, flaw, 2 * flaw, 3 * flaw, great]) (n := 5) (by rw [i2, ← r3]; exact b3) rfl, ?_⟩
      try simp [wpB', wpS, wpO, wpE, wpEs, wpB, binW, addW, subW, mulW, fdivW, modW, powW, cmpW, iiW, idxW, slcW, revW, negW, biW, itW, bindT, bindTs, wipeE, bW, ifW, ints1, isiW, isTy, lcW, topf, kOf, als, alss, flD, flDs, flK, disj, elK, lstW, intW, eqW, -List.getD_eq_getElem?_getD, CMul, CPow, sizeLine_eq, z1]
      rw [i2]
      simpa [wtF, hc, -List.getD_eq_getElem?_getD] using ih
    · try simp [wpB', wpS, wpO, wpE, wpEs, wpB, binW, addW, subW, mulW, fdivW, modW, powW, cmpW, iiW, idxW, slcW, revW, negW, biW, itW, bindT, bindTs, wipeE, bW, ifW, ints1, isiW, isTy, lcW, topf, kOf, als, alss, flD, flDs, flK, disj, elK, lstW, intW, eqW, -List.getD_eq_getElem?_getD, CMul, CPow, sizeLine_eq, hc, z1]
      simpa [wtF, hc, -List.getD_eq_getElem?_getD] using ih
theorem w_roll (hR : S.T "_law_row" = some spRow) : ∀ ds o, spRoll ds o → wpD S s__law_roll N__law_roll ds o := by
  rintro _ _ ⟨ns, p, m, flaw, rfl, hp, hm, h0, h1, rfl⟩
  refine unfD (by delta s__law_roll; rfl) ?_
  obtain ⟨hs, hl⟩ := rollS_ok hm
  have hr : (rowF ns p (rollS m)).length = 3 + 2 * m := by rw [rowF_len, hl]
  have hb : ∀ j, j < (rowF ns p (rollS m)).length → 0 ≤ (rowF ns p (rollS m)).getD j 0 ∧ (rowF ns p (rollS m)).getD j 0 < (rollS m).getD j 0 := fun j hj => rowF_lt hs (by rw [rowF_len] at hj; exact hj)
  have em : ([D.int ((m : Int) + 1), .int 4, .int 3] ++ (List.replicate m [D.int 8, D.int 5]).flatten) = (rollS m).map D.int := by
    rw [rollS, List.map_append, ← rep_map]
    rfl
  have em2 : (D.int ((m : Int) + 1) :: D.int 4 :: D.int 3 :: (List.replicate m [D.int 8, D.int 5]).flatten) = (rollS m).map D.int := em
  have lz : ((List.replicate m [D.int 8, D.int 5]).flatten).length = m * 2 := by
    have := rep_map [8, 5] m
    have e2 : (List.replicate m [D.int 8, D.int 5]).flatten = (repI [8, 5] m).map D.int := this
    rw [e2, List.length_map, rep_len]
    rfl
  have b0 := hb 0 (by omega)
  have b2 := hb 2 (by omega)
  have r0 : (rollS m).getD 0 0 = (m : Int) + 1 := rfl
  unfold startE
  refine stp ?_; try simp [wpS, wpO, wpE, wpEs, wpB, binW, addW, subW, mulW, fdivW, modW, powW, cmpW, iiW, idxW, slcW, revW, negW, biW, itW, bindT, bindTs, wipeE, bW, ifW, ints1, isiW, isTy, lcW, topf, kOf, als, alss, flD, flDs, flK, disj, elK, lstW, intW, eqW, fzE, mvE, wpBnil, CMul, CPow, sizeLine_eq, -List.getD_eq_getElem?_getD, hR]
  refine ⟨by omega, by omega, by omega, _, ⟨ns, p, rollS m, by rw [em2], hp, hs, by omega, rfl⟩, ?_⟩
  try simp [wpS, wpO, wpE, wpEs, wpB, binW, addW, subW, mulW, fdivW, modW, powW, cmpW, iiW, idxW, slcW, revW, negW, biW, itW, bindT, bindTs, wipeE, bW, ifW, ints1, isiW, isTy, lcW, topf, kOf, als, alss, flD, flDs, flK, disj, elK, lstW, intW, eqW, fzE, mvE, wpBnil, CMul, CPow, sizeLine_eq, -List.getD_eq_getElem?_getD]
  refine stp ?_; try simp [wpS, wpO, wpE, wpEs, wpB, binW, addW, subW, mulW, fdivW, modW, powW, cmpW, iiW, idxW, slcW, revW, negW, biW, itW, bindT, bindTs, wipeE, bW, ifW, ints1, isiW, isTy, lcW, topf, kOf, als, alss, flD, flDs, flK, disj, elK, lstW, intW, eqW, fzE, mvE, wpBnil, CMul, CPow, sizeLine_eq, -List.getD_eq_getElem?_getD]
  refine stp ?_; try simp [wpS, wpO, wpE, wpEs, wpB, binW, addW, subW, mulW, fdivW, modW, powW, cmpW, iiW, idxW, slcW, revW, negW, biW, itW, bindT, bindTs, wipeE, bW, ifW, ints1, isiW, isTy, lcW, topf, kOf, als, alss, flD, flDs, flK, disj, elK, lstW, intW, eqW, fzE, mvE, wpBnil, CMul, CPow, sizeLine_eq, -List.getD_eq_getElem?_getD, shaped_int, eqB_int]
  refine ⟨_, at_int (by decide) (by omega), ?_⟩
  try simp [wpS, wpO, wpE, wpEs, wpB, binW, addW, subW, mulW, fdivW, modW, powW, cmpW, iiW, idxW, slcW, revW, negW, biW, itW, bindT, bindTs, wipeE, bW, ifW, ints1, isiW, isTy, lcW, topf, kOf, als, alss, flD, flDs, flK, disj, elK, lstW, intW, eqW, fzE, mvE, wpBnil, CMul, CPow, sizeLine_eq, -List.getD_eq_getElem?_getD, shaped_int, eqB_int]
  have fin : ∀ (great : Int), great = greatF (rowF ns p (rollS m)) flaw → wpB' S [.asg 6 (.e (.lst [])), .for_ (.nm 7) .rng [.idx (.var 4) (.int 0)] b__law_roll_1, .ret (.mv 6)] (edOf (.ret (.ls .sh) (.lst ((rollF ns p m flaw).map .int)))) [some (.sh, .scr ns), some (.sh, .int p), some (.sh, .int m), some (.sh, .int flaw), some (.ls .sh, .lst ((rowF ns p (rollS m)).map .int)), some (.sh, .int great), none, none, none, none] := fun great hg => by
    refine stp ?_; try simp [wpS, wpO, wpE, wpEs, wpB, binW, addW, subW, mulW, fdivW, modW, powW, cmpW, iiW, idxW, slcW, revW, negW, biW, itW, bindT, bindTs, wipeE, bW, ifW, ints1, isiW, isTy, lcW, topf, kOf, als, alss, flD, flDs, flK, disj, elK, lstW, intW, eqW, fzE, mvE, wpBnil, CMul, CPow, sizeLine_eq, -List.getD_eq_getElem?_getD]
    refine stp ?_; try simp [wpS, wpO, wpE, wpEs, wpB, binW, addW, subW, mulW, fdivW, modW, powW, cmpW, iiW, idxW, slcW, revW, negW, biW, itW, bindT, bindTs, wipeE, bW, ifW, ints1, isiW, isTy, lcW, topf, kOf, als, alss, flD, flDs, flK, disj, elK, lstW, intW, eqW, fzE, mvE, wpBnil, CMul, CPow, sizeLine_eq, -List.getD_eq_getElem?_getD]
    refine ⟨_, at_int (by decide) (by omega), ?_⟩
    try simp [wpS, wpO, wpE, wpEs, wpB, binW, addW, subW, mulW, fdivW, modW, powW, cmpW, iiW, idxW, slcW, revW, negW, biW, itW, bindT, bindTs, wipeE, bW, ifW, ints1, isiW, isTy, lcW, topf, kOf, als, alss, flD, flDs, flK, disj, elK, lstW, intW, eqW, fzE, mvE, wpBnil, CMul, CPow, sizeLine_eq, -List.getD_eq_getElem?_getD]
    refine ⟨by omega, by omega, ?_⟩
    rw [List.range_eq_range']
    refine roll_loop hm hr hb ⟨h0, h1⟩ _ 0 [] none none none _ (by omega) rfl fun x y z => ?_
    refine stp ?_; try simp [wpS, wpO, wpE, wpEs, wpB, binW, addW, subW, mulW, fdivW, modW, powW, cmpW, iiW, idxW, slcW, revW, negW, biW, itW, bindT, bindTs, wipeE, bW, ifW, ints1, isiW, isTy, lcW, topf, kOf, als, alss, flD, flDs, flK, disj, elK, lstW, intW, eqW, fzE, mvE, wpBnil, CMul, CPow, sizeLine_eq, -List.getD_eq_getElem?_getD, edOf]
    rw [rollF, ← hg, List.range_eq_range']
    simp
  by_cases hz : (rowF ns p (rollS m)).getD 2 0 = 0
  · simp only [hz, if_true, if_false]
    refine stp ?_; try simp [wpS, wpO, wpE, wpEs, wpB, binW, addW, subW, mulW, fdivW, modW, powW, cmpW, iiW, idxW, slcW, revW, negW, biW, itW, bindT, bindTs, wipeE, bW, ifW, ints1, isiW, isTy, lcW, topf, kOf, als, alss, flD, flDs, flK, disj, elK, lstW, intW, eqW, fzE, mvE, wpBnil, CMul, CPow, sizeLine_eq, -List.getD_eq_getElem?_getD]
    exact fin _ (by unfold greatF; rw [if_pos hz])
  · simp only [hz, if_true, if_false]
    exact fin _ (by unfold greatF; rw [if_neg hz])
end
end SV

set_option Elab.async false
set_option linter.all false
set_option maxRecDepth 100000
set_option maxHeartbeats 4000000
namespace SV
open PySem PySem.Spec PyProof.Rows L2
/-! ### the table -/
def poolL : List Str := ["a", "ab", "abc", "b", "ba", "z", "zzzzzzzz", "roll", "cut", "by", "aab", "zz", "kind", "qsvw", "fghjmp", "x"]
theorem at_str {l : List Str} {i : Int} (h0 : 0 ≤ i) (h1 : i < l.length) : atI (l.map D.str) i = some (.str (l.getD i.toNat "")) := by
  refine atI_map ?_
  rw [at_nn h0 h1]
  have : i.toNat < l.length := by omega
  simp [this]
def gainL : List Int := [1, 1, 1000000, 25000000000000000]
def widL (k : Nat) : List Int := [1, 2, 3, 4, 5, 6, 2, 3, 11, 40, ([150, 200] : List Int).getD ((k : Int) % 2).toNat 0]
def tabW (r : List Int) (k : Nat) : Int := (widL k).getD (r.getD (3 * k + 6) 0).toNat 0
def tabV (r : List Int) (k : Nat) : Int := if r.getD 3 0 = 3 then tabW r k else if r.getD 3 0 = 2 then 1 + r.getD (3 * k + 7) 0 % 3 else if r.getD 3 0 = 1 then 3 * tabW r k + r.getD (3 * k + 7) 0 % 4 else 1 + r.getD (3 * k + 7) 0
def mn (a b : Int) : Int := if b < a then b else a
def tabE (r : List Int) (flaw gain : Int) (k : Nat) : Kn := ⟨poolL.getD ((r.getD 4 0 + (2 * r.getD 5 0 + 1) * k) % 16).toNat "", tabW r k, mn (tabV r k * gain) 1000000000000000000, mn (([0, 0, 1, 2, 3, 12] : List Int).getD (r.getD (3 * k + 8) 0).toNat 0 * flaw) 999999999999999999⟩
def tabF (ns : List Int) (p : Int) (m : Nat) : List Kn := (List.range ((rowF ns p (tabS m)).getD 0 0).toNat).map (tabE (rowF ns p (tabS m)) (flawL.getD ((rowF ns p (tabS m)).getD 1 0).toNat 0) (gainL.getD ((rowF ns p (tabS m)).getD 2 0).toNat 0))
theorem getD_in {l : List Int} {j : Nat} (h : j < l.length) : l.getD j 0 ∈ l := by
  have e : l.getD j 0 = l[j] := by simp [h]
  rw [e]; exact List.getElem_mem h
theorem widL_in {k : Nat} {j : Nat} (h : j < 11) : 1 ≤ (widL k).getD j 0 ∧ (widL k).getD j 0 ≤ 200 := by
  have h1 := getD_in (l := widL k) (j := j) h
  have h2 : ([150, 200] : List Int).getD ((k : Int) % 2).toNat 0 = 150 ∨ ([150, 200] : List Int).getD ((k : Int) % 2).toNat 0 = 200 := by
    have := getD_in (l := [150, 200]) (j := ((k : Int) % 2).toNat) (by simp; omega)
    simp only [List.mem_cons, List.not_mem_nil, or_false] at this
    exact this
  generalize (widL k).getD j 0 = w at h1 ⊢
  unfold widL at h1
  simp only [List.mem_cons, List.not_mem_nil, or_false] at h1
  omega
theorem tabS_at {m : Nat} {k : Nat} (h : k < m) {j : Nat} (hj : j < 3) : (tabS m).getD (3 * k + (6 + j)) 0 = ([11, 40, 6] : List Int).getD j 0 := by
  unfold tabS
  rw [List.getD, List.getElem?_append_right (by simp; omega)]
  rw [show 3 * k + (6 + j) - [(m : Int) + 1, 4, 4, 4, 16, 4].length = 3 * k + j by simp; omega]
  exact rep_at [11, 40, 6] m k j h hj
theorem tab_ok {ns : List Int} {p : Int} {m : Nat} (hm : m ≤ 10000) : tabOk (tabF ns p m) ∧ (tabF ns p m).length ≤ m := by
  have h := fun (j : Nat) (hj : j < 6 + 3 * m) => rowF_lt (ns := ns) (p := p) (j := j) (tabS_ok hm).1 (by rw [(tabS_ok hm).2]; exact hj)
  have h0 := h 0 (by omega)
  have e0 : (tabS m).getD 0 0 = (m : Int) + 1 := rfl
  refine ⟨fun k hk => ?_, by unfold tabF; simp only [List.length_map, List.length_range]; omega⟩
  unfold tabF at hk
  obtain ⟨i, hi, rfl⟩ := List.mem_map.mp hk
  have hi2 := List.mem_range.mp hi
  have h1 := h (3 * i + (6 + 0)) (by omega)
  rw [tabS_at (by omega) (by decide)] at h1
  refine (widL_in ?_).1
  have e1 : ([11, 40, 6] : List Int).getD 0 0 = 11 := rfl
  simp only [Nat.add_zero] at h1
  omega
def spTab : Spec1 := fun ds o => ∃ ns p m, ds = [.scr ns, .int p, .int (m : Nat)] ∧ 0 ≤ p ∧ m ≤ 10000 ∧ o = .ret (.ls .sh) (.lst ((tabF ns p m).map encK))
section
variable {S : Sg}
theorem tab_loop {a b c : Option (Kd × D)} {r : List Int} {flaw gain : Int} {m : Nat} (hm : m ≤ 10000) (hr : r.length = 6 + 3 * m) (hb : ∀ j, j < r.length → 0 ≤ r.getD j 0 ∧ r.getD j 0 < (tabS m).getD j 0) (hf : 0 ≤ flaw ∧ flaw ≤ 100000000000000000) (hg : 0 ≤ gain ∧ gain ≤ 25000000000000000) : ∀ (n k : Nat) (acc : List Kn) (x1 x2 x3 x4 x5 x6 : Option (Kd × D)) (Dd : Ed), k + n ≤ m → acc.length = k → (∀ x1 x2 x3 x4 x5 x6, Dd.nx [a, b, c, some (.ls .sh, .lst (poolL.map .str)), some (.ls .sh, .lst (r.map .int)), some (.sh, .int flaw), some (.sh, .int gain), some (.ls .sh, .lst ((acc ++ (List.range' k n).map (tabE r flaw gain)).map encK)), x1, x2, x3, x4, x5, x6]) →
    forW (fun D' ρ' => wpB' S b__law_table_1 D' ρ') (.nm 8) ((List.range' k n).map fun i : Nat => D.int i) Dd [a, b, c, some (.ls .sh, .lst (poolL.map .str)), some (.ls .sh, .lst (r.map .int)), some (.sh, .int flaw), some (.sh, .int gain), some (.ls .sh, .lst (acc.map encK)), x1, x2, x3, x4, x5, x6]
  | 0, k, acc, x1, x2, x3, x4, x5, x6, Dd, _, _, h => by simpa [forW] using h x1 x2 x3 x4 x5 x6
  | n + 1, k, acc, x1, x2, x3, x4, x5, x6, Dd, hk, ha, h => by
    have z1 : acc.length < 16777216 := by omega
    have ih : ∀ x1 x2 x3 x4 x5 x6, forW (fun D' ρ' => wpB' S b__law_table_1 D' ρ') (.nm 8) ((List.range' (k + 1) n).map fun i : Nat => D.int i) Dd [a, b, c, some (.ls .sh, .lst (poolL.map .str)), some (.ls .sh, .lst (r.map .int)), some (.sh, .int flaw), some (.sh, .int gain), some (.ls .sh, .lst (acc.map encK ++ [encK (tabE r flaw gain k)])), x1, x2, x3, x4, x5, x6] := fun x1 x2 x3 x4 x5 x6 => by
      have q := tab_loop (a := a) (b := b) (c := c) hm hr hb hf hg n (k + 1) (acc ++ [tabE r flaw gain k]) x1 x2 x3 x4 x5 x6 Dd (by omega) (by simp [ha]) (fun x1 x2 x3 x4 x5 x6 => by simpa [List.range'_succ] using h x1 x2 x3 x4 x5 x6)
      simpa using q
    have b3 := hb 3 (by omega)
    have b4 := hb 4 (by omega)
    have b5 := hb 5 (by omega)
    have c0 := hb (3 * k + (6 + 0)) (by omega)
    have c1 := hb (3 * k + (6 + 1)) (by omega)
    have c2 := hb (3 * k + (6 + 2)) (by omega)
    have r3 : (tabS m).getD 3 0 = 4 := rfl
    have r4 : (tabS m).getD 4 0 = 16 := rfl
    have r5 : (tabS m).getD 5 0 = 4 := rfl
    rw [r3] at b3
    rw [r4] at b4
    rw [r5] at b5
    rw [tabS_at (by omega) (by decide)] at c0 c1 c2
    have e0 : ([11, 40, 6] : List Int).getD 0 0 = 11 := rfl
    have e1 : ([11, 40, 6] : List Int).getD 1 0 = 40 := rfl
    have e2 : ([11, 40, 6] : List Int).getD 2 0 = 6 := rfl
    rw [e0] at c0
    rw [e1] at c1
    rw [e2] at c2
    simp only [Nat.add_zero, Nat.reduceAdd] at c0 c1 c2
    have i0 : (3 * (k : Int) + 6).toNat = 3 * k + 6 := by omega
    have i1 : (3 * (k : Int) + 6 + 1).toNat = 3 * k + 7 := by omega
    have i2 : (3 * (k : Int) + 6 + 2).toNat = 3 * k + 8 := by omega
    have hw := widL_in (k := k) (j := (r.getD (3 * k + 6) 0).toNat) (by omega)
    simp only [List.range'_succ, List.map_cons, forW, bindT, List.set_cons_succ, List.set_cons_zero]
    refine unf (by delta b__law_table_1; rfl) ?_
    refine stp ?_; try simp [wpS, wpO, wpE, wpEs, wpB, binW, addW, subW, mulW, fdivW, modW, powW, cmpW, iiW, idxW, slcW, revW, negW, biW, itW, bindT, bindTs, wipeE, bW, ifW, ints1, isiW, isTy, lcW, topf, kOf, als, alss, flD, flDs, flK, disj, elK, lstW, intW, eqW, fzE, mvE, wpBnil, CMul, CPow, sizeLine_eq, -List.getD_eq_getElem?_getD]
    refine stp ?_; try simp [wpS, wpO, wpE, wpEs, wpB, binW, addW, subW, mulW, fdivW, modW, powW, cmpW, iiW, idxW, slcW, revW, negW, biW, itW, bindT, bindTs, wipeE, bW, ifW, ints1, isiW, isTy, lcW, topf, kOf, als, alss, flD, flDs, flK, disj, elK, lstW, intW, eqW, fzE, mvE, wpBnil, CMul, CPow, sizeLine_eq, -List.getD_eq_getElem?_getD]
    refine ⟨_, at_lit (l := [150, 200]) (n := 2) ⟨by omega, by omega⟩ rfl, ?_⟩
    try simp [wpS, wpO, wpE, wpEs, wpB, binW, addW, subW, mulW, fdivW, modW, powW, cmpW, iiW, idxW, slcW, revW, negW, biW, itW, bindT, bindTs, wipeE, bW, ifW, ints1, isiW, isTy, lcW, topf, kOf, als, alss, flD, flDs, flK, disj, elK, lstW, intW, eqW, fzE, mvE, wpBnil, CMul, CPow, sizeLine_eq, -List.getD_eq_getElem?_getD]
    refine ⟨_, at_int (by omega) (by omega), ?_⟩
    try simp [wpS, wpO, wpE, wpEs, wpB, binW, addW, subW, mulW, fdivW, modW, powW, cmpW, iiW, idxW, slcW, revW, negW, biW, itW, bindT, bindTs, wipeE, bW, ifW, ints1, isiW, isTy, lcW, topf, kOf, als, alss, flD, flDs, flK, disj, elK, lstW, intW, eqW, fzE, mvE, wpBnil, CMul, CPow, sizeLine_eq, -List.getD_eq_getElem?_getD, i0]
    refine ⟨_, at_lit (l := widL k) (n := 11) c0 rfl, ?_⟩
    try simp [wpS, wpO, wpE, wpEs, wpB, binW, addW, subW, mulW, fdivW, modW, powW, cmpW, iiW, idxW, slcW, revW, negW, biW, itW, bindT, bindTs, wipeE, bW, ifW, ints1, isiW, isTy, lcW, topf, kOf, als, alss, flD, flDs, flK, disj, elK, lstW, intW, eqW, fzE, mvE, wpBnil, CMul, CPow, sizeLine_eq, -List.getD_eq_getElem?_getD]
    refine stp ?_; try simp [wpS, wpO, wpE, wpEs, wpB, binW, addW, subW, mulW, fdivW, modW, powW, cmpW, iiW, idxW, slcW, revW, negW, biW, itW, bindT, bindTs, wipeE, bW, ifW, ints1, isiW, isTy, lcW, topf, kOf, als, alss, flD, flDs, flK, disj, elK, lstW, intW, eqW, fzE, mvE, wpBnil, CMul, CPow, sizeLine_eq, -List.getD_eq_getElem?_getD]
    refine ⟨_, at_int (by omega) (by omega), ?_⟩
    try simp [wpS, wpO, wpE, wpEs, wpB, binW, addW, subW, mulW, fdivW, modW, powW, cmpW, iiW, idxW, slcW, revW, negW, biW, itW, bindT, bindTs, wipeE, bW, ifW, ints1, isiW, isTy, lcW, topf, kOf, als, alss, flD, flDs, flK, disj, elK, lstW, intW, eqW, fzE, mvE, wpBnil, CMul, CPow, sizeLine_eq, -List.getD_eq_getElem?_getD, i1]
    have tail : ∀ (D2 : Ed) (v : Int), v = tabV r k → (∀ x1 x2 x3 x4 x5 x6, D2.nx [a, b, c, some (.ls .sh, .lst (poolL.map .str)), some (.ls .sh, .lst (r.map .int)), some (.sh, .int flaw), some (.sh, .int gain), some (.ls .sh, .lst (acc.map encK ++ [encK (tabE r flaw gain k)])), x1, x2, x3, x4, x5, x6]) → wpB' S [.asg 12 (.e (.bi .min2 [.bin .mul (.idx (.lst [.int 0, .int 0, .int 1, .int 2, .int 3, .int 12]) (.idx (.var 4) (.bin .add (.var 9) (.int 2)))) (.var 5), .bin .sub (.bin .pow (.int 10) (.int 18)) (.int 1)])),     .asg 13 (.e (.idx (.var 3) (.bin .mod (.bin .add (.idx (.var 4) (.int 4)) (.bin .mul (.bin .add (.bin .mul (.int 2) (.idx (.var 4) (.int 5))) (.int 1)) (.var 8))) (.int 16)))),     .app 7 (.e (.tup [.var 13, .var 10, .bi .min2 [.bin .mul (.var 11) (.var 6), .bin .pow (.int 10) (.int 18)], .var 12])) false] D2 [a, b, c, some (.ls .sh, .lst (poolL.map .str)), some (.ls .sh, .lst (r.map .int)), some (.sh, .int flaw), some (.sh, .int gain), some (.ls .sh, .lst (acc.map encK)), some (.sh, .int k), some (.sh, .int (3 * k + 6)), some (.sh, .int (tabW r k)), some (.sh, .int v), x5, x6] := fun D2 v hv hD => by
      have hv2 : 0 ≤ v ∧ v ≤ 1000 := by
        have hw2 : 1 ≤ tabW r k ∧ tabW r k ≤ 200 := hw
        rw [hv]
        unfold tabV
        split
        · omega
        · split
          · omega
          · split <;> omega
      refine stp ?_; try simp [wpS, wpO, wpE, wpEs, wpB, binW, addW, subW, mulW, fdivW, modW, powW, cmpW, iiW, idxW, slcW, revW, negW, biW, itW, bindT, bindTs, wipeE, bW, ifW, ints1, isiW, isTy, lcW, topf, kOf, als, alss, flD, flDs, flK, disj, elK, lstW, intW, eqW, fzE, mvE, wpBnil, CMul, CPow, sizeLine_eq, -List.getD_eq_getElem?_getD]
      refine ⟨_, at_int (by omega) (by omega), ?_⟩
      try simp [wpS, wpO, wpE, wpEs, wpB, binW, addW, subW, mulW, fdivW, modW, powW, cmpW, iiW, idxW, slcW, revW, negW, biW, itW, bindT, bindTs, wipeE, bW, ifW, ints1, isiW, isTy, lcW, topf, kOf, als, alss, flD, flDs, flK, disj, elK, lstW, intW, eqW, fzE, mvE, wpBnil, CMul, CPow, sizeLine_eq, -List.getD_eq_getElem?_getD, i2]
      refine ⟨_, at_lit (l := [0, 0, 1, 2, 3, 12]) (n := 6) c2 rfl, ?_⟩
      try simp [wpS, wpO, wpE, wpEs, wpB, binW, addW, subW, mulW, fdivW, modW, powW, cmpW, iiW, idxW, slcW, revW, negW, biW, itW, bindT, bindTs, wipeE, bW, ifW, ints1, isiW, isTy, lcW, topf, kOf, als, alss, flD, flDs, flK, disj, elK, lstW, intW, eqW, fzE, mvE, wpBnil, CMul, CPow, sizeLine_eq, -List.getD_eq_getElem?_getD]
      refine ⟨.inl (.inr (by omega)), ?_⟩
      refine stp ?_; try simp [wpS, wpO, wpE, wpEs, wpB, binW, addW, subW, mulW, fdivW, modW, powW, cmpW, iiW, idxW, slcW, revW, negW, biW, itW, bindT, bindTs, wipeE, bW, ifW, ints1, isiW, isTy, lcW, topf, kOf, als, alss, flD, flDs, flK, disj, elK, lstW, intW, eqW, fzE, mvE, wpBnil, CMul, CPow, sizeLine_eq, -List.getD_eq_getElem?_getD]
      refine ⟨_, at_int (by decide) (by omega), ?_⟩
      try simp [wpS, wpO, wpE, wpEs, wpB, binW, addW, subW, mulW, fdivW, modW, powW, cmpW, iiW, idxW, slcW, revW, negW, biW, itW, bindT, bindTs, wipeE, bW, ifW, ints1, isiW, isTy, lcW, topf, kOf, als, alss, flD, flDs, flK, disj, elK, lstW, intW, eqW, fzE, mvE, wpBnil, CMul, CPow, sizeLine_eq, -List.getD_eq_getElem?_getD]
      refine ⟨_, at_int (by decide) (by omega), ?_⟩
      try simp [wpS, wpO, wpE, wpEs, wpB, binW, addW, subW, mulW, fdivW, modW, powW, cmpW, iiW, idxW, slcW, revW, negW, biW, itW, bindT, bindTs, wipeE, bW, ifW, ints1, isiW, isTy, lcW, topf, kOf, als, alss, flD, flDs, flK, disj, elK, lstW, intW, eqW, fzE, mvE, wpBnil, CMul, CPow, sizeLine_eq, -List.getD_eq_getElem?_getD]
      refine ⟨.inl (.inr (by omega)), _, at_str (by omega) (by show _ < (16 : Int); omega), ?_⟩
      try simp [wpS, wpO, wpE, wpEs, wpB, binW, addW, subW, mulW, fdivW, modW, powW, cmpW, iiW, idxW, slcW, revW, negW, biW, itW, bindT, bindTs, wipeE, bW, ifW, ints1, isiW, isTy, lcW, topf, kOf, als, alss, flD, flDs, flK, disj, elK, lstW, intW, eqW, fzE, mvE, wpBnil, CMul, CPow, sizeLine_eq, -List.getD_eq_getElem?_getD]
      refine stp ?_; try simp [wpS, wpO, wpE, wpEs, wpB, binW, addW, subW, mulW, fdivW, modW, powW, cmpW, iiW, idxW, slcW, revW, negW, biW, itW, bindT, bindTs, wipeE, bW, ifW, ints1, isiW, isTy, lcW, topf, kOf, als, alss, flD, flDs, flK, disj, elK, lstW, intW, eqW, fzE, mvE, wpBnil, CMul, CPow, sizeLine_eq, -List.getD_eq_getElem?_getD, z1]
      refine ⟨.inl (by omega), ?_⟩
      have q := hD (some (.sh, .int k)) (some (.sh, .int (3 * k + 6))) (some (.sh, .int (tabW r k))) (some (.sh, .int v)) (some (.sh, .int (mn (([0, 0, 1, 2, 3, 12] : List Int).getD (r.getD (3 * k + 8) 0).toNat 0 * flaw) 999999999999999999))) (some (.sh, .str (tabE r flaw gain k).nm))
      unfold tabE encK mn at q
      rw [← hv] at q
      exact q
    have at3 : atI (r.map D.int) 3 = some (.int (r.getD 3 0)) := at_int (by decide) (by omega)
    by_cases q1 : r.getD 3 0 = 1
    · rw [q1] at at3
      refine stp ?_; try simp [wpS, wpO, wpE, wpEs, wpB, binW, addW, subW, mulW, fdivW, modW, powW, cmpW, iiW, idxW, slcW, revW, negW, biW, itW, bindT, bindTs, wipeE, bW, ifW, ints1, isiW, isTy, lcW, topf, kOf, als, alss, flD, flDs, flK, disj, elK, lstW, intW, eqW, fzE, mvE, wpBnil, CMul, CPow, sizeLine_eq, -List.getD_eq_getElem?_getD, shaped_int, eqB_int, at3]
      refine stp ?_; try simp [wpS, wpO, wpE, wpEs, wpB, binW, addW, subW, mulW, fdivW, modW, powW, cmpW, iiW, idxW, slcW, revW, negW, biW, itW, bindT, bindTs, wipeE, bW, ifW, ints1, isiW, isTy, lcW, topf, kOf, als, alss, flD, flDs, flK, disj, elK, lstW, intW, eqW, fzE, mvE, wpBnil, CMul, CPow, sizeLine_eq, -List.getD_eq_getElem?_getD]
      refine ⟨_, at_int (by omega) (by omega), ?_⟩
      try simp [wpS, wpO, wpE, wpEs, wpB, binW, addW, subW, mulW, fdivW, modW, powW, cmpW, iiW, idxW, slcW, revW, negW, biW, itW, bindT, bindTs, wipeE, bW, ifW, ints1, isiW, isTy, lcW, topf, kOf, als, alss, flD, flDs, flK, disj, elK, lstW, intW, eqW, fzE, mvE, wpBnil, CMul, CPow, sizeLine_eq, -List.getD_eq_getElem?_getD, i1]
      refine stp ?_; try simp [wpS, wpO, wpE, wpEs, wpB, binW, addW, subW, mulW, fdivW, modW, powW, cmpW, iiW, idxW, slcW, revW, negW, biW, itW, bindT, bindTs, wipeE, bW, ifW, ints1, isiW, isTy, lcW, topf, kOf, als, alss, flD, flDs, flK, disj, elK, lstW, intW, eqW, fzE, mvE, wpBnil, CMul, CPow, sizeLine_eq, -List.getD_eq_getElem?_getD, shaped_int, eqB_int, at3]
      refine stp ?_; try simp [wpS, wpO, wpE, wpEs, wpB, binW, addW, subW, mulW, fdivW, modW, powW, cmpW, iiW, idxW, slcW, revW, negW, biW, itW, bindT, bindTs, wipeE, bW, ifW, ints1, isiW, isTy, lcW, topf, kOf, als, alss, flD, flDs, flK, disj, elK, lstW, intW, eqW, fzE, mvE, wpBnil, CMul, CPow, sizeLine_eq, -List.getD_eq_getElem?_getD, shaped_int, eqB_int, at3]
      refine tail _ _ ?_ ih
      unfold tabV
      rw [q1]
      rfl
    · by_cases q2 : r.getD 3 0 = 2
      · rw [q2] at at3
        refine stp ?_; try simp [wpS, wpO, wpE, wpEs, wpB, binW, addW, subW, mulW, fdivW, modW, powW, cmpW, iiW, idxW, slcW, revW, negW, biW, itW, bindT, bindTs, wipeE, bW, ifW, ints1, isiW, isTy, lcW, topf, kOf, als, alss, flD, flDs, flK, disj, elK, lstW, intW, eqW, fzE, mvE, wpBnil, CMul, CPow, sizeLine_eq, -List.getD_eq_getElem?_getD, shaped_int, eqB_int, at3]
        refine stp ?_; try simp [wpS, wpO, wpE, wpEs, wpB, binW, addW, subW, mulW, fdivW, modW, powW, cmpW, iiW, idxW, slcW, revW, negW, biW, itW, bindT, bindTs, wipeE, bW, ifW, ints1, isiW, isTy, lcW, topf, kOf, als, alss, flD, flDs, flK, disj, elK, lstW, intW, eqW, fzE, mvE, wpBnil, CMul, CPow, sizeLine_eq, -List.getD_eq_getElem?_getD, shaped_int, eqB_int, at3]
        refine stp ?_; try simp [wpS, wpO, wpE, wpEs, wpB, binW, addW, subW, mulW, fdivW, modW, powW, cmpW, iiW, idxW, slcW, revW, negW, biW, itW, bindT, bindTs, wipeE, bW, ifW, ints1, isiW, isTy, lcW, topf, kOf, als, alss, flD, flDs, flK, disj, elK, lstW, intW, eqW, fzE, mvE, wpBnil, CMul, CPow, sizeLine_eq, -List.getD_eq_getElem?_getD]
        refine ⟨_, at_int (by omega) (by omega), ?_⟩
        try simp [wpS, wpO, wpE, wpEs, wpB, binW, addW, subW, mulW, fdivW, modW, powW, cmpW, iiW, idxW, slcW, revW, negW, biW, itW, bindT, bindTs, wipeE, bW, ifW, ints1, isiW, isTy, lcW, topf, kOf, als, alss, flD, flDs, flK, disj, elK, lstW, intW, eqW, fzE, mvE, wpBnil, CMul, CPow, sizeLine_eq, -List.getD_eq_getElem?_getD, i1]
        refine stp ?_; try simp [wpS, wpO, wpE, wpEs, wpB, binW, addW, subW, mulW, fdivW, modW, powW, cmpW, iiW, idxW, slcW, revW, negW, biW, itW, bindT, bindTs, wipeE, bW, ifW, ints1, isiW, isTy, lcW, topf, kOf, als, alss, flD, flDs, flK, disj, elK, lstW, intW, eqW, fzE, mvE, wpBnil, CMul, CPow, sizeLine_eq, -List.getD_eq_getElem?_getD, shaped_int, eqB_int, at3]
        refine tail _ _ ?_ ih
        unfold tabV
        rw [q2]
        rfl
      · by_cases q3 : r.getD 3 0 = 3
        · rw [q3] at at3
          refine stp ?_; try simp [wpS, wpO, wpE, wpEs, wpB, binW, addW, subW, mulW, fdivW, modW, powW, cmpW, iiW, idxW, slcW, revW, negW, biW, itW, bindT, bindTs, wipeE, bW, ifW, ints1, isiW, isTy, lcW, topf, kOf, als, alss, flD, flDs, flK, disj, elK, lstW, intW, eqW, fzE, mvE, wpBnil, CMul, CPow, sizeLine_eq, -List.getD_eq_getElem?_getD, shaped_int, eqB_int, at3]
          refine stp ?_; try simp [wpS, wpO, wpE, wpEs, wpB, binW, addW, subW, mulW, fdivW, modW, powW, cmpW, iiW, idxW, slcW, revW, negW, biW, itW, bindT, bindTs, wipeE, bW, ifW, ints1, isiW, isTy, lcW, topf, kOf, als, alss, flD, flDs, flK, disj, elK, lstW, intW, eqW, fzE, mvE, wpBnil, CMul, CPow, sizeLine_eq, -List.getD_eq_getElem?_getD, shaped_int, eqB_int, at3]
          refine stp ?_; try simp [wpS, wpO, wpE, wpEs, wpB, binW, addW, subW, mulW, fdivW, modW, powW, cmpW, iiW, idxW, slcW, revW, negW, biW, itW, bindT, bindTs, wipeE, bW, ifW, ints1, isiW, isTy, lcW, topf, kOf, als, alss, flD, flDs, flK, disj, elK, lstW, intW, eqW, fzE, mvE, wpBnil, CMul, CPow, sizeLine_eq, -List.getD_eq_getElem?_getD, shaped_int, eqB_int, at3]
          refine stp ?_; try simp [wpS, wpO, wpE, wpEs, wpB, binW, addW, subW, mulW, fdivW, modW, powW, cmpW, iiW, idxW, slcW, revW, negW, biW, itW, bindT, bindTs, wipeE, bW, ifW, ints1, isiW, isTy, lcW, topf, kOf, als, alss, flD, flDs, flK, disj, elK, lstW, intW, eqW, fzE, mvE, wpBnil, CMul, CPow, sizeLine_eq, -List.getD_eq_getElem?_getD]
          refine tail _ _ ?_ ih
          unfold tabV
          rw [q3]
          rfl
        · refine stp ?_; try simp [wpS, wpO, wpE, wpEs, wpB, binW, addW, subW, mulW, fdivW, modW, powW, cmpW, iiW, idxW, slcW, revW, negW, biW, itW, bindT, bindTs, wipeE, bW, ifW, ints1, isiW, isTy, lcW, topf, kOf, als, alss, flD, flDs, flK, disj, elK, lstW, intW, eqW, fzE, mvE, wpBnil, CMul, CPow, sizeLine_eq, -List.getD_eq_getElem?_getD, shaped_int, eqB_int, at3, q1, q2, q3]
          refine stp ?_; try simp [wpS, wpO, wpE, wpEs, wpB, binW, addW, subW, mulW, fdivW, modW, powW, cmpW, iiW, idxW, slcW, revW, negW, biW, itW, bindT, bindTs, wipeE, bW, ifW, ints1, isiW, isTy, lcW, topf, kOf, als, alss, flD, flDs, flK, disj, elK, lstW, intW, eqW, fzE, mvE, wpBnil, CMul, CPow, sizeLine_eq, -List.getD_eq_getElem?_getD, shaped_int, eqB_int, at3, q1, q2, q3]
          refine stp ?_; try simp [wpS, wpO, wpE, wpEs, wpB, binW, addW, subW, mulW, fdivW, modW, powW, cmpW, iiW, idxW, slcW, revW, negW, biW, itW, bindT, bindTs, wipeE, bW, ifW, ints1, isiW, isTy, lcW, topf, kOf, als, alss, flD, flDs, flK, disj, elK, lstW, intW, eqW, fzE, mvE, wpBnil, CMul, CPow, sizeLine_eq, -List.getD_eq_getElem?_getD, shaped_int, eqB_int, at3, q1, q2, q3]
          refine tail _ _ ?_ ih
          unfold tabV
          rw [if_neg q3, if_neg q2, if_neg q1]
theorem w_tab (hR : S.T "_law_row" = some spRow) : ∀ ds o, spTab ds o → wpD S s__law_table N__law_table ds o := by
  rintro _ _ ⟨ns, p, m, rfl, hp, hm, rfl⟩
  refine unfD (by delta s__law_table; rfl) ?_
  obtain ⟨hs, hl⟩ := tabS_ok hm
  have hr : (rowF ns p (tabS m)).length = 6 + 3 * m := by rw [rowF_len, hl]
  have hb : ∀ j, j < (rowF ns p (tabS m)).length → 0 ≤ (rowF ns p (tabS m)).getD j 0 ∧ (rowF ns p (tabS m)).getD j 0 < (tabS m).getD j 0 := fun j hj => rowF_lt hs (by rw [rowF_len] at hj; exact hj)
  have em2 : (D.int ((m : Int) + 1) :: D.int 4 :: D.int 4 :: D.int 4 :: D.int 16 :: D.int 4 :: (List.replicate m [D.int 11, D.int 40, D.int 6]).flatten) = (tabS m).map D.int := by
    rw [tabS, List.map_append, ← rep_map]
    rfl
  have lz : ((List.replicate m [D.int 11, D.int 40, D.int 6]).flatten).length = m * 3 := by
    have e2 : (List.replicate m [D.int 11, D.int 40, D.int 6]).flatten = (repI [11, 40, 6] m).map D.int := rep_map [11, 40, 6] m
    rw [e2, List.length_map, rep_len]
    rfl
  have b0 := hb 0 (by omega)
  have b1 := hb 1 (by omega)
  have b2 := hb 2 (by omega)
  have r0 : (tabS m).getD 0 0 = (m : Int) + 1 := rfl
  have r1 : (tabS m).getD 1 0 = 4 := rfl
  have r2 : (tabS m).getD 2 0 = 4 := rfl
  rw [r1] at b1
  rw [r2] at b2
  unfold startE
  refine stp ?_; try simp [wpS, wpO, wpE, wpEs, wpB, binW, addW, subW, mulW, fdivW, modW, powW, cmpW, iiW, idxW, slcW, revW, negW, biW, itW, bindT, bindTs, wipeE, bW, ifW, ints1, isiW, isTy, lcW, topf, kOf, als, alss, flD, flDs, flK, disj, elK, lstW, intW, eqW, fzE, mvE, wpBnil, CMul, CPow, sizeLine_eq, -List.getD_eq_getElem?_getD]
  refine stp ?_; try simp [wpS, wpO, wpE, wpEs, wpB, binW, addW, subW, mulW, fdivW, modW, powW, cmpW, iiW, idxW, slcW, revW, negW, biW, itW, bindT, bindTs, wipeE, bW, ifW, ints1, isiW, isTy, lcW, topf, kOf, als, alss, flD, flDs, flK, disj, elK, lstW, intW, eqW, fzE, mvE, wpBnil, CMul, CPow, sizeLine_eq, -List.getD_eq_getElem?_getD]
  refine stp ?_; try simp [wpS, wpO, wpE, wpEs, wpB, binW, addW, subW, mulW, fdivW, modW, powW, cmpW, iiW, idxW, slcW, revW, negW, biW, itW, bindT, bindTs, wipeE, bW, ifW, ints1, isiW, isTy, lcW, topf, kOf, als, alss, flD, flDs, flK, disj, elK, lstW, intW, eqW, fzE, mvE, wpBnil, CMul, CPow, sizeLine_eq, -List.getD_eq_getElem?_getD, hR]
  refine ⟨by omega, by omega, by omega, _, ⟨ns, p, tabS m, by rw [em2], hp, hs, by omega, rfl⟩, ?_⟩
  try simp [wpS, wpO, wpE, wpEs, wpB, binW, addW, subW, mulW, fdivW, modW, powW, cmpW, iiW, idxW, slcW, revW, negW, biW, itW, bindT, bindTs, wipeE, bW, ifW, ints1, isiW, isTy, lcW, topf, kOf, als, alss, flD, flDs, flK, disj, elK, lstW, intW, eqW, fzE, mvE, wpBnil, CMul, CPow, sizeLine_eq, -List.getD_eq_getElem?_getD]
  refine stp ?_; try simp [wpS, wpO, wpE, wpEs, wpB, binW, addW, subW, mulW, fdivW, modW, powW, cmpW, iiW, idxW, slcW, revW, negW, biW, itW, bindT, bindTs, wipeE, bW, ifW, ints1, isiW, isTy, lcW, topf, kOf, als, alss, flD, flDs, flK, disj, elK, lstW, intW, eqW, fzE, mvE, wpBnil, CMul, CPow, sizeLine_eq, -List.getD_eq_getElem?_getD]
  refine ⟨_, at_int (by decide) (by omega), ?_⟩
  try simp [wpS, wpO, wpE, wpEs, wpB, binW, addW, subW, mulW, fdivW, modW, powW, cmpW, iiW, idxW, slcW, revW, negW, biW, itW, bindT, bindTs, wipeE, bW, ifW, ints1, isiW, isTy, lcW, topf, kOf, als, alss, flD, flDs, flK, disj, elK, lstW, intW, eqW, fzE, mvE, wpBnil, CMul, CPow, sizeLine_eq, -List.getD_eq_getElem?_getD]
  refine ⟨_, at_lit (l := flawL) (n := 4) b1 rfl, ?_⟩
  try simp [wpS, wpO, wpE, wpEs, wpB, binW, addW, subW, mulW, fdivW, modW, powW, cmpW, iiW, idxW, slcW, revW, negW, biW, itW, bindT, bindTs, wipeE, bW, ifW, ints1, isiW, isTy, lcW, topf, kOf, als, alss, flD, flDs, flK, disj, elK, lstW, intW, eqW, fzE, mvE, wpBnil, CMul, CPow, sizeLine_eq, -List.getD_eq_getElem?_getD]
  refine stp ?_; try simp [wpS, wpO, wpE, wpEs, wpB, binW, addW, subW, mulW, fdivW, modW, powW, cmpW, iiW, idxW, slcW, revW, negW, biW, itW, bindT, bindTs, wipeE, bW, ifW, ints1, isiW, isTy, lcW, topf, kOf, als, alss, flD, flDs, flK, disj, elK, lstW, intW, eqW, fzE, mvE, wpBnil, CMul, CPow, sizeLine_eq, -List.getD_eq_getElem?_getD]
  refine ⟨_, at_int (by decide) (by omega), ?_⟩
  try simp [wpS, wpO, wpE, wpEs, wpB, binW, addW, subW, mulW, fdivW, modW, powW, cmpW, iiW, idxW, slcW, revW, negW, biW, itW, bindT, bindTs, wipeE, bW, ifW, ints1, isiW, isTy, lcW, topf, kOf, als, alss, flD, flDs, flK, disj, elK, lstW, intW, eqW, fzE, mvE, wpBnil, CMul, CPow, sizeLine_eq, -List.getD_eq_getElem?_getD]
  refine ⟨_, at_lit (l := gainL) (n := 4) b2 rfl, ?_⟩
  try simp [wpS, wpO, wpE, wpEs, wpB, binW, addW, subW, mulW, fdivW, modW, powW, cmpW, iiW, idxW, slcW, revW, negW, biW, itW, bindT, bindTs, wipeE, bW, ifW, ints1, isiW, isTy, lcW, topf, kOf, als, alss, flD, flDs, flK, disj, elK, lstW, intW, eqW, fzE, mvE, wpBnil, CMul, CPow, sizeLine_eq, -List.getD_eq_getElem?_getD]
  refine stp ?_; try simp [wpS, wpO, wpE, wpEs, wpB, binW, addW, subW, mulW, fdivW, modW, powW, cmpW, iiW, idxW, slcW, revW, negW, biW, itW, bindT, bindTs, wipeE, bW, ifW, ints1, isiW, isTy, lcW, topf, kOf, als, alss, flD, flDs, flK, disj, elK, lstW, intW, eqW, fzE, mvE, wpBnil, CMul, CPow, sizeLine_eq, -List.getD_eq_getElem?_getD]
  refine stp ?_; try simp [wpS, wpO, wpE, wpEs, wpB, binW, addW, subW, mulW, fdivW, modW, powW, cmpW, iiW, idxW, slcW, revW, negW, biW, itW, bindT, bindTs, wipeE, bW, ifW, ints1, isiW, isTy, lcW, topf, kOf, als, alss, flD, flDs, flK, disj, elK, lstW, intW, eqW, fzE, mvE, wpBnil, CMul, CPow, sizeLine_eq, -List.getD_eq_getElem?_getD]
  refine ⟨_, at_int (by decide) (by omega), ?_⟩
  try simp [wpS, wpO, wpE, wpEs, wpB, binW, addW, subW, mulW, fdivW, modW, powW, cmpW, iiW, idxW, slcW, revW, negW, biW, itW, bindT, bindTs, wipeE, bW, ifW, ints1, isiW, isTy, lcW, topf, kOf, als, alss, flD, flDs, flK, disj, elK, lstW, intW, eqW, fzE, mvE, wpBnil, CMul, CPow, sizeLine_eq, -List.getD_eq_getElem?_getD]
  refine ⟨by omega, by omega, ?_⟩
  rw [List.range_eq_range']
  refine tab_loop hm hr hb (getD_bd ⟨by decide, by decide⟩ (by unfold flawL; decide) _) (getD_bd ⟨by decide, by decide⟩ (by unfold gainL; decide) _) _ 0 [] none none none none none none _ (by omega) rfl fun x1 x2 x3 x4 x5 x6 => ?_
  refine stp ?_; try simp [wpS, wpO, wpE, wpEs, wpB, binW, addW, subW, mulW, fdivW, modW, powW, cmpW, iiW, idxW, slcW, revW, negW, biW, itW, bindT, bindTs, wipeE, bW, ifW, ints1, isiW, isTy, lcW, topf, kOf, als, alss, flD, flDs, flK, disj, elK, lstW, intW, eqW, fzE, mvE, wpBnil, CMul, CPow, sizeLine_eq, -List.getD_eq_getElem?_getD, edOf]
  rw [tabF, List.range_eq_range']
  simp
end
end SV

set_option Elab.async false
set_option linter.all false
set_option maxRecDepth 100000
set_option maxHeartbeats 1000000
namespace SV
open PySem PySem.Spec PyProof.Rows L2
@[simp] theorem fOr_same {c : Bool} {a : Prop} : fOr c a a = a := by unfold fOr; split <;> rfl
/-! ### equality of data -/
mutual
theorem eqvR : ∀ d : D, PyData.eqv (toP d) (toP d) = true
  | .non => by simp [toP, PyData.eqv]
  | .bl b => by simp [toP, PyData.eqv]
  | .int i => by simp [toP, PyData.eqv]
  | .exo _ _ _ => by simp [toP, PyData.eqv]
  | .dik _ => by simp [toP, PyData.eqv]
  | .dit _ => by simp [toP, PyData.eqv]
  | .ob _ _ => by simp [toP, PyData.eqv]
  | .hol _ => by simp [toP, PyData.eqv]
  | .str x => by simp [toP, PyData.eqv]
  | .lst ds => by simp only [toP, PyData.eqv]; exact eqvRs ds
  | .tup ds => by simp only [toP, PyData.eqv]; exact eqvRs ds
  | .scr ns => by
    simp only [toP, PyData.eqv]
    induction ns with
    | nil => simp [PyData.eqvAll]
    | cons n ns ih => simp only [List.map_cons, PyData.eqvAll, PyData.eqv, ih, Bool.and_true]; simp
theorem eqvRs : ∀ ds : List D, PyData.eqvAll (toPs ds) (toPs ds) = true
  | [] => by simp [toPs, PyData.eqvAll]
  | d :: ds => by simp only [toPs, PyData.eqvAll, eqvR d, eqvRs ds, Bool.and_true]
end
theorem eqB_refl (d : D) : eqB d d = true := eqvR d
def shB : Nat → D → Bool
  | _, .non => true
  | _, .bl _ => true
  | _, .int _ => true
  | _, .str x => PyData.strOk x
  | n + 1, .lst ds => ds.all (shB n)
  | n + 1, .tup ds => ds.all (shB n)
  | _ + 1, .scr _ => true
  | _ + 1, .exo _ _ _ => false
  | _ + 1, .dik _ => false
  | _ + 1, .dit _ => false
  | _ + 1, .ob _ _ => false
  | _ + 1, .hol _ => false
  | 0, _ => false
theorem sh_all {n : Nat} (ih : ∀ d, shB n d = true → (toP d).canLay0 = true ∧ (toP d).depth ≤ n) : ∀ ds : List D, ds.all (shB n) = true → PyData.canLayAll0 (toPs ds) = true ∧ PyData.depthAll (toPs ds) ≤ n
  | [], _ => by simp [toPs, PyData.canLayAll0, PyData.depthAll]
  | d :: ds, h => by
    simp only [List.all_cons, Bool.and_eq_true] at h
    have h1 := ih d h.1
    have h2 := sh_all ih ds h.2
    simp only [toPs, PyData.canLayAll0, PyData.depthAll, h1.1, h2.1, Bool.and_self, true_and]
    omega
theorem sh_scr : ∀ ns : List Int, PyData.canLayAll0 (ns.map PyData.int) = true ∧ PyData.depthAll (ns.map PyData.int) = 0
  | [] => by simp [PyData.canLayAll0, PyData.depthAll]
  | n :: ns => by
    have ih := sh_scr ns
    simp [PyData.canLayAll0, PyData.depthAll, PyData.canLay0, PyData.depth, ih.1, ih.2]
theorem sh_ok : ∀ (n : Nat) (d : D), shB n d = true → (toP d).canLay0 = true ∧ (toP d).depth ≤ n
  | _, .non, _ => by simp [toP, PyData.canLay0, PyData.depth]
  | _, .bl _, _ => by simp [toP, PyData.canLay0, PyData.depth]
  | _, .int _, _ => by simp [toP, PyData.canLay0, PyData.depth]
  | n, .str x, h => by
    have : PyData.strOk x = true := by cases n <;> simpa [shB] using h
    simp [toP, PyData.canLay0, PyData.depth, this]
  | n + 1, .lst ds, h => by
    have := sh_all (sh_ok n) ds (by simpa [shB] using h)
    simp only [toP, PyData.canLay0, PyData.depth]
    exact ⟨this.1, by omega⟩
  | n + 1, .tup ds, h => by
    have := sh_all (sh_ok n) ds (by simpa [shB] using h)
    simp only [toP, PyData.canLay0, PyData.depth]
    exact ⟨this.1, by omega⟩
  | n + 1, .scr ns, _ => by
    simp only [toP, PyData.canLay0, PyData.depth]
    have := sh_scr ns
    exact ⟨this.1, by omega⟩
  | 0, .exo _ _ _, h => by simp [shB] at h
  | n + 1, .exo _ _ _, h => by simp [shB] at h
  | 0, .dik _, h => by simp [shB] at h
  | n + 1, .dik _, h => by simp [shB] at h
  | 0, .dit _, h => by simp [shB] at h
  | n + 1, .dit _, h => by simp [shB] at h
  | 0, .ob _ _, h => by simp [shB] at h
  | n + 1, .ob _ _, h => by simp [shB] at h
  | 0, .hol _, h => by simp [shB] at h
  | n + 1, .hol _, h => by simp [shB] at h
  | 0, .lst _, h => by simp [shB] at h
  | 0, .tup _, h => by simp [shB] at h
  | 0, .scr _, h => by simp [shB] at h
theorem shaped_of {n : Nat} {d : D} (h : shB n d = true) (hn : n ≤ 64) : SeqAt.shaped (toP d) = true := by
  have q := sh_ok n d h
  unfold SeqAt.shaped
  rw [q.1, Bool.true_and]
  exact decide_eq_true (by omega)
theorem sh_ints {n : Nat} {l : List Int} : (l.map D.int).all (shB n) = true := List.all_eq_true.mpr fun x hx => by
  obtain ⟨i, _, rfl⟩ := List.mem_map.mp hx
  cases n <;> rfl
end SV

set_option Elab.async false
set_option linter.all false
set_option maxRecDepth 100000
set_option maxHeartbeats 4000000
namespace SV
open PySem PySem.Spec PyProof.Rows L2
def spDrawn : Spec1 := fun ds o => ∃ ns p m q, ds = [.scr ns, .int p, .int (m : Nat), .int (q : Nat)] ∧ 0 ≤ p ∧ m ≤ 10000 ∧ q ≤ 10000 ∧ o = .ret (.t2 (.ls .sh) (.ls .sh)) (.tup [.lst ((rollF ns (p + 1) m (flawF ns p q)).map .int), .lst ((tabF ns p q).map encK)])
theorem tab_sh {ns : List Int} {p : Int} {m : Nat} : ((tabF ns p m).map encK).all (shB 1) = true := List.all_eq_true.mpr fun x hx => by
  obtain ⟨k, hk, rfl⟩ := List.mem_map.mp hx
  unfold tabF at hk
  obtain ⟨i, _, rfl⟩ := List.mem_map.mp hk
  have : ∀ j, PyData.strOk (poolL.getD j "") = true := fun j => by
    by_cases hj : j < poolL.length
    · have e : poolL.getD j "" = poolL[j] := by simp [hj]
      rw [e]
      have h := List.getElem_mem hj
      have all : ∀ x ∈ poolL, PyData.strOk x = true := by unfold poolL; decide +kernel
      exact all _ h
    · have e : poolL.getD j "" = "" := by simp [List.getElem?_eq_none (by omega : poolL.length ≤ j)]
      rw [e]
      decide +kernel
  unfold encK tabE
  simp only [shB, List.all_cons, List.all_nil, Bool.and_true, this]
section
variable {S : Sg}
theorem fl_tab3 (t : List Kn) : t.all ((fun x => flD x) ∘ encK) = true := List.all_eq_true.mpr fun k _ => rfl
theorem w_drawn (hF : S.T "_law_flaw" = some spFlaw) (hR : S.T "_law_roll" = some spRoll) (hT : S.T "_law_table" = some spTab) : ∀ ds o, spDrawn ds o → wpD S s__law_drawn N__law_drawn ds o := by
  rintro _ _ ⟨ns, p, m, q, rfl, hp, hm, hq, rfl⟩
  refine unfD (by delta s__law_drawn; rfl) ?_
  unfold startE
  refine stp ?_; try simp [wpS, wpO, wpE, wpEs, wpB, binW, addW, subW, mulW, fdivW, modW, powW, cmpW, iiW, idxW, slcW, revW, negW, biW, itW, bindT, bindTs, wipeE, bW, ifW, ints1, isiW, isTy, lcW, topf, kOf, als, alss, flD, flDs, flK, disj, elK, lstW, intW, eqW, fzE, mvE, wpBnil, CMul, CPow, sizeLine_eq, -List.getD_eq_getElem?_getD, hF]
  refine ⟨_, ⟨ns, p, q, rfl, hp, by omega, by omega, rfl⟩, ?_⟩
  try simp [wpS, wpO, wpE, wpEs, wpB, binW, addW, subW, mulW, fdivW, modW, powW, cmpW, iiW, idxW, slcW, revW, negW, biW, itW, bindT, bindTs, wipeE, bW, ifW, ints1, isiW, isTy, lcW, topf, kOf, als, alss, flD, flDs, flK, disj, elK, lstW, intW, eqW, fzE, mvE, wpBnil, CMul, CPow, sizeLine_eq, -List.getD_eq_getElem?_getD]
  refine stp ?_; try simp [wpS, wpO, wpE, wpEs, wpB, binW, addW, subW, mulW, fdivW, modW, powW, cmpW, iiW, idxW, slcW, revW, negW, biW, itW, bindT, bindTs, wipeE, bW, ifW, ints1, isiW, isTy, lcW, topf, kOf, als, alss, flD, flDs, flK, disj, elK, lstW, intW, eqW, fzE, mvE, wpBnil, CMul, CPow, sizeLine_eq, -List.getD_eq_getElem?_getD, hR, hT]
  refine ⟨_, ⟨ns, p + 1, m, _, rfl, by omega, hm, flawF_bd.1, flawF_bd.2, rfl⟩, ?_⟩
  try simp [wpS, wpO, wpE, wpEs, wpB, binW, addW, subW, mulW, fdivW, modW, powW, cmpW, iiW, idxW, slcW, revW, negW, biW, itW, bindT, bindTs, wipeE, bW, ifW, ints1, isiW, isTy, lcW, topf, kOf, als, alss, flD, flDs, flK, disj, elK, lstW, intW, eqW, fzE, mvE, wpBnil, CMul, CPow, sizeLine_eq, -List.getD_eq_getElem?_getD]
  refine ⟨_, ⟨ns, p, q, rfl, hp, hq, rfl⟩, ?_⟩
  try simp [wpS, wpO, wpE, wpEs, wpB, binW, addW, subW, mulW, fdivW, modW, powW, cmpW, iiW, idxW, slcW, revW, negW, biW, itW, bindT, bindTs, wipeE, bW, ifW, ints1, isiW, isTy, lcW, topf, kOf, als, alss, flD, flDs, flK, disj, elK, lstW, intW, eqW, fzE, mvE, wpBnil, CMul, CPow, sizeLine_eq, -List.getD_eq_getElem?_getD, edOf, fl_tab, fl_tab2, fl_tab3]
theorem w_law (hR : S.T "_law_row" = some spRow) (hD : S.T "_law_drawn" = some spDrawn) (hP : S.T "prices" = some spPr) (hG : S.T "_law_right" = some spRight) : ∀ ds o, lawSp 63 ds o → wpD S s_law N_law ds o := by
  rintro _ _ ⟨ns, hn, rfl, rfl⟩
  refine unfD (by delta s_law; rfl) ?_
  have h4 : szOk [4] := by intro x hx; simp at hx; omega
  have fin : ∀ m : Nat, m ≤ 10000 → wpB' S (s_law.drop 2) (edOf (.ret .sh (.bl true))) [some (.sh, .scr ns), some (.sh, .int m), none, none, none, none] := fun m hm => by
    have ht := (tab_ok (ns := ns) (p := 0) (m := 8) (by decide)).1
    have hl : (rollF ns (0 + 1) m (flawF ns 0 8)).length ≤ 1000000 := by have := rollF_len (ns := ns) (p := 0 + 1) (m := m) (flaw := flawF ns 0 8) hm; omega
    have sh1 : shB 3 (.lst [.lst ((rollF ns (0 + 1) m (flawF ns 0 8)).map .int), .lst ((tabF ns 0 8).map encK)]) = true := by
      simp only [shB, List.all_cons, List.all_nil, Bool.and_true, sh_ints, tab_sh]
    have sh2 := shaped_of sh1 (by decide)
    have eq1 := eqB_refl (.lst [.lst ((rollF ns (0 + 1) m (flawF ns 0 8)).map .int), .lst ((tabF ns 0 8).map encK)])
    have call := fun (W : Exc → Prop) (Q : DK) (h : Q (.bl true)) => h
    refine unf (by delta s_law; rfl) ?_
    refine stp ?_; try simp [wpS, wpO, wpE, wpEs, wpB, binW, addW, subW, mulW, fdivW, modW, powW, cmpW, iiW, idxW, slcW, revW, negW, biW, itW, bindT, bindTs, wipeE, bW, ifW, ints1, isiW, isTy, lcW, topf, kOf, als, alss, flD, flDs, flK, disj, elK, lstW, intW, eqW, fzE, mvE, wpBnil, CMul, CPow, sizeLine_eq, -List.getD_eq_getElem?_getD, hD]
    refine ⟨_, ⟨ns, 0, m, 8, rfl, by decide, hm, by decide, rfl⟩, ?_⟩
    generalize rollF ns (0 + 1) m (flawF ns 0 8) = l at hl sh2 eq1 ⊢
    generalize tabF ns 0 8 = t at ht sh2 eq1 ⊢
    have a0 : atI [D.lst (l.map .int), D.lst (t.map encK)] 0 = some (.lst (l.map .int)) := rfl
    have a1 : atI [D.lst (l.map .int), D.lst (t.map encK)] 1 = some (.lst (t.map encK)) := rfl
    try simp [wpS, wpO, wpE, wpEs, wpB, binW, addW, subW, mulW, fdivW, modW, powW, cmpW, iiW, idxW, slcW, revW, negW, biW, itW, bindT, bindTs, wipeE, bW, ifW, ints1, isiW, isTy, lcW, topf, kOf, als, alss, flD, flDs, flK, disj, elK, lstW, intW, eqW, fzE, mvE, wpBnil, CMul, CPow, sizeLine_eq, -List.getD_eq_getElem?_getD]
    refine stp ?_; try simp [wpS, wpO, wpE, wpEs, wpB, binW, addW, subW, mulW, fdivW, modW, powW, cmpW, iiW, idxW, slcW, revW, negW, biW, itW, bindT, bindTs, wipeE, bW, ifW, ints1, isiW, isTy, lcW, topf, kOf, als, alss, flD, flDs, flK, disj, elK, lstW, intW, eqW, fzE, mvE, wpBnil, CMul, CPow, sizeLine_eq, -List.getD_eq_getElem?_getD]
    refine stp ?_; try simp [wpS, wpO, wpE, wpEs, wpB, binW, addW, subW, mulW, fdivW, modW, powW, cmpW, iiW, idxW, slcW, revW, negW, biW, itW, bindT, bindTs, wipeE, bW, ifW, ints1, isiW, isTy, lcW, topf, kOf, als, alss, flD, flDs, flK, disj, elK, lstW, intW, eqW, fzE, mvE, wpBnil, CMul, CPow, sizeLine_eq, -List.getD_eq_getElem?_getD, hP, a0, a1]
    refine ⟨_, ⟨l, t, rfl, hl, ht, rfl⟩, ?_⟩
    try simp [wpS, wpO, wpE, wpEs, wpB, binW, addW, subW, mulW, fdivW, modW, powW, cmpW, iiW, idxW, slcW, revW, negW, biW, itW, bindT, bindTs, wipeE, bW, ifW, ints1, isiW, isTy, lcW, topf, kOf, als, alss, flD, flDs, flK, disj, elK, lstW, intW, eqW, fzE, mvE, wpBnil, CMul, CPow, sizeLine_eq, -List.getD_eq_getElem?_getD]
    refine stp ?_; try simp [wpS, wpO, wpE, wpEs, wpB, binW, addW, subW, mulW, fdivW, modW, powW, cmpW, iiW, idxW, slcW, revW, negW, biW, itW, bindT, bindTs, wipeE, bW, ifW, ints1, isiW, isTy, lcW, topf, kOf, als, alss, flD, flDs, flK, disj, elK, lstW, intW, eqW, fzE, mvE, wpBnil, CMul, CPow, sizeLine_eq, -List.getD_eq_getElem?_getD, hG, sh2, eq1]
    refine ⟨_, ⟨l, t, rfl, hl, ht, rfl⟩, ?_⟩
    try simp [wpS, wpO, wpE, wpEs, wpB, binW, addW, subW, mulW, fdivW, modW, powW, cmpW, iiW, idxW, slcW, revW, negW, biW, itW, bindT, bindTs, wipeE, bW, ifW, ints1, isiW, isTy, lcW, topf, kOf, als, alss, flD, flDs, flK, disj, elK, lstW, intW, eqW, fzE, mvE, wpBnil, CMul, CPow, sizeLine_eq, -List.getD_eq_getElem?_getD, sh2, eq1]
    have z1 : (prF l t).length < 16777216 := by rw [prF_len]; omega
    refine stp ?_; try simp [wpS, wpO, wpE, wpEs, wpB, binW, addW, subW, mulW, fdivW, modW, powW, cmpW, iiW, idxW, slcW, revW, negW, biW, itW, bindT, bindTs, wipeE, bW, ifW, ints1, isiW, isTy, lcW, topf, kOf, als, alss, flD, flDs, flK, disj, elK, lstW, intW, eqW, fzE, mvE, wpBnil, CMul, CPow, sizeLine_eq, -List.getD_eq_getElem?_getD, z1]
    refine stp ?_; try simp [wpS, wpO, wpE, wpEs, wpB, binW, addW, subW, mulW, fdivW, modW, powW, cmpW, iiW, idxW, slcW, revW, negW, biW, itW, bindT, bindTs, wipeE, bW, ifW, ints1, isiW, isTy, lcW, topf, kOf, als, alss, flD, flDs, flK, disj, elK, lstW, intW, eqW, fzE, mvE, wpBnil, CMul, CPow, sizeLine_eq, -List.getD_eq_getElem?_getD, hP, hG, a0, a1]
    refine ⟨_, ⟨l, t, rfl, hl, ht, rfl⟩, ?_⟩
    try simp [wpS, wpO, wpE, wpEs, wpB, binW, addW, subW, mulW, fdivW, modW, powW, cmpW, iiW, idxW, slcW, revW, negW, biW, itW, bindT, bindTs, wipeE, bW, ifW, ints1, isiW, isTy, lcW, topf, kOf, als, alss, flD, flDs, flK, disj, elK, lstW, intW, eqW, fzE, mvE, wpBnil, CMul, CPow, sizeLine_eq, -List.getD_eq_getElem?_getD]
    refine ⟨_, ⟨l, t, rfl, hl, ht, rfl⟩, ?_⟩
    try simp [wpS, wpO, wpE, wpEs, wpB, binW, addW, subW, mulW, fdivW, modW, powW, cmpW, iiW, idxW, slcW, revW, negW, biW, itW, bindT, bindTs, wipeE, bW, ifW, ints1, isiW, isTy, lcW, topf, kOf, als, alss, flD, flDs, flK, disj, elK, lstW, intW, eqW, fzE, mvE, wpBnil, CMul, CPow, sizeLine_eq, -List.getD_eq_getElem?_getD, edOf]
  unfold startE
  refine stp ?_; try simp [wpS, wpO, wpE, wpEs, wpB, binW, addW, subW, mulW, fdivW, modW, powW, cmpW, iiW, idxW, slcW, revW, negW, biW, itW, bindT, bindTs, wipeE, bW, ifW, ints1, isiW, isTy, lcW, topf, kOf, als, alss, flD, flDs, flK, disj, elK, lstW, intW, eqW, fzE, mvE, wpBnil, CMul, CPow, sizeLine_eq, -List.getD_eq_getElem?_getD]
  refine stp ?_; try simp [wpS, wpO, wpE, wpEs, wpB, binW, addW, subW, mulW, fdivW, modW, powW, cmpW, iiW, idxW, slcW, revW, negW, biW, itW, bindT, bindTs, wipeE, bW, ifW, ints1, isiW, isTy, lcW, topf, kOf, als, alss, flD, flDs, flK, disj, elK, lstW, intW, eqW, fzE, mvE, wpBnil, CMul, CPow, sizeLine_eq, -List.getD_eq_getElem?_getD, hR, shaped_int, eqB_int]
  have e0 : atI ((rowF ns 2 [4]).map D.int) 0 = some (.int ((rowF ns 2 [4]).getD 0 0)) := at_int (by decide) (by rw [rowF_len]; simp)
  refine ⟨_, ⟨ns, 2, [4], rfl, by decide, h4, by decide, rfl⟩, ?_⟩
  try simp [wpS, wpO, wpE, wpEs, wpB, binW, addW, subW, mulW, fdivW, modW, powW, cmpW, iiW, idxW, slcW, revW, negW, biW, itW, bindT, bindTs, wipeE, bW, ifW, ints1, isiW, isTy, lcW, topf, kOf, als, alss, flD, flDs, flK, disj, elK, lstW, intW, eqW, fzE, mvE, wpBnil, CMul, CPow, sizeLine_eq, -List.getD_eq_getElem?_getD, shaped_int, eqB_int, e0]
  by_cases hz : (rowF ns 2 [4]).getD 0 0 = 0
  · simp only [hz, if_true, if_false]
    refine stp ?_; try simp [wpS, wpO, wpE, wpEs, wpB, binW, addW, subW, mulW, fdivW, modW, powW, cmpW, iiW, idxW, slcW, revW, negW, biW, itW, bindT, bindTs, wipeE, bW, ifW, ints1, isiW, isTy, lcW, topf, kOf, als, alss, flD, flDs, flK, disj, elK, lstW, intW, eqW, fzE, mvE, wpBnil, CMul, CPow, sizeLine_eq, -List.getD_eq_getElem?_getD]
    exact fin 200 (by decide)
  · simp only [hz, if_true, if_false]
    exact fin 40 (by decide)
end
end SV

set_option Elab.async false
set_option linter.all false
set_option maxRecDepth 100000
set_option maxHeartbeats 4000000
namespace SV
open PySem PySem.Spec PyProof.Rows L2
/-- a comprehension over encoded things: each gives one thing, or none -/
theorem lc_fmK {α : Type} {enc : α → D} {f : α → Option D} {step : D → (Option D → Prop) → Prop} {Q : List D → Prop} : ∀ {xs : List α} {acc : List D}, (∀ x ∈ xs, ∀ k : Option D → Prop, k (f x) → step (enc x) k) → acc.length + xs.length ≤ sizeLine → Q (acc ++ xs.filterMap f) → lcW step (xs.map enc) acc Q
  | [], acc, _, _, q => by simpa [lcW] using q
  | x :: xs, acc, h, hl, q => by
    rw [List.map_cons]
    unfold lcW
    refine h x (by simp) _ ?_
    cases hx : f x with
    | none =>
      exact lc_fmK (fun y hy => h y (by simp [hy])) (by simp at hl; omega) (by simpa [hx] using q)
    | some d =>
      refine ⟨by simp at hl; omega, ?_⟩
      exact lc_fmK (fun y hy => h y (by simp [hy])) (by simp at hl ⊢; omega) (by simpa [hx] using q)
theorem eqB_str {a b : Str} : eqB (.str a) (.str b) = (a == b) := by
  unfold eqB
  simp [toP, PyData.eqv]
theorem cutD_mp {α β : Type} {f : α → β} {xs : List α} {a b : Option Int} : cutD (xs.map f) a b = (cutD xs a b).map f := by
  unfold cutD
  simp [List.map_take, List.map_drop]
theorem encK0 {k : Kn} : atI [D.str k.nm, .int k.w, .int k.g, .int k.a] 0 = some (.str k.nm) := rfl
theorem shaped_str {s : Str} (h : PyData.strOk s = true) : SeqAt.shaped (toP (.str s)) = true := shaped_of (n := 1) (by simpa only [shB] using h) (by decide)
theorem pool_inj : ∀ u v : Fin 16, poolL.getD u.1 "" = poolL.getD v.1 "" → u = v := by decide +kernel
theorem tab_nd {ns : List Int} {p : Int} {m : Nat} (hm : m ≤ 8) : ((tabF ns p m).map (·.nm)).Nodup := by
  have hl := (tab_ok (ns := ns) (p := p) (m := m) (by omega)).2
  unfold tabF at hl ⊢
  rw [List.map_map]
  simp only [List.length_map, List.length_range] at hl
  generalize rowF ns p (tabS m) = r at hl ⊢
  generalize (r.getD 0 0).toNat = n at hl ⊢
  refine List.Pairwise.map _ (fun i j (h : i ∈ List.range n ∧ j ∈ List.range n ∧ i < j) => ?_) ?_ (R := fun i j => i ∈ List.range n ∧ j ∈ List.range n ∧ i < j)
  · obtain ⟨hi, hj, hij⟩ := h
    have hj := List.mem_range.mp hj
    intro e
    dsimp only [Function.comp, tabE] at e
    have q := pool_inj ⟨((r.getD 4 0 + (2 * r.getD 5 0 + 1) * i) % 16).toNat, by omega⟩ ⟨((r.getD 4 0 + (2 * r.getD 5 0 + 1) * j) % 16).toNat, by omega⟩ e
    have q := congrArg Fin.val q
    dsimp only at q
    obtain ⟨d, rfl⟩ : ∃ d, j = i + d := ⟨j - i, by omega⟩
    have e2 : (2 * r.getD 5 0 + 1) * ((i + d : Nat) : Int) = (2 * r.getD 5 0 + 1) * i + (2 * r.getD 5 0 + 1) * d := by rw [Int.natCast_add, Int.mul_add]
    rw [e2] at q
    generalize (2 * r.getD 5 0 + 1) * (i : Int) = c at q
    have h7 : d = 1 ∨ d = 2 ∨ d = 3 ∨ d = 4 ∨ d = 5 ∨ d = 6 ∨ d = 7 := by omega
    rcases h7 with rfl | rfl | rfl | rfl | rfl | rfl | rfl <;> omega
  · exact List.Pairwise.and_mem.mp (List.pairwise_lt_range)
theorem pool_le : ∀ u : Fin 16, (poolL.getD u.1 "").length ≤ 8 := by decide +kernel
theorem tab_nm {ns : List Int} {p : Int} {m : Nat} : ∀ k ∈ tabF ns p m, k.nm.length ≤ 8 := fun k hk => by
  unfold tabF at hk
  obtain ⟨i, hi, rfl⟩ := List.mem_map.mp hk
  have h : ∀ x : Int, (poolL.getD (x % 16).toNat "").length ≤ 8 := fun x => pool_le ⟨(x % 16).toNat, by omega⟩
  exact h _
def findK (t : List Kn) (nm : Str) : Option Kn := t.find? fun k => k.nm == nm
def lastK (nm : Str) : List Kn → D → D
  | [], d => d
  | k :: ks, d => lastK nm ks (if (k.nm == nm) = true then encK k else d)
def optK : Option Kn → D
  | some k => encK k
  | none => .non
theorem lastK_no {nm : Str} : ∀ (ks : List Kn) (d : D), nm ∉ ks.map (·.nm) → lastK nm ks d = d
  | [], d, _ => rfl
  | k :: ks, d, h => by
    have h1 : (k.nm == nm) = false := by
      simp only [beq_eq_false_iff_ne]
      intro e
      exact h (by simp [e])
    unfold lastK
    rw [h1]
    exact lastK_no ks d fun z => h (by simp at z ⊢; exact .inr z)
theorem lastK_eq {nm : Str} : ∀ (ks : List Kn), (ks.map (·.nm)).Nodup → lastK nm ks .non = optK (findK ks nm)
  | [], _ => rfl
  | k :: ks, h => by
    rw [List.map_cons, List.nodup_cons] at h
    unfold lastK findK
    rw [List.find?_cons]
    by_cases e : (k.nm == nm) = true
    · rw [if_pos e, e]
      exact lastK_no ks _ ((beq_iff_eq.mp e) ▸ h.1)
    · rw [if_neg e]
      have e' : (k.nm == nm) = false := by simpa using e
      rw [e']
      exact lastK_eq ks h.2
def outKO (t : List Kn) (nm : Str) : Out := match findK t nm with
  | some k => .ret .sh (encK k)
  | none => .exc ⟨"NoKind", none⟩
def outEO (t : List Kn) (nm : Str) (p : Int) : Out := match findK t nm with
  | some k => .ret .sh (.int (p + k.w))
  | none => .exc ⟨"NoKind", none⟩
def spKO : Spec1 := fun ds o => ∃ (t : List Kn) (nm : Str), ds = [.lst (t.map encK), .str nm] ∧ PyData.strOk nm = true ∧ (∀ k ∈ t, PyData.strOk k.nm = true) ∧ o = outKO t nm
def spNames : Spec1 := fun ds o => ∃ (t : List Kn), ds = [.lst (t.map encK)] ∧ t.length ≤ 1000000 ∧ o = .ret (.ls .sh) (.lst (t.map fun k => .str k.nm))
def spEO : Spec1 := fun ds o => ∃ (t : List Kn) (nm : Str) (p : Int), ds = [.lst (t.map encK), .tup [.int p, .str nm]] ∧ PyData.strOk nm = true ∧ (∀ k ∈ t, PyData.strOk k.nm = true) ∧ o = outEO t nm p
def outA12 (door : Int) (t : List Kn) (nm : Str) (p : Int) : Out := match findK t nm with
  | some k => .ret (.t2 .sh .sh) (.tup [.str "told", if door = 0 then encK k else .int (p + k.w)])
  | none => .ret .sh (.tup [.str "none", .int 0])
def spAsked12 : Spec1 := fun ds o => ∃ (door : Int) (t : List Kn) (nm : Str) (p : Int), ds = [.int door, .lst (t.map encK), .str nm, .int p] ∧ PyData.strOk nm = true ∧ (∀ k ∈ t, PyData.strOk k.nm = true) ∧ o = outA12 door t nm p
def spIsK : Spec1 := fun ds o => ∃ k : Kn, ds = [encK k, encK k] ∧ PyData.strOk k.nm = true ∧ o = .ret .sh (.bl true)
def spRight12 : Spec1 := fun ds o => ∃ (t : List Kn) (nm : Str) (p : Int), ds = [.lst (t.map encK), .str nm, .int p] ∧ (t.map (·.nm)).Nodup ∧ PyData.strOk nm = true ∧ (∀ k ∈ t, PyData.strOk k.nm = true) ∧ o = .ret .sh (.bl true)
structure Ex12 (S : Sg) : Prop where
  s1 : S.sub "CutError" "CutError" = some true
  s2 : S.sub "NoKind" "CutError" = some true
  s3 : S.sub "NoKind" "NoKind" = some true
  s4 : S.sub "NoKind" "NoFit" = some false
  s5 : S.sub "NoKind" "ValueError" = some true
section
variable {S : Sg}
theorem ko_l {t0 : D} {nm : Str} {Dd : Ed} (hs : PyData.strOk nm = true) : ∀ (ks : List Kn) (x : Option (Kd × D)), (∀ k ∈ ks, PyData.strOk k.nm = true) → (match findK ks nm with | some k => Dd.rt .sh (encK k) | none => ∀ x, Dd.nx [some (.sh, t0), some (.sh, .str nm), x]) →
    forW (fun D' ρ' => wpB' S b_kind_of12_1 D' ρ') (.nm 2) (ks.map encK) Dd [some (.sh, t0), some (.sh, .str nm), x]
  | [], x, _, h => by simpa [forW] using h x
  | k :: ks, x, hk, h => by
    simp only [List.map_cons, forW, bindT, List.set_cons_succ, List.set_cons_zero]
    have q1 := shaped_str hs
    have q2 := shaped_str (hk k (by simp))
    refine unf (by delta b_kind_of12_1; rfl) ?_
    unfold findK at h
    rw [List.find?_cons] at h
    by_cases e : (k.nm == nm) = true
    · rw [e] at h
      dsimp only at h
      refine stp ?_; try simp [wpS, wpO, wpE, wpEs, wpB, binW, addW, subW, mulW, fdivW, modW, powW, cmpW, iiW, idxW, slcW, revW, negW, biW, itW, bindT, bindTs, wipeE, bW, ifW, ints1, isiW, isTy, lcW, topf, kOf, als, alss, flD, flDs, flK, disj, elK, lstW, intW, eqW, fzE, mvE, wpBnil, CMul, CPow, sizeLine_eq, -List.getD_eq_getElem?_getD, encK, encK0, eqB_str, q1, q2, e]
      refine stp ?_; try simp [wpS, wpO, wpE, wpEs, wpB, binW, addW, subW, mulW, fdivW, modW, powW, cmpW, iiW, idxW, slcW, revW, negW, biW, itW, bindT, bindTs, wipeE, bW, ifW, ints1, isiW, isTy, lcW, topf, kOf, als, alss, flD, flDs, flK, disj, elK, lstW, intW, eqW, fzE, mvE, wpBnil, CMul, CPow, sizeLine_eq, -List.getD_eq_getElem?_getD]
      exact h
    · have e' : (k.nm == nm) = false := by simpa using e
      rw [e'] at h
      dsimp only at h
      have ih := ko_l (t0 := t0) hs ks (some (.sh, encK k)) (fun z hz => hk z (by simp [hz])) h
      refine stp ?_; try simp [wpS, wpO, wpE, wpEs, wpB, binW, addW, subW, mulW, fdivW, modW, powW, cmpW, iiW, idxW, slcW, revW, negW, biW, itW, bindT, bindTs, wipeE, bW, ifW, ints1, isiW, isTy, lcW, topf, kOf, als, alss, flD, flDs, flK, disj, elK, lstW, intW, eqW, fzE, mvE, wpBnil, CMul, CPow, sizeLine_eq, -List.getD_eq_getElem?_getD, encK, encK0, eqB_str, q1, q2, e']
      exact ih
theorem w_ko (hX : S.X "NoKind" = true) : ∀ ds o, spKO ds o → wpD S s_kind_of12 N_kind_of12 ds o := by
  rintro _ _ ⟨t, nm, rfl, hs, ht, rfl⟩
  refine unfD (by delta s_kind_of12; rfl) ?_
  unfold startE outKO
  refine stp ?_; try simp [wpS, wpEs, wpE, itW, als, alss, fzE]
  refine ko_l hs t _ ht ?_
  cases h : findK t nm with
  | some k => exact ⟨rfl, .inl rfl⟩
  | none =>
    intro x
    dsimp only
    refine stp ?_; try simp [wpS, wpO, wpE, wpEs, wpB, binW, addW, subW, mulW, fdivW, modW, powW, cmpW, iiW, idxW, slcW, revW, negW, biW, itW, bindT, bindTs, wipeE, bW, ifW, ints1, isiW, isTy, lcW, topf, kOf, als, alss, flD, flDs, flK, disj, elK, lstW, intW, eqW, fzE, mvE, wpBnil, CMul, CPow, sizeLine_eq, -List.getD_eq_getElem?_getD, edOf]
    exact hX
theorem w_names : ∀ ds o, spNames ds o → wpD S s_names12 N_names12 ds o := by
  rintro _ _ ⟨t, rfl, hl, rfl⟩
  refine unfD (by delta s_names12; rfl) ?_
  unfold startE
  refine stp ?_; try simp [wpS, wpO, wpE, wpEs, wpB, binW, addW, subW, mulW, fdivW, modW, powW, cmpW, iiW, idxW, slcW, revW, negW, biW, itW, bindT, bindTs, wipeE, bW, ifW, ints1, isiW, isTy, lcW, topf, kOf, als, alss, flD, flDs, flK, disj, elK, lstW, intW, eqW, fzE, mvE, wpBnil, CMul, CPow, sizeLine_eq, -List.getD_eq_getElem?_getD]
  refine lc_fmK (enc := encK) (f := fun k => some (.str k.nm)) (fun x hx k hk => ⟨_, encK0, hk⟩) (by rw [sizeLine_eq]; simp; omega) ?_
  rw [List.nil_append]
  refine ⟨?_, .inl rfl⟩
  simp
theorem w_eo (hK : S.T "kind_of" = some spKO) : ∀ ds o, spEO ds o → wpD S s_end_of12 N_end_of12 ds o := by
  rintro _ _ ⟨t, nm, p, rfl, hs, ht, rfl⟩
  refine unfD (by delta s_end_of12; rfl) ?_
  unfold startE
  refine stp ?_; try simp [wpS, wpO, wpE, wpEs, wpB, binW, addW, subW, mulW, fdivW, modW, powW, cmpW, iiW, idxW, slcW, revW, negW, biW, itW, bindT, bindTs, wipeE, bW, ifW, ints1, isiW, isTy, lcW, topf, kOf, als, alss, flD, flDs, flK, disj, elK, lstW, intW, eqW, fzE, mvE, wpBnil, CMul, CPow, sizeLine_eq, -List.getD_eq_getElem?_getD]
  refine stp ?_; try simp [wpS, wpO, wpE, wpEs, wpB, binW, addW, subW, mulW, fdivW, modW, powW, cmpW, iiW, idxW, slcW, revW, negW, biW, itW, bindT, bindTs, wipeE, bW, ifW, ints1, isiW, isTy, lcW, topf, kOf, als, alss, flD, flDs, flK, disj, elK, lstW, intW, eqW, fzE, mvE, wpBnil, CMul, CPow, sizeLine_eq, -List.getD_eq_getElem?_getD, hK]
  refine ⟨_, ⟨t, nm, rfl, hs, ht, rfl⟩, ?_⟩
  unfold outKO outEO
  cases h : findK t nm with
  | some k =>
    try simp [wpS, wpO, wpE, wpEs, wpB, binW, addW, subW, mulW, fdivW, modW, powW, cmpW, iiW, idxW, slcW, revW, negW, biW, itW, bindT, bindTs, wipeE, bW, ifW, ints1, isiW, isTy, lcW, topf, kOf, als, alss, flD, flDs, flK, disj, elK, lstW, intW, eqW, fzE, mvE, wpBnil, CMul, CPow, sizeLine_eq, -List.getD_eq_getElem?_getD, encK, encK1, edOf]
  | none =>
    try simp [wpS, wpO, wpE, wpEs, wpB, binW, addW, subW, mulW, fdivW, modW, powW, cmpW, iiW, idxW, slcW, revW, negW, biW, itW, bindT, bindTs, wipeE, bW, ifW, ints1, isiW, isTy, lcW, topf, kOf, als, alss, flD, flDs, flK, disj, elK, lstW, intW, eqW, fzE, mvE, wpBnil, CMul, CPow, sizeLine_eq, -List.getD_eq_getElem?_getD, edOf]
theorem w_asked12 (hX : Ex12 S) (hK : S.T "kind_of" = some spKO) (hE : S.T "end_of" = some spEO) : ∀ ds o, spAsked12 ds o → wpD S s__law_asked12 N__law_asked12 ds o := by
  rintro _ _ ⟨door, t, nm, p, rfl, hs, ht, rfl⟩
  refine unfD (by delta s__law_asked12; rfl) ?_
  unfold startE
  refine stp ?_
  unfold wpS
  refine ⟨hX.s1, ?_⟩
  refine unf (by delta b__law_asked12_1; rfl) ?_
  by_cases hd : door = 0
  · subst hd
    refine stp ?_; try simp [wpS, wpO, wpE, wpEs, wpB, binW, addW, subW, mulW, fdivW, modW, powW, cmpW, iiW, idxW, slcW, revW, negW, biW, itW, bindT, bindTs, wipeE, bW, ifW, ints1, isiW, isTy, lcW, topf, kOf, als, alss, flD, flDs, flK, disj, elK, lstW, intW, eqW, fzE, mvE, wpBnil, CMul, CPow, sizeLine_eq, -List.getD_eq_getElem?_getD, hK, eqB_int, shaped_int]
    refine stp ?_; try simp [wpS, wpO, wpE, wpEs, wpB, binW, addW, subW, mulW, fdivW, modW, powW, cmpW, iiW, idxW, slcW, revW, negW, biW, itW, bindT, bindTs, wipeE, bW, ifW, ints1, isiW, isTy, lcW, topf, kOf, als, alss, flD, flDs, flK, disj, elK, lstW, intW, eqW, fzE, mvE, wpBnil, CMul, CPow, sizeLine_eq, -List.getD_eq_getElem?_getD, hK]
    refine ⟨_, ⟨t, nm, rfl, hs, ht, rfl⟩, ?_⟩
    unfold outKO outA12
    cases findK t nm with
    | some k => try simp [wpS, wpO, wpE, wpEs, wpB, binW, addW, subW, mulW, fdivW, modW, powW, cmpW, iiW, idxW, slcW, revW, negW, biW, itW, bindT, bindTs, wipeE, bW, ifW, ints1, isiW, isTy, lcW, topf, kOf, als, alss, flD, flDs, flK, disj, elK, lstW, intW, eqW, fzE, mvE, wpBnil, CMul, CPow, sizeLine_eq, -List.getD_eq_getElem?_getD, encK, edOf]
    | none =>
      simp only [exW, hX.s2]
      intro a dx
      refine unf (by delta b__law_asked12_2; rfl) ?_
      refine stp ?_; try simp [wpS, wpO, wpE, wpEs, wpB, binW, addW, subW, mulW, fdivW, modW, powW, cmpW, iiW, idxW, slcW, revW, negW, biW, itW, bindT, bindTs, wipeE, bW, ifW, ints1, isiW, isTy, lcW, topf, kOf, als, alss, flD, flDs, flK, disj, elK, lstW, intW, eqW, fzE, mvE, wpBnil, CMul, CPow, sizeLine_eq, -List.getD_eq_getElem?_getD, xisW, xatW, hotS, hX.s3, hX.s4, hX.s5, edOf]
      refine stp ?_; try simp [wpS, wpO, wpE, wpEs, wpB, binW, addW, subW, mulW, fdivW, modW, powW, cmpW, iiW, idxW, slcW, revW, negW, biW, itW, bindT, bindTs, wipeE, bW, ifW, ints1, isiW, isTy, lcW, topf, kOf, als, alss, flD, flDs, flK, disj, elK, lstW, intW, eqW, fzE, mvE, wpBnil, CMul, CPow, sizeLine_eq, -List.getD_eq_getElem?_getD, edOf]
  · have hd' : (door == 0) = false := by simpa using hd
    refine stp ?_; try simp [wpS, wpO, wpE, wpEs, wpB, binW, addW, subW, mulW, fdivW, modW, powW, cmpW, iiW, idxW, slcW, revW, negW, biW, itW, bindT, bindTs, wipeE, bW, ifW, ints1, isiW, isTy, lcW, topf, kOf, als, alss, flD, flDs, flK, disj, elK, lstW, intW, eqW, fzE, mvE, wpBnil, CMul, CPow, sizeLine_eq, -List.getD_eq_getElem?_getD, eqB_int, shaped_int, hd, hd']
    refine stp ?_; try simp [wpS, wpO, wpE, wpEs, wpB, binW, addW, subW, mulW, fdivW, modW, powW, cmpW, iiW, idxW, slcW, revW, negW, biW, itW, bindT, bindTs, wipeE, bW, ifW, ints1, isiW, isTy, lcW, topf, kOf, als, alss, flD, flDs, flK, disj, elK, lstW, intW, eqW, fzE, mvE, wpBnil, CMul, CPow, sizeLine_eq, -List.getD_eq_getElem?_getD, hE]
    refine ⟨_, ⟨t, nm, p, rfl, hs, ht, rfl⟩, ?_⟩
    unfold outEO outA12
    cases findK t nm with
    | some k => try simp [wpS, wpO, wpE, wpEs, wpB, binW, addW, subW, mulW, fdivW, modW, powW, cmpW, iiW, idxW, slcW, revW, negW, biW, itW, bindT, bindTs, wipeE, bW, ifW, ints1, isiW, isTy, lcW, topf, kOf, als, alss, flD, flDs, flK, disj, elK, lstW, intW, eqW, fzE, mvE, wpBnil, CMul, CPow, sizeLine_eq, -List.getD_eq_getElem?_getD, edOf, hd]
    | none =>
      simp only [exW, hX.s2]
      intro a dx
      refine unf (by delta b__law_asked12_2; rfl) ?_
      refine stp ?_; try simp [wpS, wpO, wpE, wpEs, wpB, binW, addW, subW, mulW, fdivW, modW, powW, cmpW, iiW, idxW, slcW, revW, negW, biW, itW, bindT, bindTs, wipeE, bW, ifW, ints1, isiW, isTy, lcW, topf, kOf, als, alss, flD, flDs, flK, disj, elK, lstW, intW, eqW, fzE, mvE, wpBnil, CMul, CPow, sizeLine_eq, -List.getD_eq_getElem?_getD, xisW, xatW, hotS, hX.s3, hX.s4, hX.s5, edOf]
      refine stp ?_; try simp [wpS, wpO, wpE, wpEs, wpB, binW, addW, subW, mulW, fdivW, modW, powW, cmpW, iiW, idxW, slcW, revW, negW, biW, itW, bindT, bindTs, wipeE, bW, ifW, ints1, isiW, isTy, lcW, topf, kOf, als, alss, flD, flDs, flK, disj, elK, lstW, intW, eqW, fzE, mvE, wpBnil, CMul, CPow, sizeLine_eq, -List.getD_eq_getElem?_getD, edOf]
theorem w_isK (hW : S.T "_law_is_whole" = some spWhole) : ∀ ds o, spIsK ds o → wpD S s__law_is_kind12 N__law_is_kind12 ds o := by
  rintro _ _ ⟨k, rfl, hs, rfl⟩
  refine unfD (by delta s__law_is_kind12; rfl) ?_
  unfold startE
  have sh := shaped_of (d := encK k) (n := 1) (by simp only [encK, shB, List.all_cons, List.all_nil, Bool.and_true, hs]) (by decide)
  have e1 := eqB_refl (encK k)
  unfold encK at sh e1 ⊢
  refine stp ?_; try simp [wpS, wpO, wpE, wpEs, wpB, binW, addW, subW, mulW, fdivW, modW, powW, cmpW, iiW, idxW, slcW, revW, negW, biW, itW, bindT, bindTs, wipeE, bW, ifW, ints1, isiW, isTy, lcW, topf, kOf, als, alss, flD, flDs, flK, disj, elK, lstW, intW, eqW, fzE, mvE, wpBnil, CMul, CPow, sizeLine_eq, -List.getD_eq_getElem?_getD, encK0, eqB_int, shaped_int]
  refine stp ?_; try simp [wpS, wpO, wpE, wpEs, wpB, binW, addW, subW, mulW, fdivW, modW, powW, cmpW, iiW, idxW, slcW, revW, negW, biW, itW, bindT, bindTs, wipeE, bW, ifW, ints1, isiW, isTy, lcW, topf, kOf, als, alss, flD, flDs, flK, disj, elK, lstW, intW, eqW, fzE, mvE, wpBnil, CMul, CPow, sizeLine_eq, -List.getD_eq_getElem?_getD, hW]
  have ec : cutD [D.str k.nm, D.int k.w, D.int k.g, D.int k.a] (some 1) none = ([k.w, k.g, k.a] : List Int).map D.int := rfl
  rw [ec]
  refine lc_fmK (enc := D.int) (f := fun _ => some (.bl true)) (fun x hx k hk => ⟨_, ⟨x, rfl, rfl⟩, hk⟩) (by rw [sizeLine_eq]; simp) ?_
  refine ⟨[true, true, true], rfl, ?_⟩
  rw [if_neg (by simp)]
  refine stp ?_; try simp [wpS, wpO, wpE, wpEs, wpB, binW, addW, subW, mulW, fdivW, modW, powW, cmpW, iiW, idxW, slcW, revW, negW, biW, itW, bindT, bindTs, wipeE, bW, ifW, ints1, isiW, isTy, lcW, topf, kOf, als, alss, flD, flDs, flK, disj, elK, lstW, intW, eqW, fzE, mvE, wpBnil, CMul, CPow, sizeLine_eq, -List.getD_eq_getElem?_getD, sh, e1, edOf]
theorem due12_l {t0 x1 x2 x5 x6 x7 x8 x9 : Option (Kd × D)} {nm : Str} {Dd : Ed} (hx1 : x1 = some (.sh, .str nm)) (hs : PyData.strOk nm = true) {k5 : D} : ∀ (ks : List Kn) (d : D) (x : Option (Kd × D)), (∀ k ∈ ks, PyData.strOk k.nm = true) → (∀ x, Dd.nx [t0, x1, x2, some (.sh, lastK nm ks d), x, x5, x6, x7, x8, x9]) →
    forW (fun D' ρ' => wpB' S b__law_right12_1 D' ρ') (.nm 4) (ks.map encK) Dd [t0, x1, x2, some (.sh, d), x, x5, x6, x7, x8, x9]
  | [], d, x, _, h => by simpa [forW, lastK] using h x
  | k :: ks, d, x, hk, h => by
    subst hx1
    simp only [List.map_cons, forW, bindT, List.set_cons_succ, List.set_cons_zero]
    have q1 := shaped_str hs
    have q2 := shaped_str (hk k (by simp))
    unfold lastK at h
    refine unf (by delta b__law_right12_1; rfl) ?_
    by_cases e : (k.nm == nm) = true
    · rw [if_pos e] at h
      have ih := due12_l (k5 := k5) rfl hs ks (encK k) (some (.sh, encK k)) (fun z hz => hk z (by simp [hz])) h
      unfold encK at ih ⊢
      refine stp ?_; try simp [wpS, wpO, wpE, wpEs, wpB, binW, addW, subW, mulW, fdivW, modW, powW, cmpW, iiW, idxW, slcW, revW, negW, biW, itW, bindT, bindTs, wipeE, bW, ifW, ints1, isiW, isTy, lcW, topf, kOf, als, alss, flD, flDs, flK, disj, elK, lstW, intW, eqW, fzE, mvE, wpBnil, CMul, CPow, sizeLine_eq, -List.getD_eq_getElem?_getD, encK0, eqB_str, q1, q2, e]
      refine stp ?_; try simp [wpS, wpO, wpE, wpEs, wpB, binW, addW, subW, mulW, fdivW, modW, powW, cmpW, iiW, idxW, slcW, revW, negW, biW, itW, bindT, bindTs, wipeE, bW, ifW, ints1, isiW, isTy, lcW, topf, kOf, als, alss, flD, flDs, flK, disj, elK, lstW, intW, eqW, fzE, mvE, wpBnil, CMul, CPow, sizeLine_eq, -List.getD_eq_getElem?_getD]
      exact ih
    · have e' : (k.nm == nm) = false := by simpa using e
      rw [if_neg e] at h
      have ih := due12_l (k5 := k5) rfl hs ks d (some (.sh, encK k)) (fun z hz => hk z (by simp [hz])) h
      unfold encK at ih ⊢
      refine stp ?_; try simp [wpS, wpO, wpE, wpEs, wpB, binW, addW, subW, mulW, fdivW, modW, powW, cmpW, iiW, idxW, slcW, revW, negW, biW, itW, bindT, bindTs, wipeE, bW, ifW, ints1, isiW, isTy, lcW, topf, kOf, als, alss, flD, flDs, flK, disj, elK, lstW, intW, eqW, fzE, mvE, wpBnil, CMul, CPow, sizeLine_eq, -List.getD_eq_getElem?_getD, encK0, eqB_str, q1, q2, e']
      exact ih
theorem w_right12 (hA : S.T "_law_asked" = some spAsked12) (hK : S.T "_law_is_kind" = some spIsK) (hW : S.T "_law_is_whole" = some spWhole) : ∀ ds o, spRight12 ds o → wpD S s__law_right12 N__law_right12 ds o := by
  rintro _ _ ⟨t, nm, p, rfl, hn, hs, ht, rfl⟩
  refine unfD (by delta s__law_right12; rfl) ?_
  unfold startE
  have sh1 : shB 2 (.lst (t.map encK)) = true := by
    simp only [shB]
    refine List.all_eq_true.mpr fun x hx => ?_
    obtain ⟨k, hk, rfl⟩ := List.mem_map.mp hx
    simp only [encK, shB, List.all_cons, List.all_nil, Bool.and_true, ht k hk]
  have sh2 := shaped_of sh1 (by decide)
  have eq1 := eqB_refl (.lst (t.map encK))
  refine stp ?_; try simp [wpS, wpO, wpE, wpEs, wpB, binW, addW, subW, mulW, fdivW, modW, powW, cmpW, iiW, idxW, slcW, revW, negW, biW, itW, bindT, bindTs, wipeE, bW, ifW, ints1, isiW, isTy, lcW, topf, kOf, als, alss, flD, flDs, flK, disj, elK, lstW, intW, eqW, fzE, mvE, wpBnil, CMul, CPow, sizeLine_eq, -List.getD_eq_getElem?_getD]
  refine stp ?_; try simp [wpS, wpEs, wpE, itW, als, alss, fzE]
  refine due12_l (k5 := .non) rfl hs t .non _ ht fun x => ?_
  rw [lastK_eq t hn]
  dsimp only
  refine stp ?_; try simp [wpS, wpO, wpE, wpEs, wpB, binW, addW, subW, mulW, fdivW, modW, powW, cmpW, iiW, idxW, slcW, revW, negW, biW, itW, bindT, bindTs, wipeE, bW, ifW, ints1, isiW, isTy, lcW, topf, kOf, als, alss, flD, flDs, flK, disj, elK, lstW, intW, eqW, fzE, mvE, wpBnil, CMul, CPow, sizeLine_eq, -List.getD_eq_getElem?_getD]
  refine stp ?_; try simp [wpS, wpO, wpE, wpEs, wpB, binW, addW, subW, mulW, fdivW, modW, powW, cmpW, iiW, idxW, slcW, revW, negW, biW, itW, bindT, bindTs, wipeE, bW, ifW, ints1, isiW, isTy, lcW, topf, kOf, als, alss, flD, flDs, flK, disj, elK, lstW, intW, eqW, fzE, mvE, wpBnil, CMul, CPow, sizeLine_eq, -List.getD_eq_getElem?_getD, hA]
  refine ⟨_, ⟨0, t, nm, p, rfl, hs, ht, rfl⟩, ?_⟩
  unfold outA12
  cases hf : findK t nm with
  | none =>
    have n1 := eqB_refl (.str "none")
    have n2 : SeqAt.shaped (toP (.str "none")) = true := shaped_str (by decide +kernel)
    try simp [wpS, wpO, wpE, wpEs, wpB, binW, addW, subW, mulW, fdivW, modW, powW, cmpW, iiW, idxW, slcW, revW, negW, biW, itW, bindT, bindTs, wipeE, bW, ifW, ints1, isiW, isTy, lcW, topf, kOf, als, alss, flD, flDs, flK, disj, elK, lstW, intW, eqW, fzE, mvE, wpBnil, CMul, CPow, sizeLine_eq, -List.getD_eq_getElem?_getD, unpW, unpK, setAll, optK]
    refine stp ?_; try simp [wpS, wpO, wpE, wpEs, wpB, binW, addW, subW, mulW, fdivW, modW, powW, cmpW, iiW, idxW, slcW, revW, negW, biW, itW, bindT, bindTs, wipeE, bW, ifW, ints1, isiW, isTy, lcW, topf, kOf, als, alss, flD, flDs, flK, disj, elK, lstW, intW, eqW, fzE, mvE, wpBnil, CMul, CPow, sizeLine_eq, -List.getD_eq_getElem?_getD, hA]
    refine ⟨_, ⟨1, t, nm, p, rfl, hs, ht, rfl⟩, ?_⟩
    unfold outA12
    rw [hf]
    try simp [wpS, wpO, wpE, wpEs, wpB, binW, addW, subW, mulW, fdivW, modW, powW, cmpW, iiW, idxW, slcW, revW, negW, biW, itW, bindT, bindTs, wipeE, bW, ifW, ints1, isiW, isTy, lcW, topf, kOf, als, alss, flD, flDs, flK, disj, elK, lstW, intW, eqW, fzE, mvE, wpBnil, CMul, CPow, sizeLine_eq, -List.getD_eq_getElem?_getD, unpW, unpK, setAll]
    refine stp ?_; try simp [wpS, wpO, wpE, wpEs, wpB, binW, addW, subW, mulW, fdivW, modW, powW, cmpW, iiW, idxW, slcW, revW, negW, biW, itW, bindT, bindTs, wipeE, bW, ifW, ints1, isiW, isTy, lcW, topf, kOf, als, alss, flD, flDs, flK, disj, elK, lstW, intW, eqW, fzE, mvE, wpBnil, CMul, CPow, sizeLine_eq, -List.getD_eq_getElem?_getD, sh2, eq1]
    refine stp ?_; try simp [wpS, wpO, wpE, wpEs, wpB, binW, addW, subW, mulW, fdivW, modW, powW, cmpW, iiW, idxW, slcW, revW, negW, biW, itW, bindT, bindTs, wipeE, bW, ifW, ints1, isiW, isTy, lcW, topf, kOf, als, alss, flD, flDs, flK, disj, elK, lstW, intW, eqW, fzE, mvE, wpBnil, CMul, CPow, sizeLine_eq, -List.getD_eq_getElem?_getD, n1, n2, edOf]
    refine stp ?_; try simp [wpS, wpO, wpE, wpEs, wpB, binW, addW, subW, mulW, fdivW, modW, powW, cmpW, iiW, idxW, slcW, revW, negW, biW, itW, bindT, bindTs, wipeE, bW, ifW, ints1, isiW, isTy, lcW, topf, kOf, als, alss, flD, flDs, flK, disj, elK, lstW, intW, eqW, fzE, mvE, wpBnil, CMul, CPow, sizeLine_eq, -List.getD_eq_getElem?_getD, n1, n2, edOf]
  | some k =>
    have hk : k ∈ t := List.mem_of_find?_eq_some hf
    have n1 := eqB_refl (.str "told")
    have n2 : SeqAt.shaped (toP (.str "told")) = true := shaped_str (by decide +kernel)
    try simp [wpS, wpO, wpE, wpEs, wpB, binW, addW, subW, mulW, fdivW, modW, powW, cmpW, iiW, idxW, slcW, revW, negW, biW, itW, bindT, bindTs, wipeE, bW, ifW, ints1, isiW, isTy, lcW, topf, kOf, als, alss, flD, flDs, flK, disj, elK, lstW, intW, eqW, fzE, mvE, wpBnil, CMul, CPow, sizeLine_eq, -List.getD_eq_getElem?_getD, unpW, unpK, setAll, optK]
    refine stp ?_; try simp [wpS, wpO, wpE, wpEs, wpB, binW, addW, subW, mulW, fdivW, modW, powW, cmpW, iiW, idxW, slcW, revW, negW, biW, itW, bindT, bindTs, wipeE, bW, ifW, ints1, isiW, isTy, lcW, topf, kOf, als, alss, flD, flDs, flK, disj, elK, lstW, intW, eqW, fzE, mvE, wpBnil, CMul, CPow, sizeLine_eq, -List.getD_eq_getElem?_getD, hA]
    refine ⟨_, ⟨1, t, nm, p, rfl, hs, ht, rfl⟩, ?_⟩
    unfold outA12
    rw [hf]
    try simp [wpS, wpO, wpE, wpEs, wpB, binW, addW, subW, mulW, fdivW, modW, powW, cmpW, iiW, idxW, slcW, revW, negW, biW, itW, bindT, bindTs, wipeE, bW, ifW, ints1, isiW, isTy, lcW, topf, kOf, als, alss, flD, flDs, flK, disj, elK, lstW, intW, eqW, fzE, mvE, wpBnil, CMul, CPow, sizeLine_eq, -List.getD_eq_getElem?_getD, unpW, unpK, setAll]
    refine stp ?_; try simp [wpS, wpO, wpE, wpEs, wpB, binW, addW, subW, mulW, fdivW, modW, powW, cmpW, iiW, idxW, slcW, revW, negW, biW, itW, bindT, bindTs, wipeE, bW, ifW, ints1, isiW, isTy, lcW, topf, kOf, als, alss, flD, flDs, flK, disj, elK, lstW, intW, eqW, fzE, mvE, wpBnil, CMul, CPow, sizeLine_eq, -List.getD_eq_getElem?_getD, sh2, eq1]
    unfold encK
    refine stp ?_; try simp [wpS, wpO, wpE, wpEs, wpB, binW, addW, subW, mulW, fdivW, modW, powW, cmpW, iiW, idxW, slcW, revW, negW, biW, itW, bindT, bindTs, wipeE, bW, ifW, ints1, isiW, isTy, lcW, topf, kOf, als, alss, flD, flDs, flK, disj, elK, lstW, intW, eqW, fzE, mvE, wpBnil, CMul, CPow, sizeLine_eq, -List.getD_eq_getElem?_getD]
    refine stp ?_; try simp [wpS, wpO, wpE, wpEs, wpB, binW, addW, subW, mulW, fdivW, modW, powW, cmpW, iiW, idxW, slcW, revW, negW, biW, itW, bindT, bindTs, wipeE, bW, ifW, ints1, isiW, isTy, lcW, topf, kOf, als, alss, flD, flDs, flK, disj, elK, lstW, intW, eqW, fzE, mvE, wpBnil, CMul, CPow, sizeLine_eq, -List.getD_eq_getElem?_getD, n1, n2, hK]
    refine ⟨_, ⟨k, rfl, ht k hk, rfl⟩, ?_⟩
    try simp [wpS, wpO, wpE, wpEs, wpB, binW, addW, subW, mulW, fdivW, modW, powW, cmpW, iiW, idxW, slcW, revW, negW, biW, itW, bindT, bindTs, wipeE, bW, ifW, ints1, isiW, isTy, lcW, topf, kOf, als, alss, flD, flDs, flK, disj, elK, lstW, intW, eqW, fzE, mvE, wpBnil, CMul, CPow, sizeLine_eq, -List.getD_eq_getElem?_getD, n1, n2]
    refine stp ?_; try simp [wpS, wpO, wpE, wpEs, wpB, binW, addW, subW, mulW, fdivW, modW, powW, cmpW, iiW, idxW, slcW, revW, negW, biW, itW, bindT, bindTs, wipeE, bW, ifW, ints1, isiW, isTy, lcW, topf, kOf, als, alss, flD, flDs, flK, disj, elK, lstW, intW, eqW, fzE, mvE, wpBnil, CMul, CPow, sizeLine_eq, -List.getD_eq_getElem?_getD, hW, encK1]
    refine ⟨_, ⟨_, rfl, rfl⟩, ?_⟩
    try simp [wpS, wpO, wpE, wpEs, wpB, binW, addW, subW, mulW, fdivW, modW, powW, cmpW, iiW, idxW, slcW, revW, negW, biW, itW, bindT, bindTs, wipeE, bW, ifW, ints1, isiW, isTy, lcW, topf, kOf, als, alss, flD, flDs, flK, disj, elK, lstW, intW, eqW, fzE, mvE, wpBnil, CMul, CPow, sizeLine_eq, -List.getD_eq_getElem?_getD, shaped_int, eqB_int, edOf]
/-! the texts that are asked for -/
def sgn1 : Str := " !\"#$&'()*+,-./0123456789:;<=>?@ABCDEFGHIJKLMNOPQRSTUVWXYZ"
def sgn2 : Str := "[\\]^_`abcdefghijklmnopqrstuvwxyz{|}~"
def sgn : Str := sgn1 ++ sgn2
def sgA (i : Int) : Str := ⟨#[sgn.cps.toList.getD i.toNat 0]⟩
theorem sgn_len : sgn.cps.toList.length = 94 := by decide +kernel
theorem sgn_at {i : Int} (h0 : 0 ≤ i) (h1 : i < 94) : atI sgn.cps.toList i = some (sgn.cps.toList.getD i.toNat 0) := by
  have hl := sgn_len
  rw [at_nn h0 (by omega)]
  have : i.toNat < sgn.cps.toList.length := by omega
  simp [List.getD, List.getElem?_eq_getElem this]
def txO (b : Int) (n : Str) : List Str := [cutS n none (some (-1)), n ++ "a", Txt.upper n, n ++ sgA (b % 94), sgA (b / 94 % 94) ++ cutS n (some 1) none]
def tx8 : List Str := ["", "a", "roll", "by", "q", "aaaaaaaaa", "0", " "]
def txF (t : List Kn) (a b : Int) : List Str := t.map (·.nm) ++ (t.map (·.nm)).flatMap (txO b) ++ cutD tx8 none (some (2 + a))
def spTexts : Spec1 := fun ds o => ∃ (t : List Kn) (a b : Int), ds = [.lst (t.map encK), .int a, .int b] ∧ t.length ≤ 1000 ∧ 0 ≤ b ∧ (∀ k ∈ t, k.nm.length ≤ 8) ∧ o = .ret (.ls .sh) (.lst ((txF t a b).map .str))
theorem texts_l {x0 x1 x4 x7 : Option (Kd × D)} {b : Int} (hb : 0 ≤ b) {Dd : Ed} : ∀ (ns acc : List Str) (x : Option (Kd × D)), (∀ n ∈ ns, n.length ≤ 8) → acc.length + 5 * ns.length ≤ 100000 → (∀ x, Dd.nx [x0, x1, some (.sh, .int b), some (.sh, .str sgn), x4, some (.ls .sh, .lst ((acc ++ ns.flatMap (txO b)).map .str)), x, x7]) →
    forW (fun D' ρ' => wpB' S b__law_texts12_1 D' ρ') (.nm 6) (ns.map .str) Dd [x0, x1, some (.sh, .int b), some (.sh, .str sgn), x4, some (.ls .sh, .lst (acc.map .str)), x, x7]
  | [], acc, x, _, _, h => by simpa [forW] using h x
  | n :: ns, acc, x, hn, hl, h => by
    have ih := texts_l (x0 := x0) (x1 := x1) (x4 := x4) (x7 := x7) hb (Dd := Dd) ns (acc ++ txO b n) (some (.sh, .str n)) (fun z hz => hn z (by simp [hz])) (by simp [txO] at hl ⊢; omega) (by simpa using h)
    have h8 := hn n (by simp)
    have c1 := sgn_at (i := b % 94) (by omega) (by omega)
    have c2 := sgn_at (i := b / 94 % 94) (by omega) (by omega)
    have l1 : sgn.length ≤ 16777216 := by decide +kernel
    simp only [List.map_cons, forW, bindT, List.set_cons_succ, List.set_cons_zero]
    refine unf (by delta b__law_texts12_1; rfl) ?_
    refine stp ?_; try simp [wpS, wpO, wpE, wpEs, wpB, binW, addW, subW, mulW, fdivW, modW, powW, cmpW, iiW, idxW, slcW, revW, negW, biW, itW, bindT, bindTs, wipeE, bW, ifW, ints1, isiW, isTy, lcW, topf, kOf, als, alss, flD, flDs, flK, disj, elK, lstW, intW, eqW, fzE, mvE, wpBnil, CMul, CPow, sizeLine_eq, -List.getD_eq_getElem?_getD, uppW, c1, c2, l1]
    have la : ∀ c : Nat, (⟨#[c]⟩ : Str).length = 1 := fun c => rfl
    have la2 : (Str.ofString "a").length = 1 := rfl
    refine ⟨by omega, by omega, by omega, by rw [la]; omega, by simp at hl; omega, ?_⟩
    refine stp ?_; try simp [wpS, wpO, wpE, wpEs, wpB, binW, addW, subW, mulW, fdivW, modW, powW, cmpW, iiW, idxW, slcW, revW, negW, biW, itW, bindT, bindTs, wipeE, bW, ifW, ints1, isiW, isTy, lcW, topf, kOf, als, alss, flD, flDs, flK, disj, elK, lstW, intW, eqW, fzE, mvE, wpBnil, CMul, CPow, sizeLine_eq, -List.getD_eq_getElem?_getD, uppW, c1, c2, l1]
    have lc := cutS_length n (some 1) none
    refine ⟨⟨by decide, by decide +kernel⟩, by omega, by rw [la]; omega, by simp at hl; omega, ?_⟩
    have e : (acc ++ txO b n).map D.str = acc.map D.str ++ [D.str (cutS n none (some (-1))), D.str (n ++ Str.ofString "a"), D.str (Txt.upper n), D.str (n ++ { cps := #[sgn.cps.toList.getD (b % 94).toNat 0] }), D.str ({ cps := #[sgn.cps.toList.getD (b / 94 % 94).toNat 0] } ++ cutS n (some 1) none)] := by
      rw [List.map_append]
      rfl
    rw [e] at ih
    exact ih
theorem w_texts : ∀ ds o, spTexts ds o → wpD S s__law_texts12 N__law_texts12 ds o := by
  rintro _ _ ⟨t, a, b, rfl, hl, hb, hn, rfl⟩
  refine unfD (by delta s__law_texts12; rfl) ?_
  unfold startE
  have l1 : sgn1.length + sgn2.length ≤ 16777216 := by decide +kernel
  refine stp ?_; try simp [wpS, wpO, wpE, wpEs, wpB, binW, addW, subW, mulW, fdivW, modW, powW, cmpW, iiW, idxW, slcW, revW, negW, biW, itW, bindT, bindTs, wipeE, bW, ifW, ints1, isiW, isTy, lcW, topf, kOf, als, alss, flD, flDs, flK, disj, elK, lstW, intW, eqW, fzE, mvE, wpBnil, CMul, CPow, sizeLine_eq, -List.getD_eq_getElem?_getD]
  refine stp ?_; try simp [wpS, wpO, wpE, binW, addW, topf, kOf, flK, flD, fOr, disj, mvE, fzE, als]
  refine ⟨l1, ?_⟩
  refine stp ?_; try simp [wpS, wpO, wpE, wpEs, wpB, binW, addW, subW, mulW, fdivW, modW, powW, cmpW, iiW, idxW, slcW, revW, negW, biW, itW, bindT, bindTs, wipeE, bW, ifW, ints1, isiW, isTy, lcW, topf, kOf, als, alss, flD, flDs, flK, disj, elK, lstW, intW, eqW, fzE, mvE, wpBnil, CMul, CPow, sizeLine_eq, -List.getD_eq_getElem?_getD]
  refine lc_fmK (enc := encK) (f := fun k => some (.str k.nm)) (fun x hx k hk => ⟨_, encK0, hk⟩) (by rw [sizeLine_eq]; simp; omega) ?_
  rw [List.nil_append]
  have en : (t.filterMap fun k => some (D.str k.nm)) = (t.map (·.nm)).map D.str := by simp
  rw [en]
  have fl : flDs ((t.map (·.nm)).map D.str) = true := by
    generalize t.map (·.nm) = l
    induction l with
    | nil => rfl
    | cons x l ih => simp [flDs, flD, ih]
  have fl2 : ((t.map (·.nm)).map D.str).all (flK .sh) = true := List.all_eq_true.mpr fun x hx => by
    obtain ⟨i, _, rfl⟩ := List.mem_map.mp hx
    rfl
  have fl3 : ((t.map (·.nm)).map D.str).all flD = true := List.all_eq_true.mpr fun x hx => by
    obtain ⟨i, _, rfl⟩ := List.mem_map.mp hx
    rfl
  generalize hns : t.map (·.nm) = ns at fl fl2 fl3 ⊢
  have hq : ∀ n ∈ ns, n.length ≤ 8 := fun n hm => by
    rw [← hns] at hm
    obtain ⟨k, hk, rfl⟩ := List.mem_map.mp hm
    exact hn k hk
  have hnl : ns.length ≤ 1000 := by rw [← hns, List.length_map]; exact hl
  have fl5 : (txO b "").length = 5 := rfl
  refine stp ?_; try simp [wpS, wpO, wpE, wpEs, wpB, binW, addW, subW, mulW, fdivW, modW, powW, cmpW, iiW, idxW, slcW, revW, negW, biW, itW, bindT, bindTs, wipeE, bW, ifW, ints1, isiW, isTy, lcW, topf, kOf, als, alss, flD, flDs, flK, disj, elK, lstW, intW, eqW, fzE, mvE, wpBnil, CMul, CPow, sizeLine_eq, -List.getD_eq_getElem?_getD, fl, fl2, fl3]
  refine stp ?_; try simp [wpS, wpO, wpE, wpEs, wpB, binW, addW, subW, mulW, fdivW, modW, powW, cmpW, iiW, idxW, slcW, revW, negW, biW, itW, bindT, bindTs, wipeE, bW, ifW, ints1, isiW, isTy, lcW, topf, kOf, als, alss, flD, flDs, flK, disj, elK, lstW, intW, eqW, fzE, mvE, wpBnil, CMul, CPow, sizeLine_eq, -List.getD_eq_getElem?_getD, fl, fl2, fl3]
  refine texts_l hb ns ns _ hq (by omega) fun x => ?_
  dsimp only
  refine stp ?_; try simp [wpS, wpO, wpE, wpEs, wpB, binW, addW, subW, mulW, fdivW, modW, powW, cmpW, iiW, idxW, slcW, revW, negW, biW, itW, bindT, bindTs, wipeE, bW, ifW, ints1, isiW, isTy, lcW, topf, kOf, als, alss, flD, flDs, flK, disj, elK, lstW, intW, eqW, fzE, mvE, wpBnil, CMul, CPow, sizeLine_eq, -List.getD_eq_getElem?_getD]
  have ec : cutD [D.str (Str.ofString ""), D.str (Str.ofString "a"), D.str (Str.ofString "roll"), D.str (Str.ofString "by"), D.str (Str.ofString "q"), D.str (Str.ofString "aaaaaaaaa"), D.str (Str.ofString "0"), D.str (Str.ofString " ")] none (some (2 + a)) = (cutD tx8 none (some (2 + a))).map D.str := cutD_mp (f := D.str) (xs := tx8)
  have el : (cutD tx8 none (some (2 + a))).length ≤ 8 := by
    unfold cutD
    rw [List.length_take, List.length_drop]
    have : tx8.length = 8 := rfl
    omega
  have es : ∀ l : List Str, (l.map fun a => (txO b a).length).sum = 5 * l.length := fun l => by
    induction l with
    | nil => rfl
    | cons x l ih =>
      have : (txO b x).length = 5 := rfl
      simp only [List.map_cons, List.sum_cons, ih, List.length_cons, this]
      omega
  rw [ec, es, List.length_map]
  refine ⟨by omega, ?_⟩
  unfold txF
  rw [hns]
  refine ⟨?_, .inl rfl⟩
  simp only [List.map_append, List.append_assoc]
/-! .. all well made -/
theorem sOk_app {a b : Str} (ha : PyData.strOk a = true) (hb : PyData.strOk b = true) : PyData.strOk (a ++ b) = true := by
  unfold PyData.strOk at ha hb ⊢
  show ((a.cps ++ b.cps).all _) = true
  rw [Array.all_append, ha, hb]
  rfl
theorem sOk_iff {a : Str} : PyData.strOk a = true ↔ ∀ c ∈ a.cps.toList, c < 0x110000 := by
  unfold PyData.strOk
  rw [← Array.all_toList, List.all_eq_true]
  simp
theorem sOk_cut {a : Str} {lo hi : Option Int} (ha : PyData.strOk a = true) : PyData.strOk (cutS a lo hi) = true := by
  rw [sOk_iff] at ha ⊢
  intro c hc
  unfold cutS at hc
  exact ha c (List.mem_of_mem_drop (List.mem_of_mem_take hc))
theorem sOk_sg : ∀ j : Nat, PyData.strOk ⟨#[sgn.cps.toList.getD j 0]⟩ = true := fun j => by
  have all : ∀ x ∈ sgn.cps.toList, x < 0x110000 := by decide +kernel
  rw [sOk_iff]
  intro c hc
  have hc : c = sgn.cps.toList.getD j 0 := by simpa using hc
  by_cases h : j < sgn.cps.toList.length
  · have e : sgn.cps.toList.getD j 0 = sgn.cps.toList[j] := by
      simp only [List.getD]
      rw [List.getElem?_eq_getElem h]
      rfl
    rw [hc, e]
    exact all _ (List.getElem_mem h)
  · have e : sgn.cps.toList.getD j 0 = 0 := by
      simp only [List.getD]
      rw [List.getElem?_eq_none (by omega)]
      rfl
    rw [hc, e]
    decide
theorem pool_up : ∀ x ∈ poolL, PyData.strOk (Txt.upper x) = true ∧ PyData.strOk x = true ∧ x.length ≤ 8 := by decide +kernel
theorem tab_in {ns : List Int} {p : Int} {m : Nat} : ∀ k ∈ tabF ns p m, k.nm ∈ poolL := fun k hk => by
  unfold tabF at hk
  obtain ⟨i, hi, rfl⟩ := List.mem_map.mp hk
  have h : ∀ x : Int, poolL.getD (x % 16).toNat "" ∈ poolL := fun x => by
    have hx : (x % 16).toNat < poolL.length := by
      have : poolL.length = 16 := rfl
      omega
    have e : poolL.getD (x % 16).toNat "" = poolL[(x % 16).toNat] := by simp [hx]
    rw [e]
    exact List.getElem_mem hx
  exact h _
theorem txF_ok {t : List Kn} {a b : Int} (h : ∀ k ∈ t, k.nm ∈ poolL) : ∀ s ∈ txF t a b, PyData.strOk s = true := by
  intro s hs
  unfold txF at hs
  simp only [List.mem_append, List.mem_flatMap] at hs
  have hn : ∀ n ∈ t.map (·.nm), n ∈ poolL := fun n hm => by
    obtain ⟨k, hk, rfl⟩ := List.mem_map.mp hm
    exact h k hk
  rcases hs with (hs | ⟨n, hm, hs⟩) | hs
  · exact (pool_up _ (hn s hs)).2.1
  · have q := pool_up _ (hn n hm)
    unfold txO at hs
    simp only [List.mem_cons, List.not_mem_nil, or_false] at hs
    rcases hs with rfl | rfl | rfl | rfl | rfl
    · exact sOk_cut q.2.1
    · exact sOk_app q.2.1 (by decide +kernel)
    · exact q.1
    · exact sOk_app q.2.1 (sOk_sg _)
    · exact sOk_app (sOk_sg _) (sOk_cut q.2.1)
  · have all : ∀ x ∈ tx8, PyData.strOk x = true := by decide +kernel
    unfold cutD at hs
    exact all _ (List.mem_of_mem_drop (List.mem_of_mem_take hs))
theorem law12_l1 (hR : S.T "_law_right" = some spRight12) {t : List Kn} (hn : (t.map (·.nm)).Nodup) (ht : ∀ k ∈ t, PyData.strOk k.nm = true) {p : Int} {x0 x2 x4 x5 x6 x8 : Option (Kd × D)} {k1 k3 : Kd} {Dd : Ed} (hD : ∀ x7, Dd.nx [x0, some (k1, .lst (t.map encK)), x2, some (k3, .int p), x4, x5, x6, x7, x8]) : ∀ (ss : List Str) (x7 : Option (Kd × D)), (∀ s ∈ ss, PyData.strOk s = true) →
    forW (fun D' ρ' => wpB' S b_law12_1 D' ρ') (.nm 7) (ss.map .str) Dd [x0, some (k1, .lst (t.map encK)), x2, some (k3, .int p), x4, x5, x6, x7, x8]
  | [], x7, _ => by simpa [forW] using hD x7
  | s :: ss, x7, h => by
    have ih := law12_l1 hR hn ht hD ss (some (.sh, .str s)) fun z hz => h z (by simp [hz])
    simp only [List.map_cons, forW, bindT, List.set_cons_succ, List.set_cons_zero]
    refine unf (by delta b_law12_1; rfl) ?_
    refine stp ?_; try simp [wpS, wpO, wpE, wpEs, wpB, binW, addW, subW, mulW, fdivW, modW, powW, cmpW, iiW, idxW, slcW, revW, negW, biW, itW, bindT, bindTs, wipeE, bW, ifW, ints1, isiW, isTy, lcW, topf, kOf, als, alss, flD, flDs, flK, disj, elK, lstW, intW, eqW, fzE, mvE, wpBnil, CMul, CPow, sizeLine_eq, -List.getD_eq_getElem?_getD, hR]
    refine ⟨_, ⟨t, s, p, rfl, hn, h s (by simp), ht, rfl⟩, ?_⟩
    try simp [wpS, wpO, wpE, wpEs, wpB, binW, addW, subW, mulW, fdivW, modW, powW, cmpW, iiW, idxW, slcW, revW, negW, biW, itW, bindT, bindTs, wipeE, bW, ifW, ints1, isiW, isTy, lcW, topf, kOf, als, alss, flD, flDs, flK, disj, elK, lstW, intW, eqW, fzE, mvE, wpBnil, CMul, CPow, sizeLine_eq, -List.getD_eq_getElem?_getD]
    exact ih
theorem law12_l2 (hR : S.T "_law_right" = some spRight12) (hN : S.T "names" = some spNames) (hT : S.T "_law_texts" = some spTexts) {t : List Kn} (hn : (t.map (·.nm)).Nodup) (hp : ∀ k ∈ t, k.nm ∈ poolL) (hl : t.length ≤ 1000) {p : Int} {x0 : Option (Kd × D)} {k3 : Kd} {r : List Int} (r0 : atI (r.map D.int) 0 = some (.int (r.getD 0 0))) (r3 : atI (r.map D.int) 3 = some (.int (r.getD 3 0))) (r3' : 0 ≤ r.getD 3 0) {Dd : Ed} (hD : ∀ k1 k2 x4 x5 x6 x7 x8, Dd.nx [x0, some (k1, .lst (t.map encK)), some (k2, .lst (r.map .int)), some (k3, .int p), x4, x5, x6, x7, x8]) : ∀ (is : List D) (k1 k2 : Kd) (x4 x5 x6 x7 x8 : Option (Kd × D)),
    forW (fun D' ρ' => wpB' S b_law12_2 D' ρ') (.nm 4) is Dd [x0, some (k1, .lst (t.map encK)), some (k2, .lst (r.map .int)), some (k3, .int p), x4, x5, x6, x7, x8]
  | [], k1, k2, x4, x5, x6, x7, x8 => by simpa [forW] using hD k1 k2 x4 x5 x6 x7 x8
  | i :: is, k1, k2, x4, x5, x6, x7, x8 => by
    have ih := law12_l2 hR hN hT hn hp hl r0 r3 r3' hD is
    have ht : ∀ k ∈ t, PyData.strOk k.nm = true := fun k hk => (pool_up _ (hp k hk)).2.1
    have sh1 : shB 2 (.lst (t.map encK)) = true := by
      simp only [shB]
      refine List.all_eq_true.mpr fun x hx => ?_
      obtain ⟨k, hk, rfl⟩ := List.mem_map.mp hx
      simp only [encK, shB, List.all_cons, List.all_nil, Bool.and_true, ht k hk]
    have sh2 := shaped_of sh1 (by decide)
    have eq1 := eqB_refl (.lst (t.map encK))
    have sh3 : shB 2 (.lst (t.map fun k => D.str k.nm)) = true := by
      simp only [shB]
      refine List.all_eq_true.mpr fun x hx => ?_
      obtain ⟨k, hk, rfl⟩ := List.mem_map.mp hx
      simp only [shB, ht k hk]
    have sh4 := shaped_of sh3 (by decide)
    have eq2 := eqB_refl (.lst (t.map fun k => D.str k.nm))
    have en : (t.filterMap fun k => some (D.str k.nm)) = t.map fun k => D.str k.nm := by simp
    simp only [forW, bindT, List.set_cons_succ, List.set_cons_zero]
    refine unf (by delta b_law12_2; rfl) ?_
    have flc : t.all ((fun x => flD x) ∘ encK) = true := List.all_eq_true.mpr fun x hx => rfl
    have fln : t.all ((fun x => flD x) ∘ fun k => D.str k.nm) = true := List.all_eq_true.mpr fun x hx => rfl
    refine stp ?_; try simp [wpS, wpO, wpE, wpEs, wpB, binW, addW, subW, mulW, fdivW, modW, powW, cmpW, iiW, idxW, slcW, revW, negW, biW, itW, bindT, bindTs, wipeE, bW, ifW, ints1, isiW, isTy, lcW, topf, kOf, als, alss, flD, flDs, flK, disj, elK, lstW, intW, eqW, fzE, mvE, wpBnil, CMul, CPow, sizeLine_eq, -List.getD_eq_getElem?_getD, flc]
    refine stp ?_; try simp [wpS, wpO, wpE, wpEs, wpB, binW, addW, subW, mulW, fdivW, modW, powW, cmpW, iiW, idxW, slcW, revW, negW, biW, itW, bindT, bindTs, wipeE, bW, ifW, ints1, isiW, isTy, lcW, topf, kOf, als, alss, flD, flDs, flK, disj, elK, lstW, intW, eqW, fzE, mvE, wpBnil, CMul, CPow, sizeLine_eq, -List.getD_eq_getElem?_getD, hN]
    refine ⟨_, ⟨t, rfl, by omega, rfl⟩, ?_⟩
    try simp [wpS, wpO, wpE, wpEs, wpB, binW, addW, subW, mulW, fdivW, modW, powW, cmpW, iiW, idxW, slcW, revW, negW, biW, itW, bindT, bindTs, wipeE, bW, ifW, ints1, isiW, isTy, lcW, topf, kOf, als, alss, flD, flDs, flK, disj, elK, lstW, intW, eqW, fzE, mvE, wpBnil, CMul, CPow, sizeLine_eq, -List.getD_eq_getElem?_getD, fln]
    refine stp ?_; try simp [wpS, wpO, wpE, wpEs, wpB, binW, addW, subW, mulW, fdivW, modW, powW, cmpW, iiW, idxW, slcW, revW, negW, biW, itW, bindT, bindTs, wipeE, bW, ifW, ints1, isiW, isTy, lcW, topf, kOf, als, alss, flD, flDs, flK, disj, elK, lstW, intW, eqW, fzE, mvE, wpBnil, CMul, CPow, sizeLine_eq, -List.getD_eq_getElem?_getD, sh2, eq1]
    refine lc_fmK (enc := encK) (f := fun k => some (.str k.nm)) (fun x hx k hk => ⟨_, encK0, hk⟩) (by rw [sizeLine_eq]; simp; omega) ?_
    rw [List.nil_append, en]
    try simp [wpS, wpO, wpE, wpEs, wpB, binW, addW, subW, mulW, fdivW, modW, powW, cmpW, iiW, idxW, slcW, revW, negW, biW, itW, bindT, bindTs, wipeE, bW, ifW, ints1, isiW, isTy, lcW, topf, kOf, als, alss, flD, flDs, flK, disj, elK, lstW, intW, eqW, fzE, mvE, wpBnil, CMul, CPow, sizeLine_eq, -List.getD_eq_getElem?_getD, sh4, eq2]
    refine stp ?_; try simp [wpS, wpO, wpE, wpEs, wpB, binW, addW, subW, mulW, fdivW, modW, powW, cmpW, iiW, idxW, slcW, revW, negW, biW, itW, bindT, bindTs, wipeE, bW, ifW, ints1, isiW, isTy, lcW, topf, kOf, als, alss, flD, flDs, flK, disj, elK, lstW, intW, eqW, fzE, mvE, wpBnil, CMul, CPow, sizeLine_eq, -List.getD_eq_getElem?_getD]
    refine ⟨by omega, ?_⟩
    refine stp ?_; try simp [wpS, wpEs, wpE, itW, als, alss, fzE, hT, r0, r3, idxW, -List.getD_eq_getElem?_getD]
    refine ⟨_, ⟨t, _, _, rfl, hl, r3', fun k hk => (pool_up _ (hp k hk)).2.2, rfl⟩, ?_⟩
    try simp [wpS, wpO, wpE, wpEs, wpB, binW, addW, subW, mulW, fdivW, modW, powW, cmpW, iiW, idxW, slcW, revW, negW, biW, itW, bindT, bindTs, wipeE, bW, ifW, ints1, isiW, isTy, lcW, topf, kOf, als, alss, flD, flDs, flK, disj, elK, lstW, intW, eqW, fzE, mvE, wpBnil, CMul, CPow, sizeLine_eq, -List.getD_eq_getElem?_getD]
    refine law12_l1 hR hn ht (fun x7 => ?_) _ _ (txF_ok hp)
    dsimp only
    try simp [wpS, wpO, wpE, wpEs, wpB, binW, addW, subW, mulW, fdivW, modW, powW, cmpW, iiW, idxW, slcW, revW, negW, biW, itW, bindT, bindTs, wipeE, bW, ifW, ints1, isiW, isTy, lcW, topf, kOf, als, alss, flD, flDs, flK, disj, elK, lstW, intW, eqW, fzE, mvE, wpBnil, CMul, CPow, sizeLine_eq, -List.getD_eq_getElem?_getD]
    exact ih _ _ _ _ _ _ _
def ms12 : List Int := [7, 3, 206, 10 ^ 59]
theorem w_law12 (hB : S.T "_law_table" = some spTab) (hW : S.T "_law_row" = some spRow) (hR : S.T "_law_right" = some spRight12) (hN : S.T "names" = some spNames) (hT : S.T "_law_texts" = some spTexts) : ∀ ds o, lawSp 63 ds o → wpD S s_law12 N_law12 ds o := by
  rintro _ _ ⟨ns, hn, rfl, rfl⟩
  refine unfD (by delta s_law12; rfl) ?_
  unfold startE
  have hms : szOk ms12 := by unfold szOk ms12; decide +kernel
  have r0 := rowF_lt (ns := ns) (p := 1) (j := 0) hms (by decide)
  have r1 := rowF_lt (ns := ns) (p := 1) (j := 1) hms (by decide)
  have r2 := rowF_lt (ns := ns) (p := 1) (j := 2) hms (by decide)
  have r3 := rowF_lt (ns := ns) (p := 1) (j := 3) hms (by decide)
  have rl : (rowF ns 1 ms12).length = 4 := by rw [rowF_len]; rfl
  have x0 : atI ((rowF ns 1 ms12).map D.int) 0 = some (.int ((rowF ns 1 ms12).getD 0 0)) := at_int (by decide) (by rw [rl]; decide)
  have x1 : atI ((rowF ns 1 ms12).map D.int) 1 = some (.int ((rowF ns 1 ms12).getD 1 0)) := at_int (by decide) (by rw [rl]; decide)
  have x2 : atI ((rowF ns 1 ms12).map D.int) 2 = some (.int ((rowF ns 1 ms12).getD 2 0)) := at_int (by decide) (by rw [rl]; decide)
  have x3 : atI ((rowF ns 1 ms12).map D.int) 3 = some (.int ((rowF ns 1 ms12).getD 3 0)) := at_int (by decide) (by rw [rl]; decide)
  refine stp ?_; try simp [wpS, wpO, wpE, wpEs, wpB, binW, addW, subW, mulW, fdivW, modW, powW, cmpW, iiW, idxW, slcW, revW, negW, biW, itW, bindT, bindTs, wipeE, bW, ifW, ints1, isiW, isTy, lcW, topf, kOf, als, alss, flD, flDs, flK, disj, elK, lstW, intW, eqW, fzE, mvE, wpBnil, CMul, CPow, sizeLine_eq, -List.getD_eq_getElem?_getD, hB]
  refine ⟨_, ⟨ns, 0, 8, rfl, by decide, by decide, rfl⟩, ?_⟩
  have hl := (tab_ok (ns := ns) (p := 0) (m := 8) (by decide)).2
  have hnd := tab_nd (ns := ns) (p := 0) (m := 8) (by decide)
  have hin := tab_in (ns := ns) (p := 0) (m := 8)
  generalize tabF ns 0 8 = t at hl hnd hin ⊢
  try simp [wpS, wpO, wpE, wpEs, wpB, binW, addW, subW, mulW, fdivW, modW, powW, cmpW, iiW, idxW, slcW, revW, negW, biW, itW, bindT, bindTs, wipeE, bW, ifW, ints1, isiW, isTy, lcW, topf, kOf, als, alss, flD, flDs, flK, disj, elK, lstW, intW, eqW, fzE, mvE, wpBnil, CMul, CPow, sizeLine_eq, -List.getD_eq_getElem?_getD]
  refine stp ?_; try simp [wpS, wpO, wpE, wpEs, wpB, binW, addW, subW, mulW, fdivW, modW, powW, cmpW, iiW, idxW, slcW, revW, negW, biW, itW, bindT, bindTs, wipeE, bW, ifW, ints1, isiW, isTy, lcW, topf, kOf, als, alss, flD, flDs, flK, disj, elK, lstW, intW, eqW, fzE, mvE, wpBnil, CMul, CPow, sizeLine_eq, -List.getD_eq_getElem?_getD, hW]
  refine ⟨_, ⟨ns, 1, ms12, rfl, by decide, hms, by decide, rfl⟩, ?_⟩
  try simp [wpS, wpO, wpE, wpEs, wpB, binW, addW, subW, mulW, fdivW, modW, powW, cmpW, iiW, idxW, slcW, revW, negW, biW, itW, bindT, bindTs, wipeE, bW, ifW, ints1, isiW, isTy, lcW, topf, kOf, als, alss, flD, flDs, flK, disj, elK, lstW, intW, eqW, fzE, mvE, wpBnil, CMul, CPow, sizeLine_eq, -List.getD_eq_getElem?_getD]
  have fin : ∀ p : Int, wpB' S (s_law12.drop 3) (edOf (.ret .sh (.bl true))) [some (.sh, .scr ns), some (.ls .sh, .lst (t.map encK)), some (.ls .sh, .lst ((rowF ns 1 ms12).map .int)), some (.sh, .int p), none, none, none, none, none] := fun p => by
    refine unf (by delta s_law12; rfl) ?_
    refine stp ?_; try simp [wpS, wpEs, wpE, itW, als, alss, fzE]
    refine law12_l2 hR hN hT hnd hin (by omega) x0 x3 r3.1 (fun k1 k2 x4 x5 x6 x7 x8 => ?_) _ _ _ _ _ _ _ _
    dsimp only
    refine stp ?_; try simp [wpS, wpO, wpE, wpEs, wpB, binW, addW, subW, mulW, fdivW, modW, powW, cmpW, iiW, idxW, slcW, revW, negW, biW, itW, bindT, bindTs, wipeE, bW, ifW, ints1, isiW, isTy, lcW, topf, kOf, als, alss, flD, flDs, flK, disj, elK, lstW, intW, eqW, fzE, mvE, wpBnil, CMul, CPow, sizeLine_eq, -List.getD_eq_getElem?_getD, edOf]
  have hv : (rowF ns 1 ms12).getD 1 0 = 0 ∨ (rowF ns 1 ms12).getD 1 0 = 1 ∨ (rowF ns 1 ms12).getD 1 0 = 2 := by
    have e : ms12.getD 1 0 = 3 := rfl
    rw [e] at r1
    omega
  generalize rowF ns 1 ms12 = r at *
  have y0 : ∀ a b c : D, atI [a, b, c] 0 = some a := fun a b c => rfl
  have y1 : ∀ a b c : D, atI [a, b, c] 1 = some b := fun a b c => rfl
  have y2 : ∀ a b c : D, atI [a, b, c] 2 = some c := fun a b c => rfl
  rcases hv with h | h | h
  · rw [h] at x1
    refine stp ?_; try simp [wpS, wpO, wpE, wpEs, wpB, binW, addW, subW, mulW, fdivW, modW, powW, cmpW, iiW, idxW, slcW, revW, negW, biW, itW, bindT, bindTs, wipeE, bW, ifW, ints1, isiW, isTy, lcW, topf, kOf, als, alss, flD, flDs, flK, disj, elK, lstW, intW, eqW, fzE, mvE, wpBnil, CMul, CPow, sizeLine_eq, -List.getD_eq_getElem?_getD, x1, x2, x3, y0, y1, y2]
    exact fin _
  · rw [h] at x1
    refine stp ?_; try simp [wpS, wpO, wpE, wpEs, wpB, binW, addW, subW, mulW, fdivW, modW, powW, cmpW, iiW, idxW, slcW, revW, negW, biW, itW, bindT, bindTs, wipeE, bW, ifW, ints1, isiW, isTy, lcW, topf, kOf, als, alss, flD, flDs, flK, disj, elK, lstW, intW, eqW, fzE, mvE, wpBnil, CMul, CPow, sizeLine_eq, -List.getD_eq_getElem?_getD, x1, x2, x3, y0, y1, y2]
    exact fin _
  · rw [h] at x1
    refine stp ?_; try simp [wpS, wpO, wpE, wpEs, wpB, binW, addW, subW, mulW, fdivW, modW, powW, cmpW, iiW, idxW, slcW, revW, negW, biW, itW, bindT, bindTs, wipeE, bW, ifW, ints1, isiW, isTy, lcW, topf, kOf, als, alss, flD, flDs, flK, disj, elK, lstW, intW, eqW, fzE, mvE, wpBnil, CMul, CPow, sizeLine_eq, -List.getD_eq_getElem?_getD, x1, x2, x3, y0, y1, y2]
    exact fin _
abbrev N__law_table12 : List Str := ["_law_script", "_law_place", "_law_most", "_law_pool", "_law_some", "_law_flaw", "_law_gain", "_law_table_here", "_law_k", "_law_at", "_law_width", "_law_worth", "_law_allowed", "_law_name"]
abbrev P__law_table12 : List Str := P__law_table
abbrev s__law_table12 : List Sm := s__law_table
theorem w_tab12 (hR : S.T "_law_row" = some spRow) : ∀ ds o, spTab ds o → wpD S s__law_table12 N__law_table12 ds o := fun ds o h => w_tab hR ds o h
end
end SV

set_option Elab.async false
set_option linter.all false
set_option maxRecDepth 100000
set_option maxHeartbeats 4000000
namespace SV
open PySem PySem.Spec PyProof.Rows L2
/-! ### the first fault of a table -/
def abc : Str := "abcdefghijklmnopqrstuvwxyz"
def inABC (nm : Str) : Bool := nm.cps.toList.all fun c => decide (c ∈ abc.cps)
def gNm (nm : Str) : Bool := decide (1 ≤ nm.length) && decide (nm.length ≤ 8) && inABC nm
def gKn (k : Kn) : Bool := gNm k.nm && decide (1 ≤ k.w) && decide (k.w ≤ 200) && decide (1 ≤ k.g) && decide (k.g ≤ 1000000000000000000) && decide (0 ≤ k.a) && decide (k.a < 1000000000000000000)
def badA (i : Nat) (seen : List Str) (k : Kn) : Bool := decide (8 ≤ i) || !gKn k || decide (k.nm ∈ seen)
def faF : Nat → List Str → List Kn → Option Nat
  | _, _, [] => none
  | i, seen, k :: ks => if badA i seen k = true then some i else faF (i + 1) (seen ++ [k.nm]) ks
def okT (t : List Kn) : Prop := (∀ k ∈ t, PyData.strOk k.nm = true ∧ k.nm.length ≤ 1000) ∧ t.length ≤ 1000
def optN11 : Option Nat → D
  | none => .non
  | some i => .int i
def outCh (t : List Kn) : Out := match faF 0 [] t with
  | none => .ret (.ls .sh) (.lst (t.map encK))
  | some i => .exc ⟨"NotATable", some ("at", .int i)⟩
def outCd (t : List Kn) : Out := match faF 0 [] t with
  | none => .ret (.t2 .sh (.ls .sh)) (.tup [.str "told", .lst (t.map encK)])
  | some i => .ret .sh (.tup [.str "wrong", .int i])
def spGN : Spec1 := fun ds o => ∃ nm : Str, ds = [.str nm] ∧ nm.length ≤ 1000 ∧ o = .ret .sh (.bl (gNm nm))
def spGK : Spec1 := fun ds o => ∃ k : Kn, ds = [encK k] ∧ k.nm.length ≤ 1000 ∧ o = .ret .sh (.bl (gKn k))
def spFa : Spec1 := fun ds o => ∃ t : List Kn, ds = [.lst (t.map encK)] ∧ okT t ∧ o = .ret .sh (optN11 (faF 0 [] t))
def spCh : Spec1 := fun ds o => ∃ t : List Kn, ds = [.lst (t.map encK)] ∧ okT t ∧ o = outCh t
def spCd : Spec1 := fun ds o => ∃ t : List Kn, ds = [.lst (t.map encK)] ∧ okT t ∧ o = outCd t
theorem all_id : ∀ l : List Bool, l.all id = l.all fun b => b := fun l => rfl
theorem nm_sz {nm : Str} (h : nm.length ≤ 1000) : ([] : List D).length + nm.cps.toList.length ≤ sizeLine := by
  have e : nm.cps.toList.length = nm.length := by simp [Str.length]
  rw [sizeLine_eq, e, List.length_nil]
  omega
section
variable {S : Sg}
theorem abc_c {nm : Str} : nm.cps.toList.filterMap (fun c => some (D.bl (decide (c ∈ abc.cps)))) = (nm.cps.toList.map fun c => decide (c ∈ abc.cps)).map D.bl := by
  rw [List.filterMap_eq_map', List.map_map]
  rfl
theorem w_gn (h1 : S.G "LONGEST_NAME" = some (.int 8)) (h2 : S.G "LETTERS" = some (.str abc)) : ∀ ds o, spGN ds o → wpD S s_good_name11 N_good_name11 ds o := by
  rintro _ _ ⟨nm, rfl, hl, rfl⟩
  refine unfD (by delta s_good_name11; rfl) ?_
  unfold startE gNm
  have z1 : nm.length ≤ 16777216 := by omega
  by_cases c1 : 1 ≤ nm.length
  · have c1' : (1 : Int) ≤ (nm.length : Nat) := by omega
    by_cases c2 : nm.length ≤ 8
    · have c2' : ¬ (8 : Int) < (nm.length : Nat) := by omega
      refine stp ?_; try simp [wpS, wpO, wpE, wpEs, wpB, binW, addW, subW, mulW, fdivW, modW, powW, cmpW, iiW, idxW, slcW, revW, negW, biW, itW, bindT, bindTs, wipeE, bW, ifW, ints1, isiW, isTy, lcW, topf, kOf, als, alss, flD, flDs, flK, disj, elK, lstW, intW, eqW, fzE, mvE, wpBnil, CMul, CPow, sizeLine_eq, -List.getD_eq_getElem?_getD, h1, z1, c1', c2']
      refine stp ?_
      simp only [wpS, wpO, wpE, wpEs, itW, List.getElem?_cons_succ, List.getElem?_cons_zero]
      refine lc_fmK (enc := fun c : Nat => D.str ⟨#[c]⟩) (f := fun c : Nat => some (D.bl (decide (c ∈ abc.cps)))) (fun c hc kk hkk => ?_) (nm_sz hl) ?_
      · try simp [wpS, wpO, wpE, wpEs, wpB, binW, addW, subW, mulW, fdivW, modW, powW, cmpW, iiW, idxW, slcW, revW, negW, biW, itW, bindT, bindTs, wipeE, bW, ifW, ints1, isiW, isTy, lcW, topf, kOf, als, alss, flD, flDs, flK, disj, elK, lstW, intW, eqW, fzE, mvE, wpBnil, CMul, CPow, sizeLine_eq, -List.getD_eq_getElem?_getD, h2, inW, signW]
        exact hkk
      · rw [List.nil_append, abc_c]
        simp only [biW]
        refine ⟨_, rfl, ?_⟩
        try simp [wpS, wpO, wpE, wpEs, wpB, binW, addW, subW, mulW, fdivW, modW, powW, cmpW, iiW, idxW, slcW, revW, negW, biW, itW, bindT, bindTs, wipeE, bW, ifW, ints1, isiW, isTy, lcW, topf, kOf, als, alss, flD, flDs, flK, disj, elK, lstW, intW, eqW, fzE, mvE, wpBnil, CMul, CPow, sizeLine_eq, -List.getD_eq_getElem?_getD, edOf, c1, c2, inABC, kOf, topf]
    · have c2' : (8 : Int) < (nm.length : Nat) := by omega
      refine stp ?_; try simp [wpS, wpO, wpE, wpEs, wpB, binW, addW, subW, mulW, fdivW, modW, powW, cmpW, iiW, idxW, slcW, revW, negW, biW, itW, bindT, bindTs, wipeE, bW, ifW, ints1, isiW, isTy, lcW, topf, kOf, als, alss, flD, flDs, flK, disj, elK, lstW, intW, eqW, fzE, mvE, wpBnil, CMul, CPow, sizeLine_eq, -List.getD_eq_getElem?_getD, h1, z1, c1', c2']
      refine stp ?_; try simp [wpS, wpO, wpE, wpEs, wpB, binW, addW, subW, mulW, fdivW, modW, powW, cmpW, iiW, idxW, slcW, revW, negW, biW, itW, bindT, bindTs, wipeE, bW, ifW, ints1, isiW, isTy, lcW, topf, kOf, als, alss, flD, flDs, flK, disj, elK, lstW, intW, eqW, fzE, mvE, wpBnil, CMul, CPow, sizeLine_eq, -List.getD_eq_getElem?_getD, edOf, c1, c2]
  · have c1' : ¬ (1 : Int) ≤ (nm.length : Nat) := by omega
    refine stp ?_; try simp [wpS, wpO, wpE, wpEs, wpB, binW, addW, subW, mulW, fdivW, modW, powW, cmpW, iiW, idxW, slcW, revW, negW, biW, itW, bindT, bindTs, wipeE, bW, ifW, ints1, isiW, isTy, lcW, topf, kOf, als, alss, flD, flDs, flK, disj, elK, lstW, intW, eqW, fzE, mvE, wpBnil, CMul, CPow, sizeLine_eq, -List.getD_eq_getElem?_getD, h1, z1, c1']
    refine stp ?_; try simp [wpS, wpO, wpE, wpEs, wpB, binW, addW, subW, mulW, fdivW, modW, powW, cmpW, iiW, idxW, slcW, revW, negW, biW, itW, bindT, bindTs, wipeE, bW, ifW, ints1, isiW, isTy, lcW, topf, kOf, als, alss, flD, flDs, flK, disj, elK, lstW, intW, eqW, fzE, mvE, wpBnil, CMul, CPow, sizeLine_eq, -List.getD_eq_getElem?_getD, edOf, c1]
theorem w_rn : ∀ ds o, spGN ds o → wpD S s__law_right_name11 N__law_right_name11 ds o := by
  rintro _ _ ⟨nm, rfl, hl, rfl⟩
  refine unfD (by delta s__law_right_name11; rfl) ?_
  unfold startE gNm
  have z1 : nm.length ≤ 16777216 := by omega
  by_cases c1 : 1 ≤ nm.length
  · have c1' : ¬ ((nm.length : Nat) : Int) < 1 := by omega
    by_cases c2 : nm.length ≤ 8
    · have c2' : ¬ (8 : Int) < (nm.length : Nat) := by omega
      refine stp ?_; try simp [wpS, wpO, wpE, wpEs, wpB, binW, addW, subW, mulW, fdivW, modW, powW, cmpW, iiW, idxW, slcW, revW, negW, biW, itW, bindT, bindTs, wipeE, bW, ifW, ints1, isiW, isTy, lcW, topf, kOf, als, alss, flD, flDs, flK, disj, elK, lstW, intW, eqW, fzE, mvE, wpBnil, CMul, CPow, sizeLine_eq, -List.getD_eq_getElem?_getD, z1, c1', c2']
      refine stp ?_
      simp only [wpS, wpO, wpE, wpEs, itW, List.getElem?_cons_succ, List.getElem?_cons_zero]
      refine lc_fmK (enc := fun c : Nat => D.str ⟨#[c]⟩) (f := fun c : Nat => some (D.bl (decide (c ∈ abc.cps)))) (fun c hc kk hkk => ?_) (nm_sz hl) ?_
      · try simp [wpS, wpO, wpE, wpEs, wpB, binW, addW, subW, mulW, fdivW, modW, powW, cmpW, iiW, idxW, slcW, revW, negW, biW, itW, bindT, bindTs, wipeE, bW, ifW, ints1, isiW, isTy, lcW, topf, kOf, als, alss, flD, flDs, flK, disj, elK, lstW, intW, eqW, fzE, mvE, wpBnil, CMul, CPow, sizeLine_eq, -List.getD_eq_getElem?_getD, inW, signW]
        exact hkk
      · rw [List.nil_append, abc_c]
        simp only [biW]
        refine ⟨_, rfl, ?_⟩
        try simp [wpS, wpO, wpE, wpEs, wpB, binW, addW, subW, mulW, fdivW, modW, powW, cmpW, iiW, idxW, slcW, revW, negW, biW, itW, bindT, bindTs, wipeE, bW, ifW, ints1, isiW, isTy, lcW, topf, kOf, als, alss, flD, flDs, flK, disj, elK, lstW, intW, eqW, fzE, mvE, wpBnil, CMul, CPow, sizeLine_eq, -List.getD_eq_getElem?_getD, edOf, c1, c2, inABC, kOf, topf]
    · have c2' : (8 : Int) < (nm.length : Nat) := by omega
      refine stp ?_; try simp [wpS, wpO, wpE, wpEs, wpB, binW, addW, subW, mulW, fdivW, modW, powW, cmpW, iiW, idxW, slcW, revW, negW, biW, itW, bindT, bindTs, wipeE, bW, ifW, ints1, isiW, isTy, lcW, topf, kOf, als, alss, flD, flDs, flK, disj, elK, lstW, intW, eqW, fzE, mvE, wpBnil, CMul, CPow, sizeLine_eq, -List.getD_eq_getElem?_getD, z1, c1', c2']
      refine stp ?_; try simp [wpS, wpO, wpE, wpEs, wpB, binW, addW, subW, mulW, fdivW, modW, powW, cmpW, iiW, idxW, slcW, revW, negW, biW, itW, bindT, bindTs, wipeE, bW, ifW, ints1, isiW, isTy, lcW, topf, kOf, als, alss, flD, flDs, flK, disj, elK, lstW, intW, eqW, fzE, mvE, wpBnil, CMul, CPow, sizeLine_eq, -List.getD_eq_getElem?_getD, edOf, c1, c2]
  · have c1' : ((nm.length : Nat) : Int) < 1 := by omega
    refine stp ?_; try simp [wpS, wpO, wpE, wpEs, wpB, binW, addW, subW, mulW, fdivW, modW, powW, cmpW, iiW, idxW, slcW, revW, negW, biW, itW, bindT, bindTs, wipeE, bW, ifW, ints1, isiW, isTy, lcW, topf, kOf, als, alss, flD, flDs, flK, disj, elK, lstW, intW, eqW, fzE, mvE, wpBnil, CMul, CPow, sizeLine_eq, -List.getD_eq_getElem?_getD, z1, c1']
    refine stp ?_; try simp [wpS, wpO, wpE, wpEs, wpB, binW, addW, subW, mulW, fdivW, modW, powW, cmpW, iiW, idxW, slcW, revW, negW, biW, itW, bindT, bindTs, wipeE, bW, ifW, ints1, isiW, isTy, lcW, topf, kOf, als, alss, flD, flDs, flK, disj, elK, lstW, intW, eqW, fzE, mvE, wpBnil, CMul, CPow, sizeLine_eq, -List.getD_eq_getElem?_getD, edOf, c1]
theorem w_gk (h1 : S.G "WIDEST" = some (.int 200)) (h2 : S.G "DEAREST" = some (.int 1000000000000000000)) (hN : S.T "good_name" = some spGN) : ∀ ds o, spGK ds o → wpD S s_good_kind11 N_good_kind11 ds o := by
  rintro _ _ ⟨k, rfl, hl, rfl⟩
  refine unfD (by delta s_good_kind11; rfl) ?_
  unfold startE gKn encK
  refine stp ?_; try simp [wpS, wpO, wpE, wpEs, wpB, binW, addW, subW, mulW, fdivW, modW, powW, cmpW, iiW, idxW, slcW, revW, negW, biW, itW, bindT, bindTs, wipeE, bW, ifW, ints1, isiW, isTy, lcW, topf, kOf, als, alss, flD, flDs, flK, disj, elK, lstW, intW, eqW, fzE, mvE, wpBnil, CMul, CPow, sizeLine_eq, -List.getD_eq_getElem?_getD]
  refine stp ?_; try simp [wpS, wpO, wpE, wpEs, wpB, binW, addW, subW, mulW, fdivW, modW, powW, cmpW, iiW, idxW, slcW, revW, negW, biW, itW, bindT, bindTs, wipeE, bW, ifW, ints1, isiW, isTy, lcW, topf, kOf, als, alss, flD, flDs, flK, disj, elK, lstW, intW, eqW, fzE, mvE, wpBnil, CMul, CPow, sizeLine_eq, -List.getD_eq_getElem?_getD, hN]
  refine ⟨_, ⟨k.nm, rfl, hl, rfl⟩, ?_⟩
  cases gNm k.nm with
  | false =>
    try simp [wpS, wpO, wpE, wpEs, wpB, binW, addW, subW, mulW, fdivW, modW, powW, cmpW, iiW, idxW, slcW, revW, negW, biW, itW, bindT, bindTs, wipeE, bW, ifW, ints1, isiW, isTy, lcW, topf, kOf, als, alss, flD, flDs, flK, disj, elK, lstW, intW, eqW, fzE, mvE, wpBnil, CMul, CPow, sizeLine_eq, -List.getD_eq_getElem?_getD]
    refine stp ?_; try simp [wpS, wpO, wpE, wpEs, wpB, binW, addW, subW, mulW, fdivW, modW, powW, cmpW, iiW, idxW, slcW, revW, negW, biW, itW, bindT, bindTs, wipeE, bW, ifW, ints1, isiW, isTy, lcW, topf, kOf, als, alss, flD, flDs, flK, disj, elK, lstW, intW, eqW, fzE, mvE, wpBnil, CMul, CPow, sizeLine_eq, -List.getD_eq_getElem?_getD, edOf]
  | true =>
    by_cases c1 : 1 ≤ k.w
    · by_cases c2 : k.w ≤ 200
      · have c2' : ¬ 200 < k.w := by omega
        try simp [wpS, wpO, wpE, wpEs, wpB, binW, addW, subW, mulW, fdivW, modW, powW, cmpW, iiW, idxW, slcW, revW, negW, biW, itW, bindT, bindTs, wipeE, bW, ifW, ints1, isiW, isTy, lcW, topf, kOf, als, alss, flD, flDs, flK, disj, elK, lstW, intW, eqW, fzE, mvE, wpBnil, CMul, CPow, sizeLine_eq, -List.getD_eq_getElem?_getD, h1, c1, c2, c2']
        by_cases c3 : 1 ≤ k.g
        · by_cases c4 : k.g ≤ 1000000000000000000
          · have c4' : ¬ 1000000000000000000 < k.g := by omega
            by_cases c5 : 0 ≤ k.a
            · by_cases c6 : k.a < 1000000000000000000
              · have c6' : ¬ 1000000000000000000 ≤ k.a := by omega
                refine stp ?_; try simp [wpS, wpO, wpE, wpEs, wpB, binW, addW, subW, mulW, fdivW, modW, powW, cmpW, iiW, idxW, slcW, revW, negW, biW, itW, bindT, bindTs, wipeE, bW, ifW, ints1, isiW, isTy, lcW, topf, kOf, als, alss, flD, flDs, flK, disj, elK, lstW, intW, eqW, fzE, mvE, wpBnil, CMul, CPow, sizeLine_eq, -List.getD_eq_getElem?_getD, h2, c2, c3, c4, c4', c5, c6, c6', edOf]
              · have c6' : 1000000000000000000 ≤ k.a := by omega
                refine stp ?_; try simp [wpS, wpO, wpE, wpEs, wpB, binW, addW, subW, mulW, fdivW, modW, powW, cmpW, iiW, idxW, slcW, revW, negW, biW, itW, bindT, bindTs, wipeE, bW, ifW, ints1, isiW, isTy, lcW, topf, kOf, als, alss, flD, flDs, flK, disj, elK, lstW, intW, eqW, fzE, mvE, wpBnil, CMul, CPow, sizeLine_eq, -List.getD_eq_getElem?_getD, h2, c2, c3, c4, c4', c5, c6, c6', edOf]
            · have c5' : k.a < 0 := by omega
              refine stp ?_; try simp [wpS, wpO, wpE, wpEs, wpB, binW, addW, subW, mulW, fdivW, modW, powW, cmpW, iiW, idxW, slcW, revW, negW, biW, itW, bindT, bindTs, wipeE, bW, ifW, ints1, isiW, isTy, lcW, topf, kOf, als, alss, flD, flDs, flK, disj, elK, lstW, intW, eqW, fzE, mvE, wpBnil, CMul, CPow, sizeLine_eq, -List.getD_eq_getElem?_getD, h2, c2, c3, c4, c4', c5, c5', edOf]
          · have c4' : 1000000000000000000 < k.g := by omega
            refine stp ?_; try simp [wpS, wpO, wpE, wpEs, wpB, binW, addW, subW, mulW, fdivW, modW, powW, cmpW, iiW, idxW, slcW, revW, negW, biW, itW, bindT, bindTs, wipeE, bW, ifW, ints1, isiW, isTy, lcW, topf, kOf, als, alss, flD, flDs, flK, disj, elK, lstW, intW, eqW, fzE, mvE, wpBnil, CMul, CPow, sizeLine_eq, -List.getD_eq_getElem?_getD, h2, c2, c3, c4, c4', edOf]
        · have c3' : k.g < 1 := by omega
          refine stp ?_; try simp [wpS, wpO, wpE, wpEs, wpB, binW, addW, subW, mulW, fdivW, modW, powW, cmpW, iiW, idxW, slcW, revW, negW, biW, itW, bindT, bindTs, wipeE, bW, ifW, ints1, isiW, isTy, lcW, topf, kOf, als, alss, flD, flDs, flK, disj, elK, lstW, intW, eqW, fzE, mvE, wpBnil, CMul, CPow, sizeLine_eq, -List.getD_eq_getElem?_getD, h2, c2, c3, c3', edOf]
      · have c2' : 200 < k.w := by omega
        try simp [wpS, wpO, wpE, wpEs, wpB, binW, addW, subW, mulW, fdivW, modW, powW, cmpW, iiW, idxW, slcW, revW, negW, biW, itW, bindT, bindTs, wipeE, bW, ifW, ints1, isiW, isTy, lcW, topf, kOf, als, alss, flD, flDs, flK, disj, elK, lstW, intW, eqW, fzE, mvE, wpBnil, CMul, CPow, sizeLine_eq, -List.getD_eq_getElem?_getD, h1, c1, c2, c2']
        refine stp ?_; try simp [wpS, wpO, wpE, wpEs, wpB, binW, addW, subW, mulW, fdivW, modW, powW, cmpW, iiW, idxW, slcW, revW, negW, biW, itW, bindT, bindTs, wipeE, bW, ifW, ints1, isiW, isTy, lcW, topf, kOf, als, alss, flD, flDs, flK, disj, elK, lstW, intW, eqW, fzE, mvE, wpBnil, CMul, CPow, sizeLine_eq, -List.getD_eq_getElem?_getD, edOf, c2]
    · have c1' : k.w < 1 := by omega
      try simp [wpS, wpO, wpE, wpEs, wpB, binW, addW, subW, mulW, fdivW, modW, powW, cmpW, iiW, idxW, slcW, revW, negW, biW, itW, bindT, bindTs, wipeE, bW, ifW, ints1, isiW, isTy, lcW, topf, kOf, als, alss, flD, flDs, flK, disj, elK, lstW, intW, eqW, fzE, mvE, wpBnil, CMul, CPow, sizeLine_eq, -List.getD_eq_getElem?_getD, h1, c1, c1']
      refine stp ?_; try simp [wpS, wpO, wpE, wpEs, wpB, binW, addW, subW, mulW, fdivW, modW, powW, cmpW, iiW, idxW, slcW, revW, negW, biW, itW, bindT, bindTs, wipeE, bW, ifW, ints1, isiW, isTy, lcW, topf, kOf, als, alss, flD, flDs, flK, disj, elK, lstW, intW, eqW, fzE, mvE, wpBnil, CMul, CPow, sizeLine_eq, -List.getD_eq_getElem?_getD, edOf, c1]
end
end SV

set_option Elab.async false
set_option linter.all false
set_option maxRecDepth 100000
set_option maxHeartbeats 4000000
namespace SV
open PySem PySem.Spec PyProof.Rows L2 TL
/-! ### numbers as texts -/
def wI (n : Int) : Str := Str.ofString (toString n)
theorem tl_pos {n : Int} (h : 0 ≤ n) : tl (wI n) = numL n.toNat := by
  obtain ⟨k, rfl⟩ := Int.eq_ofNat_of_zero_le h
  exact tl_num k
theorem tl_neg {n : Int} (h : n < 0) : tl (wI n) = 45 :: numL (-n).toNat := by
  obtain ⟨m, rfl⟩ : ∃ m : Nat, n = Int.negSucc m := ⟨(-n).toNat - 1, by omega⟩
  have e : toString (Int.negSucc m) = "-" ++ toString (m + 1) := rfl
  have e2 : (-(Int.negSucc m)).toNat = m + 1 := by rfl
  have e3 := tl_num (m + 1)
  rw [tl_ofString] at e3
  unfold wI
  rw [tl_ofString, e, e2, String.toList_append, List.map_append]
  have e4 : toString ((m + 1 : Nat) : Int) = toString (m + 1) := rfl
  rw [e4] at e3
  rw [e3]
  rfl
theorem wI_cs {n : Int} : ∀ c ∈ tl (wI n), c = 45 ∨ 48 ≤ c ∧ c ≤ 57 := by
  intro c hc
  by_cases h : 0 ≤ n
  · rw [tl_pos h] at hc
    exact .inr (numL_digits _ c hc)
  · rw [tl_neg (by omega)] at hc
    rcases List.mem_cons.mp hc with rfl | hc
    · exact .inl rfl
    · exact .inr (numL_digits _ c hc)
theorem wI_len {n : Int} {k : Nat} (hk : 0 < k) (h : n.natAbs < 10 ^ k) : (wI n).length ≤ k + 1 := by
  rw [len_tl]
  by_cases h0 : 0 ≤ n
  · rw [tl_pos h0]
    have := numL_len (n := n.toNat) hk (by omega)
    omega
  · rw [tl_neg (by omega), List.length_cons]
    have := numL_len (n := (-n).toNat) hk (by omega)
    omega
theorem wI_ok {n : Int} : PyData.strOk (wI n) = true := sOk_iff.mpr fun c hc => by
  rcases wI_cs c hc with rfl | h <;> omega
theorem wI_int {n : Int} (h : n.natAbs < 10 ^ 600) : PySem.intText? (wI n) = some n := by
  have hl := wI_len (n := n) (k := 600) (by decide) h
  by_cases h0 : 0 ≤ n
  · have e := tl_pos h0
    have := PySem.intText_digits (x := wI n) (by rw [show (wI n).cps.toList = numL n.toNat from e]; exact numL_digits _) (by rw [show (wI n).cps.toList = numL n.toNat from e]; exact numL_ne _) (by omega)
    rw [this, show (wI n).cps.toList = numL n.toNat from e, numL_val]
    congr 1
    omega
  · have e := tl_neg (n := n) (by omega)
    rw [PySem.intText_neg (x := wI n) e (numL_digits _) (numL_ne _) (by omega), numL_val]
    congr 1
    omega
theorem numL_hd {n : Nat} : (numL n).head? = some 48 → n = 0 := by
  induction n using Nat.strongRecOn with
  | _ n ih =>
    intro h
    by_cases c : n < 10
    · rw [numL_lt c] at h
      simp at h
      omega
    · rw [numL_step (by omega)] at h
      have ne := numL_ne (n / 10)
      have e : (numL (n / 10) ++ [48 + n % 10]).head? = (numL (n / 10)).head? := by
        cases q : numL (n / 10) with
        | nil => exact absurd q ne
        | cons a r => rfl
      rw [e] at h
      have := ih (n / 10) (by omega) h
      omega
theorem tl_cut1 {z : Str} : tl (cutS z none (some 1)) = (tl z).take 1 := by
  have e : HT.sIx z.length z.length (some 1) = min 1 z.length := HT.sIx_nat _ _ 1
  unfold cutS
  rw [e, HT.sIx_none, len_tl]
  show ((tl z).drop 0).take (min 1 (tl z).length - 0) = _
  rw [List.drop_zero, Nat.sub_zero]
  cases tl z <;> simp
theorem tl_cutd {z : Str} : tl (cutS z (some 1) none) = (tl z).drop 1 := by
  have e : HT.sIx z.length 0 (some 1) = min 1 z.length := HT.sIx_nat _ _ 1
  unfold cutS
  rw [e, HT.sIx_none, len_tl]
  show ((tl z).drop (min 1 (tl z).length)).take ((tl z).length - min 1 (tl z).length) = _
  cases h : tl z with
  | nil => simp
  | cons a l => simp
theorem str_ne {a b : Str} (h : tl a ≠ tl b) : (a == b) = false := by
  refine beq_eq_false_iff_ne.mpr fun e => h ?_
  rw [e]
theorem str_beq (a : Str) : (a == a) = true := beq_self_eq_true a
/-! ### pieces, lines -/
def pcS (p : Int × Str) : Str := wI p.1 ++ ":" ++ p.2
def enc92 (p : Int × Str) : D := .tup [.int p.1, .str p.2]
def lnS (ps : List (Int × Str)) : Str := if ps.length = 0 then "-" else Txt.join " " (ps.map pcS)
def okP (p : Int × Str) : Prop := p.1.natAbs < 10 ^ 20 ∧ gNm p.2 = true
theorem abc_cs : ∀ c ∈ abc.cps.toList, 97 ≤ c ∧ c ≤ 122 := by decide +kernel
theorem gNm_cs {nm : Str} (h : gNm nm = true) : 1 ≤ nm.length ∧ nm.length ≤ 8 ∧ ∀ c ∈ tl nm, 97 ≤ c ∧ c ≤ 122 := by
  unfold gNm at h
  simp only [Bool.and_eq_true, decide_eq_true_eq] at h
  refine ⟨h.1.1, h.1.2, fun c hc => abc_cs c ?_⟩
  have := List.all_eq_true.mp h.2 c hc
  have := of_decide_eq_true this
  exact Array.mem_toList_iff.mpr this
theorem gNm_ok {nm : Str} (h : gNm nm = true) : PyData.strOk nm = true := sOk_iff.mpr fun c hc => by
  have := (gNm_cs h).2.2 c hc
  omega
theorem tl_pcS {p : Int × Str} : tl (pcS p) = tl (wI p.1) ++ 58 :: tl p.2 := by
  unfold pcS
  rw [tl_append, tl_append, List.append_assoc]
  rfl
theorem pcS_cs {p : Int × Str} (h : gNm p.2 = true) : ∀ c ∈ tl (pcS p), c = 45 ∨ 48 ≤ c ∧ c ≤ 58 ∨ 97 ≤ c ∧ c ≤ 122 := by
  intro c hc
  rw [tl_pcS] at hc
  rcases List.mem_append.mp hc with hc | hc
  · rcases wI_cs c hc with h | h <;> omega
  · rcases List.mem_cons.mp hc with rfl | hc
    · omega
    · have := (gNm_cs h).2.2 c hc
      omega
theorem pcS_len {p : Int × Str} {k : Nat} (hk : 0 < k) (h1 : p.1.natAbs < 10 ^ k) (h2 : gNm p.2 = true) : (pcS p).length ≤ k + 10 := by
  rw [len_tl, tl_pcS, List.length_append, List.length_cons, ← len_tl, ← len_tl]
  have := wI_len hk h1
  have := (gNm_cs h2).2.1
  omega
theorem pcS_split {p : Int × Str} (h : gNm p.2 = true) : Txt.split (pcS p) ":" = [wI p.1, p.2] := by
  have e : pcS p = Txt.join ":" [wI p.1, p.2] := by
    rw [join_eq]
    rfl
  rw [e]
  refine split_join (y := ":") (s := 58) (S := []) rfl (by decide +kernel) (by simp) fun q hq hc => ?_
  rcases List.mem_cons.mp hq with rfl | hq
  · rcases wI_cs _ hc with h | h <;> omega
  · rw [List.mem_singleton.mp hq] at hc
    have := (gNm_cs h).2.2 _ hc
    omega
theorem lnS_split {ps : List (Int × Str)} (hne : ps.length ≠ 0) (h : ∀ p ∈ ps, gNm p.2 = true) : Txt.split (lnS ps) " " = ps.map pcS := by
  unfold lnS
  rw [if_neg hne]
  refine split_join (y := " ") (s := 32) (S := []) rfl (by decide +kernel) (fun e => hne (by have := congrArg List.length e; simpa using this)) fun q hq hc => ?_
  obtain ⟨p, hp, rfl⟩ := List.mem_map.mp hq
  rcases pcS_cs (h p hp) _ hc with h | h | h <;> omega
theorem join_cs {y : Str} {C : Nat → Prop} (hy : ∀ c ∈ tl y, C c) : ∀ {l : List Str}, (∀ s ∈ l, ∀ c ∈ tl s, C c) → ∀ c ∈ tl (Txt.join y l), C c := fun {l} h => by
  rw [join_eq, tl_join]
  have : ∀ l : List (List Nat), (∀ s ∈ l, ∀ c ∈ s, C c) → ∀ c ∈ TL.joinL (tl y) l, C c := fun l => by
    induction l with
    | nil => intro _ c hc; simp [TL.joinL] at hc
    | cons a l ih =>
      intro h c hc
      cases l with
      | nil => exact h a (by simp) c hc
      | cons b r =>
        simp only [TL.joinL, List.mem_append] at hc
        rcases hc with hc | hc | hc
        · exact h a (by simp) c hc
        · exact hy c hc
        · exact ih (fun s hs => h s (by simp [hs])) c hc
  exact this _ fun s hs => by
    obtain ⟨z, hz, rfl⟩ := List.mem_map.mp hs
    exact h z hz
theorem lnS_ok {ps : List (Int × Str)} (h : ∀ p ∈ ps, gNm p.2 = true) : PyData.strOk (lnS ps) = true := by
  unfold lnS
  split
  · decide +kernel
  · refine sOk_iff.mpr (join_cs (C := fun c => c < 0x110000) (by decide +kernel) fun s hs c hc => ?_)
    obtain ⟨p, hp, rfl⟩ := List.mem_map.mp hs
    rcases pcS_cs (h p hp) c hc with h | h | h <;> omega
theorem joinL_has {S : List Nat} {a : List Nat} {l : List (List Nat)} {c : Nat} (h : c ∈ a) : c ∈ TL.joinL S (a :: l) := by
  cases l with
  | nil => exact h
  | cons b r =>
    simp only [TL.joinL, List.mem_append]
    exact .inl h
theorem lnS_ne {ps : List (Int × Str)} (hne : ps.length ≠ 0) : (lnS ps == "-") = false := by
  refine str_ne fun e => ?_
  unfold lnS at e
  rw [if_neg hne, join_eq, tl_join] at e
  match ps, hne with
  | p :: ps, _ =>
    have h : 58 ∈ TL.joinL (tl " ") ((p :: ps).map pcS |>.map tl) := by
      rw [List.map_cons, List.map_cons]
      exact joinL_has (by rw [tl_pcS]; simp)
    rw [e] at h
    revert h
    decide +kernel
theorem sum_le {l : List Nat} {b : Nat} (h : ∀ x ∈ l, x ≤ b) : l.sum ≤ l.length * b := by
  induction l with
  | nil => simp
  | cons a l ih =>
    have h1 := h a (by simp)
    have h2 := ih fun x hx => h x (by simp [hx])
    rw [List.sum_cons, List.length_cons, Nat.add_mul]
    omega
theorem lnS_sz {ps : List (Int × Str)} {k : Nat} (hk : 0 < k) (hl : ps.length ≤ 300) (hb : k ≤ 600) (h : ∀ p ∈ ps, p.1.natAbs < 10 ^ k ∧ gNm p.2 = true) : ((ps.map pcS).map (·.length)).sum + (ps.map pcS).length * Str.length " " ≤ 16777216 := by
  have := sum_le (l := (ps.map pcS).map (·.length)) (b := 610) fun x hx => by
    obtain ⟨s, hs, rfl⟩ := List.mem_map.mp hx
    obtain ⟨p, hp, rfl⟩ := List.mem_map.mp hs
    have := pcS_len hk (h p hp).1 (h p hp).2
    omega
  simp only [List.length_map] at this ⊢
  have e : Str.length " " = 1 := by decide +kernel
  have e2 : ps.length * 610 ≤ 300 * 610 := Nat.mul_le_mul_right _ hl
  rw [e]
  omega
end SV

set_option Elab.async false
set_option linter.all false
set_option maxRecDepth 100000
set_option maxHeartbeats 4000000
namespace SV
open PySem PySem.Spec PyProof.Rows L2 TL
def figs : Str := "0123456789"
theorem fig_mem : ∀ c, c < 58 → 48 ≤ c → c ∈ figs.cps.toList := by decide +kernel
def spWh : Spec1 := fun ds o => ∃ n : Int, ds = [.str (wI n)] ∧ n.natAbs < 10 ^ 20 ∧ o = .ret .sh (.int n)
def spNm : Spec1 := fun ds o => ∃ nm : Str, ds = [.str nm] ∧ gNm nm = true ∧ o = .ret .sh (.str nm)
def spPie : Spec1 := fun ds o => ∃ p : Int × Str, ds = [.str (pcS p)] ∧ okP p ∧ o = .ret (.t2 .sh .sh) (enc92 p)
def spRc : Spec1 := fun ds o => ∃ ps : List (Int × Str), ds = [.str (lnS ps)] ∧ ps.length ≤ 300 ∧ (∀ p ∈ ps, okP p) ∧ o = .ret (.ls .sh) (.lst (ps.map enc92))
def spLn : Spec1 := fun ds o => ∃ ps : List (Int × Str), ds = [.lst (ps.map enc92)] ∧ ps.length ≤ 300 ∧ (∀ p ∈ ps, p.1.natAbs < 10 ^ 60 ∧ gNm p.2 = true) ∧ o = .ret .sh (.str (lnS ps))
theorem sz_of {z : Str} {k : Nat} (h : z.length ≤ k) (hk : k ≤ 16777216) : z.length ≤ sizeLine := by rw [sizeLine_eq]; omega
section
variable {S : Sg}
theorem fig_l (h2 : S.G "FIGURES" = some (.str figs)) {a b : Option (Kd × D)} : ∀ (l : List Nat) (x : Option (Kd × D)) (Dd : Ed), NumText.AllDigits l → (∀ x, Dd.nx [a, b, x]) →
    forW (fun D' ρ' => wpB' S b_read_whole92_1 D' ρ') (.nm 2) (l.map fun c : Nat => .str ⟨#[c]⟩) Dd [a, b, x]
  | [], x, Dd, _, h => by simpa [forW] using h x
  | c :: l, x, Dd, hd, h => by
    rw [List.map_cons]
    unfold forW
    simp only [bindT]
    have hc := hd.head
    have hm := fig_mem c (by omega) hc.1
    refine unf (by delta b_read_whole92_1; rfl) ?_
    refine stp ?_
    try simp [wpS, wpO, wpE, wpEs, wpB, binW, addW, subW, mulW, fdivW, modW, powW, cmpW, iiW, idxW, slcW, revW, negW, biW, itW, bindT, bindTs, wipeE, bW, ifW, ints1, isiW, isTy, lcW, topf, kOf, als, alss, flD, flDs, flK, disj, elK, lstW, intW, eqW, fzE, mvE, wpBnil, CMul, CPow, sizeLine_eq, -List.getD_eq_getElem?_getD, h2, inW, signW, hm]
    have hm2 : c ∈ figs.cps := by simpa using hm
    try simp [wpS, wpO, wpE, wpEs, wpB, binW, addW, subW, mulW, fdivW, modW, powW, cmpW, iiW, idxW, slcW, revW, negW, biW, itW, bindT, bindTs, wipeE, bW, ifW, ints1, isiW, isTy, lcW, topf, kOf, als, alss, flD, flDs, flK, disj, elK, lstW, intW, eqW, fzE, mvE, wpBnil, CMul, CPow, sizeLine_eq, -List.getD_eq_getElem?_getD, hm2]
    exact fig_l h2 l _ Dd hd.tail h
theorem wh_rest (h1 : S.G "MOST_FIGURES" = some (.int 20)) (h2 : S.G "FIGURES" = some (.str figs)) {n : Int} {F : Str} {m : Nat} (hF : tl F = numL m) (hm : m < 10 ^ 20) (hn : n.natAbs < 10 ^ 20) (h0 : m = 0 → wI n = "0") :
    wpB' S (s_read_whole92.drop 2) (edOf (.ret .sh (.int n))) [some (.sh, .str (wI n)), some (.sh, .str F), none] := by
  have fl := numL_len (n := m) (k := 20) (by decide) hm
  have fe : F.length = (numL m).length := by rw [len_tl, hF]
  have f1 : 0 < (numL m).length := List.length_pos_iff.mpr (numL_ne m)
  have wl := wI_len (n := n) (k := 20) (by decide) hn
  have z1 : F.length ≤ 16777216 := by omega
  have c1 : (1 : Int) ≤ (F.length : Nat) := by omega
  have c2 : ((F.length : Nat) : Int) ≤ 20 := by omega
  refine unf (by delta s_read_whole92; rfl) ?_
  refine stp ?_; try simp [wpS, wpO, wpE, wpEs, wpB, binW, addW, subW, mulW, fdivW, modW, powW, cmpW, iiW, idxW, slcW, revW, negW, biW, itW, bindT, bindTs, wipeE, bW, ifW, ints1, isiW, isTy, lcW, topf, kOf, als, alss, flD, flDs, flK, disj, elK, lstW, intW, eqW, fzE, mvE, wpBnil, CMul, CPow, sizeLine_eq, -List.getD_eq_getElem?_getD, h1, z1, c1, c2]
  refine stp ?_
  try simp [wpS, wpO, wpE, wpEs, wpB, binW, addW, subW, mulW, fdivW, modW, powW, cmpW, iiW, idxW, slcW, revW, negW, biW, itW, bindT, bindTs, wipeE, bW, ifW, ints1, isiW, isTy, lcW, topf, kOf, als, alss, flD, flDs, flK, disj, elK, lstW, intW, eqW, fzE, mvE, wpBnil, CMul, CPow, sizeLine_eq, -List.getD_eq_getElem?_getD]
  rw [show F.cps.toList = numL m from hF]
  refine fig_l h2 (numL m) _ _ (numL_digits m) fun x => ?_
  have hd : ∃ c r, numL m = c :: r ∧ (m = 0 → c = 48) ∧ (c = 48 → m = 0) := by
    cases q : numL m with
    | nil => exact absurd q (numL_ne m)
    | cons c r =>
      refine ⟨c, r, rfl, fun e => ?_, fun e => numL_hd (by rw [q, e]; rfl)⟩
      subst e
      have q2 : numL 0 = [48] := numL_lt (by decide)
      rw [q2] at q
      cases q
      rfl
  obtain ⟨c, r, hc, hc0, hc1⟩ := hd
  have ha : atI F.cps.toList 0 = some c := by
    rw [show F.cps.toList = numL m from hF, hc]
    simp [atI, ixN]
  have hcb : c < 58 := by
    have := numL_digits m c (by rw [hc]; simp)
    omega
  have so : PyData.strOk ⟨#[c]⟩ = true := sOk_iff.mpr fun d hd => by
    have : d = c := by simpa using hd
    omega
  have s1 := shaped_str so
  have s2 := shaped_str (s := "0") (by decide +kernel)
  have s3 := shaped_str (wI_ok (n := n))
  have it := wI_int (n := n) (by
    refine Nat.lt_of_lt_of_le hn ?_
    exact Nat.pow_le_pow_right (by decide) (by decide))
  have wl2 : (wI n).length ≤ 640 := by omega
  by_cases h : m = 0
  · have e2 := h0 h
    have e1' : ({ cps := #[c] } : Str) = "0" := by rw [hc0 h]; decide +kernel
    rw [e2] at s3
    refine stp ?_; try simp [wpS, wpO, wpE, wpEs, wpB, binW, addW, subW, mulW, fdivW, modW, powW, cmpW, iiW, idxW, slcW, revW, negW, biW, itW, bindT, bindTs, wipeE, bW, ifW, ints1, isiW, isTy, lcW, topf, kOf, als, alss, flD, flDs, flK, disj, elK, lstW, intW, eqW, fzE, mvE, wpBnil, CMul, CPow, sizeLine_eq, -List.getD_eq_getElem?_getD, ha, z1, s1, s2, s3, eqB_str, e1', e2]
    rw [e2] at it wl2
    refine stp ?_; try simp [wpS, wpO, wpE, wpEs, wpB, binW, addW, subW, mulW, fdivW, modW, powW, cmpW, iiW, idxW, slcW, revW, negW, biW, itW, bindT, bindTs, wipeE, bW, ifW, ints1, isiW, isTy, lcW, topf, kOf, als, alss, flD, flDs, flK, disj, elK, lstW, intW, eqW, fzE, mvE, wpBnil, CMul, CPow, sizeLine_eq, -List.getD_eq_getElem?_getD, it, wl2, edOf]
  · have e1' : ¬ ({ cps := #[c] } : Str) = "0" := by
      intro e
      have e3 : [c] = [48] := congrArg (fun z : Str => z.cps.toList) e
      cases e3
      exact h (hc1 rfl)
    refine stp ?_; try simp [wpS, wpO, wpE, wpEs, wpB, binW, addW, subW, mulW, fdivW, modW, powW, cmpW, iiW, idxW, slcW, revW, negW, biW, itW, bindT, bindTs, wipeE, bW, ifW, ints1, isiW, isTy, lcW, topf, kOf, als, alss, flD, flDs, flK, disj, elK, lstW, intW, eqW, fzE, mvE, wpBnil, CMul, CPow, sizeLine_eq, -List.getD_eq_getElem?_getD, ha, z1, s1, s2, s3, eqB_str, e1']
    refine stp ?_; try simp [wpS, wpO, wpE, wpEs, wpB, binW, addW, subW, mulW, fdivW, modW, powW, cmpW, iiW, idxW, slcW, revW, negW, biW, itW, bindT, bindTs, wipeE, bW, ifW, ints1, isiW, isTy, lcW, topf, kOf, als, alss, flD, flDs, flK, disj, elK, lstW, intW, eqW, fzE, mvE, wpBnil, CMul, CPow, sizeLine_eq, -List.getD_eq_getElem?_getD, it, wl2, edOf]
theorem w_wh (h1 : S.G "MOST_FIGURES" = some (.int 20)) (h2 : S.G "FIGURES" = some (.str figs)) : ∀ ds o, spWh ds o → wpD S s_read_whole92 N_read_whole92 ds o := by
  rintro _ _ ⟨n, rfl, hn, rfl⟩
  refine unfD (by delta s_read_whole92; rfl) ?_
  unfold startE
  have wl := wI_len (n := n) (k := 20) (by decide) hn
  have z1 : (wI n).length ≤ 16777216 := by omega
  have s1 := shaped_str (sOk_cut (lo := none) (hi := some 1) (wI_ok (n := n)))
  have s2 := shaped_str (s := "-") (by decide +kernel)
  by_cases h : n < 0
  · have e1 : (cutS (wI n) none (some 1) == "-") = true := by
      have : cutS (wI n) none (some 1) = "-" := ext_tl (by rw [tl_cut1, tl_neg h]; rfl)
      rw [this]
      exact str_beq _
    refine stp ?_; try simp [wpS, wpO, wpE, wpEs, wpB, binW, addW, subW, mulW, fdivW, modW, powW, cmpW, iiW, idxW, slcW, revW, negW, biW, itW, bindT, bindTs, wipeE, bW, ifW, ints1, isiW, isTy, lcW, topf, kOf, als, alss, flD, flDs, flK, disj, elK, lstW, intW, eqW, fzE, mvE, wpBnil, CMul, CPow, sizeLine_eq, -List.getD_eq_getElem?_getD]
    refine stp ?_; try simp [wpS, wpO, wpE, wpEs, wpB, binW, addW, subW, mulW, fdivW, modW, powW, cmpW, iiW, idxW, slcW, revW, negW, biW, itW, bindT, bindTs, wipeE, bW, ifW, ints1, isiW, isTy, lcW, topf, kOf, als, alss, flD, flDs, flK, disj, elK, lstW, intW, eqW, fzE, mvE, wpBnil, CMul, CPow, sizeLine_eq, -List.getD_eq_getElem?_getD, z1, s1, s2, eqB_str, e1]
    refine stp ?_; try simp [wpS, wpO, wpE, wpEs, wpB, binW, addW, subW, mulW, fdivW, modW, powW, cmpW, iiW, idxW, slcW, revW, negW, biW, itW, bindT, bindTs, wipeE, bW, ifW, ints1, isiW, isTy, lcW, topf, kOf, als, alss, flD, flDs, flK, disj, elK, lstW, intW, eqW, fzE, mvE, wpBnil, CMul, CPow, sizeLine_eq, -List.getD_eq_getElem?_getD, z1]
    have := wh_rest (S := S) h1 h2 (n := n) (F := cutS (wI n) (some 1) none) (m := (-n).toNat) (by rw [tl_cutd, tl_neg h]; rfl) (by omega) hn (fun e => by omega)
    exact this
  · have e1 : (cutS (wI n) none (some 1) == "-") = false := str_ne fun e => by
      rw [tl_cut1, tl_pos (by omega)] at e
      have h45 : 45 ∈ (numL n.toNat).take 1 := by rw [e]; decide +kernel
      have := numL_digits n.toNat 45 (List.mem_of_mem_take h45)
      omega
    refine stp ?_; try simp [wpS, wpO, wpE, wpEs, wpB, binW, addW, subW, mulW, fdivW, modW, powW, cmpW, iiW, idxW, slcW, revW, negW, biW, itW, bindT, bindTs, wipeE, bW, ifW, ints1, isiW, isTy, lcW, topf, kOf, als, alss, flD, flDs, flK, disj, elK, lstW, intW, eqW, fzE, mvE, wpBnil, CMul, CPow, sizeLine_eq, -List.getD_eq_getElem?_getD]
    refine stp ?_; try simp [wpS, wpO, wpE, wpEs, wpB, binW, addW, subW, mulW, fdivW, modW, powW, cmpW, iiW, idxW, slcW, revW, negW, biW, itW, bindT, bindTs, wipeE, bW, ifW, ints1, isiW, isTy, lcW, topf, kOf, als, alss, flD, flDs, flK, disj, elK, lstW, intW, eqW, fzE, mvE, wpBnil, CMul, CPow, sizeLine_eq, -List.getD_eq_getElem?_getD, z1, s1, s2, eqB_str, e1]
    exact wh_rest (S := S) h1 h2 (n := n) (F := wI n) (m := n.toNat) (tl_pos (by omega)) (by omega) hn (fun e => by
      have : n = 0 := by omega
      subst this
      decide +kernel)
theorem w_nm (hN : S.T "good_name" = some spGN) : ∀ ds o, spNm ds o → wpD S s_read_name92 N_read_name92 ds o := by
  rintro _ _ ⟨nm, rfl, hg, rfl⟩
  refine unfD (by delta s_read_name92; rfl) ?_
  unfold startE
  have := (gNm_cs hg).2.1
  refine stp ?_; try simp [wpS, wpO, wpE, wpEs, wpB, binW, addW, subW, mulW, fdivW, modW, powW, cmpW, iiW, idxW, slcW, revW, negW, biW, itW, bindT, bindTs, wipeE, bW, ifW, ints1, isiW, isTy, lcW, topf, kOf, als, alss, flD, flDs, flK, disj, elK, lstW, intW, eqW, fzE, mvE, wpBnil, CMul, CPow, sizeLine_eq, -List.getD_eq_getElem?_getD, hN]
  refine ⟨_, ⟨nm, rfl, by omega, rfl⟩, ?_⟩
  rw [hg]
  try simp [wpS, wpO, wpE, wpEs, wpB, binW, addW, subW, mulW, fdivW, modW, powW, cmpW, iiW, idxW, slcW, revW, negW, biW, itW, bindT, bindTs, wipeE, bW, ifW, ints1, isiW, isTy, lcW, topf, kOf, als, alss, flD, flDs, flK, disj, elK, lstW, intW, eqW, fzE, mvE, wpBnil, CMul, CPow, sizeLine_eq, -List.getD_eq_getElem?_getD]
  refine stp ?_; try simp [wpS, wpO, wpE, wpEs, wpB, binW, addW, subW, mulW, fdivW, modW, powW, cmpW, iiW, idxW, slcW, revW, negW, biW, itW, bindT, bindTs, wipeE, bW, ifW, ints1, isiW, isTy, lcW, topf, kOf, als, alss, flD, flDs, flK, disj, elK, lstW, intW, eqW, fzE, mvE, wpBnil, CMul, CPow, sizeLine_eq, -List.getD_eq_getElem?_getD, edOf]
theorem w_pie (hW : S.T "read_whole" = some spWh) (hN : S.T "read_name" = some spNm) : ∀ ds o, spPie ds o → wpD S s_read_piece92 N_read_piece92 ds o := by
  rintro _ _ ⟨p, rfl, hp, rfl⟩
  refine unfD (by delta s_read_piece92; rfl) ?_
  unfold startE
  have l1 := pcS_len (p := p) (k := 20) (by decide) hp.1 hp.2
  have l2 : (pcS p).length + 2 ≤ 16777216 := by omega
  have e := pcS_split (p := p) hp.2
  have e0 : Str.length ":" = 1 := by decide +kernel
  refine stp ?_; try simp [wpS, wpO, wpE, wpEs, wpB, binW, addW, subW, mulW, fdivW, modW, powW, cmpW, iiW, idxW, slcW, revW, negW, biW, itW, bindT, bindTs, wipeE, bW, ifW, ints1, isiW, isTy, lcW, topf, kOf, als, alss, flD, flDs, flK, disj, elK, lstW, intW, eqW, fzE, mvE, wpBnil, CMul, CPow, sizeLine_eq, -List.getD_eq_getElem?_getD, splW, e, e0, l2]
  refine stp ?_; try simp [wpS, wpO, wpE, wpEs, wpB, binW, addW, subW, mulW, fdivW, modW, powW, cmpW, iiW, idxW, slcW, revW, negW, biW, itW, bindT, bindTs, wipeE, bW, ifW, ints1, isiW, isTy, lcW, topf, kOf, als, alss, flD, flDs, flK, disj, elK, lstW, intW, eqW, fzE, mvE, wpBnil, CMul, CPow, sizeLine_eq, -List.getD_eq_getElem?_getD, shaped_int, eqB_int]
  have i0 : ∀ a b : D, atI [a, b] 0 = some a := fun _ _ => rfl
  have i1 : ∀ a b : D, atI [a, b] 1 = some b := fun _ _ => rfl
  refine stp ?_; try simp [wpS, wpO, wpE, wpEs, wpB, binW, addW, subW, mulW, fdivW, modW, powW, cmpW, iiW, idxW, slcW, revW, negW, biW, itW, bindT, bindTs, wipeE, bW, ifW, ints1, isiW, isTy, lcW, topf, kOf, als, alss, flD, flDs, flK, disj, elK, lstW, intW, eqW, fzE, mvE, wpBnil, CMul, CPow, sizeLine_eq, -List.getD_eq_getElem?_getD, hW, hN, i0, i1]
  refine ⟨_, ⟨p.1, rfl, hp.1, rfl⟩, ?_⟩
  try simp [wpS, wpO, wpE, wpEs, wpB, binW, addW, subW, mulW, fdivW, modW, powW, cmpW, iiW, idxW, slcW, revW, negW, biW, itW, bindT, bindTs, wipeE, bW, ifW, ints1, isiW, isTy, lcW, topf, kOf, als, alss, flD, flDs, flK, disj, elK, lstW, intW, eqW, fzE, mvE, wpBnil, CMul, CPow, sizeLine_eq, -List.getD_eq_getElem?_getD]
  refine ⟨_, ⟨p.2, rfl, hp.2, rfl⟩, ?_⟩
  try simp [wpS, wpO, wpE, wpEs, wpB, binW, addW, subW, mulW, fdivW, modW, powW, cmpW, iiW, idxW, slcW, revW, negW, biW, itW, bindT, bindTs, wipeE, bW, ifW, ints1, isiW, isTy, lcW, topf, kOf, als, alss, flD, flDs, flK, disj, elK, lstW, intW, eqW, fzE, mvE, wpBnil, CMul, CPow, sizeLine_eq, -List.getD_eq_getElem?_getD, edOf, enc92]
theorem enc_lst {ps : List (Int × Str)} : ([] : List D) ++ ps.map enc92 = ps.map enc92 := rfl
theorem w_rc (hP : S.T "read_piece" = some spPie) : ∀ ds o, spRc ds o → wpD S s_read_cutting92 N_read_cutting92 ds o := by
  rintro _ _ ⟨ps, rfl, hl, hp, rfl⟩
  refine unfD (by delta s_read_cutting92; rfl) ?_
  unfold startE
  have s1 := shaped_str (lnS_ok (ps := ps) fun p h => (hp p h).2)
  have s2 := shaped_str (s := "-") (by decide +kernel)
  by_cases h : ps.length = 0
  · have e : lnS ps = "-" := by unfold lnS; rw [if_pos h]
    have e2 : ps = [] := List.length_eq_zero_iff.mp h
    subst e2
    refine stp ?_; try simp [wpS, wpO, wpE, wpEs, wpB, binW, addW, subW, mulW, fdivW, modW, powW, cmpW, iiW, idxW, slcW, revW, negW, biW, itW, bindT, bindTs, wipeE, bW, ifW, ints1, isiW, isTy, lcW, topf, kOf, als, alss, flD, flDs, flK, disj, elK, lstW, intW, eqW, fzE, mvE, wpBnil, CMul, CPow, sizeLine_eq, -List.getD_eq_getElem?_getD, e, s2, eqB_str]
    refine stp ?_; try simp [wpS, wpO, wpE, wpEs, wpB, binW, addW, subW, mulW, fdivW, modW, powW, cmpW, iiW, idxW, slcW, revW, negW, biW, itW, bindT, bindTs, wipeE, bW, ifW, ints1, isiW, isTy, lcW, topf, kOf, als, alss, flD, flDs, flK, disj, elK, lstW, intW, eqW, fzE, mvE, wpBnil, CMul, CPow, sizeLine_eq, -List.getD_eq_getElem?_getD, edOf]
  · have e := lnS_ne h
    have e1 : ¬ lnS ps = "-" := by simpa using e
    refine stp ?_; try simp [wpS, wpO, wpE, wpEs, wpB, binW, addW, subW, mulW, fdivW, modW, powW, cmpW, iiW, idxW, slcW, revW, negW, biW, itW, bindT, bindTs, wipeE, bW, ifW, ints1, isiW, isTy, lcW, topf, kOf, als, alss, flD, flDs, flK, disj, elK, lstW, intW, eqW, fzE, mvE, wpBnil, CMul, CPow, sizeLine_eq, -List.getD_eq_getElem?_getD, s1, s2, eqB_str, e1]
    have e2 := lnS_split h fun p q => (hp p q).2
    have e0 : Str.length " " = 1 := by decide +kernel
    have e3 : (lnS ps).length ≤ 300 * 31 := by
      have hs := sum_le (l := (ps.map pcS).map (·.length)) (b := 30) fun x hx => by
        obtain ⟨s, hs, rfl⟩ := List.mem_map.mp hx
        obtain ⟨p, hq, rfl⟩ := List.mem_map.mp hs
        exact pcS_len (k := 20) (by decide) (hp p hq).1 (hp p hq).2
      have hj := StrLaws.join_length_le " " (ps.map pcS)
      unfold lnS
      rw [if_neg h, join_eq]
      simp only [List.length_map] at hs hj
      rw [e0] at hj
      omega
    have e4 : (lnS ps).length + 2 ≤ 16777216 := by omega
    refine stp ?_
    try simp [wpS, wpO, wpE, wpEs, wpB, binW, addW, subW, mulW, fdivW, modW, powW, cmpW, iiW, idxW, slcW, revW, negW, biW, itW, bindT, bindTs, wipeE, bW, ifW, ints1, isiW, isTy, lcW, topf, kOf, als, alss, flD, flDs, flK, disj, elK, lstW, intW, eqW, fzE, mvE, wpBnil, CMul, CPow, sizeLine_eq, -List.getD_eq_getElem?_getD, splW, e0, e2, e4]
    refine lc_fmK (enc := fun p => D.str (pcS p)) (f := fun p => some (enc92 p)) (fun p hq kk hkk => ?_) (by rw [sizeLine_eq]; simp; omega) ?_
    · try simp [wpS, wpO, wpE, wpEs, wpB, binW, addW, subW, mulW, fdivW, modW, powW, cmpW, iiW, idxW, slcW, revW, negW, biW, itW, bindT, bindTs, wipeE, bW, ifW, ints1, isiW, isTy, lcW, topf, kOf, als, alss, flD, flDs, flK, disj, elK, lstW, intW, eqW, fzE, mvE, wpBnil, CMul, CPow, sizeLine_eq, -List.getD_eq_getElem?_getD, hP]
      refine ⟨_, ⟨p, rfl, hp p hq, rfl⟩, ?_⟩
      exact hkk
    · rw [List.nil_append, List.filterMap_eq_map']
      simp [edOf]
end
end SV

set_option Elab.async false
set_option linter.all false
set_option maxRecDepth 100000
set_option maxHeartbeats 4000000
namespace SV
open PySem PySem.Spec PyProof.Rows L2 TL
theorem eqB_cons0 {d : D} {ds : List D} : eqB (.lst (d :: ds)) (.lst []) = false := by
  unfold eqB
  simp [toP, toPs, PyData.eqv, PyData.eqvAll]
theorem sh92 {ps : List (Int × Str)} (h : ∀ p ∈ ps, PyData.strOk p.2 = true) : SeqAt.shaped (toP (.lst (ps.map enc92))) = true := shaped_of (n := 2) (by
  simp only [shB]
  refine List.all_eq_true.mpr fun x hx => ?_
  obtain ⟨p, hp, rfl⟩ := List.mem_map.mp hx
  have h1 := h p hp
  simp only [enc92, shB, List.all_cons, List.all_nil, h1, Bool.and_self]) (by decide)
theorem log_of {n : Int} (h : n.natAbs < 10 ^ 60) : n.natAbs.log2 < 1920 := by
  by_cases h0 : n.natAbs = 0
  · rw [h0]
    decide
  · refine Nat.lt_of_lt_of_le ((Nat.log2_lt h0 (k := 200)).mpr (Nat.lt_of_lt_of_le h (by decide))) (by decide)
theorem emp_app {a : Str} : Str.empty ++ a = a := ext_tl (by rw [tl_append]; rfl)
section
variable {S : Sg}
theorem ln_len {p : Int × Str} (h : p.1.natAbs < 10 ^ 60 ∧ gNm p.2 = true) : (wI p.1).length ≤ 16777216 ∧ (wI p.1).length + 1 ≤ 16777216 ∧ (wI p.1 ++ (":" : Str)).length ≤ 16777216 ∧ (wI p.1 ++ (":" : Str)).length + p.2.length ≤ 16777216 ∧ (pcS p).length ≤ 16777216 ∧ p.2.length ≤ 16777216 := by
  have h1 := wI_len (n := p.1) (k := 60) (by decide) h.1
  have h2 := (gNm_cs h.2).2.1
  have h3 := pcS_len (p := p) (k := 60) (by decide) h.1 h.2
  have h4 : (wI p.1 ++ (":" : Str)).length = (wI p.1).length + 1 := by
    rw [len_tl, tl_append, List.length_append, ← len_tl]
    rfl
  omega
theorem w_sc : ∀ ds o, spLn ds o → wpD S s_show_cutting92 N_show_cutting92 ds o := by
  rintro _ _ ⟨ps, rfl, hl, hp, rfl⟩
  refine unfD (by delta s_show_cutting92; rfl) ?_
  unfold startE
  have s1 := sh92 (ps := ps) fun p h => gNm_ok (hp p h).2
  have s2 : SeqAt.shaped (toP (.lst [])) = true := shaped_of (n := 1) (by simp [shB]) (by decide)
  by_cases h : ps.length = 0
  · have e : lnS ps = "-" := by unfold lnS; rw [if_pos h]
    have e2 : ps = [] := List.length_eq_zero_iff.mp h
    subst e2
    have e3 := eqB_refl (.lst [])
    refine stp ?_; try simp [wpS, wpO, wpE, wpEs, wpB, binW, addW, subW, mulW, fdivW, modW, powW, cmpW, iiW, idxW, slcW, revW, negW, biW, itW, bindT, bindTs, wipeE, bW, ifW, ints1, isiW, isTy, lcW, topf, kOf, als, alss, flD, flDs, flK, disj, elK, lstW, intW, eqW, fzE, mvE, wpBnil, CMul, CPow, sizeLine_eq, -List.getD_eq_getElem?_getD, s2, e3]
    refine stp ?_; try simp [wpS, wpO, wpE, wpEs, wpB, binW, addW, subW, mulW, fdivW, modW, powW, cmpW, iiW, idxW, slcW, revW, negW, biW, itW, bindT, bindTs, wipeE, bW, ifW, ints1, isiW, isTy, lcW, topf, kOf, als, alss, flD, flDs, flK, disj, elK, lstW, intW, eqW, fzE, mvE, wpBnil, CMul, CPow, sizeLine_eq, -List.getD_eq_getElem?_getD, edOf, e]
  · have e3 : eqB (.lst (ps.map enc92)) (.lst []) = false := by
      cases ps with
      | nil => simp at h
      | cons p ps => exact eqB_cons0
    refine stp ?_; try simp [wpS, wpO, wpE, wpEs, wpB, binW, addW, subW, mulW, fdivW, modW, powW, cmpW, iiW, idxW, slcW, revW, negW, biW, itW, bindT, bindTs, wipeE, bW, ifW, ints1, isiW, isTy, lcW, topf, kOf, als, alss, flD, flDs, flK, disj, elK, lstW, intW, eqW, fzE, mvE, wpBnil, CMul, CPow, sizeLine_eq, -List.getD_eq_getElem?_getD, s1, s2, e3]
    have hj := lnS_sz (ps := ps) (k := 60) (by decide) hl (by decide) hp
    refine stp ?_
    try simp [wpS, wpO, wpE, wpEs, wpB, binW, addW, subW, mulW, fdivW, modW, powW, cmpW, iiW, idxW, slcW, revW, negW, biW, itW, bindT, bindTs, wipeE, bW, ifW, ints1, isiW, isTy, lcW, topf, kOf, als, alss, flD, flDs, flK, disj, elK, lstW, intW, eqW, fzE, mvE, wpBnil, CMul, CPow, sizeLine_eq, -List.getD_eq_getElem?_getD]
    refine lc_fmK (enc := enc92) (f := fun p => some (D.str (pcS p))) (fun p hq kk hkk => ?_) (by rw [sizeLine_eq]; simp; omega) ?_
    · have hb := hp p hq
      have lg := log_of hb.1
      obtain ⟨a1, a2, a3, a4, a5, a6⟩ := ln_len hb
      have e1 : (toString p.1 : String) = toString p.1 := rfl
      unfold enc92
      try simp [wpS, wpO, wpE, wpEs, wpB, binW, addW, subW, mulW, fdivW, modW, powW, cmpW, iiW, idxW, slcW, revW, negW, biW, itW, bindT, bindTs, wipeE, bW, ifW, ints1, isiW, isTy, lcW, topf, kOf, als, alss, flD, flDs, flK, disj, elK, lstW, intW, eqW, fzE, mvE, wpBnil, CMul, CPow, sizeLine_eq, -List.getD_eq_getElem?_getD, bindT, bindTs, fjW, fmtW, emp_app, lg]
      exact ⟨a1, a3, a6, a5, hkk⟩
    · rw [List.nil_append, List.filterMap_eq_map']
      refine ⟨ps.map pcS, by rw [List.map_map]; rfl, hj, ?_⟩
      unfold lnS
      rw [if_neg h]
      simp [edOf]
theorem w_ln : ∀ ds o, spLn ds o → wpD S s__law_line92 N__law_line92 ds o := by
  rintro _ _ ⟨ps, rfl, hl, hp, rfl⟩
  refine unfD (by delta s__law_line92; rfl) ?_
  unfold startE
  by_cases h : ps.length = 0
  · have e : lnS ps = "-" := by unfold lnS; rw [if_pos h]
    have e2 : ps = [] := List.length_eq_zero_iff.mp h
    subst e2
    refine stp ?_; try simp [wpS, wpO, wpE, wpEs, wpB, binW, addW, subW, mulW, fdivW, modW, powW, cmpW, iiW, idxW, slcW, revW, negW, biW, itW, bindT, bindTs, wipeE, bW, ifW, ints1, isiW, isTy, lcW, topf, kOf, als, alss, flD, flDs, flK, disj, elK, lstW, intW, eqW, fzE, mvE, wpBnil, CMul, CPow, sizeLine_eq, -List.getD_eq_getElem?_getD, shaped_int, eqB_int]
    refine stp ?_; try simp [wpS, wpO, wpE, wpEs, wpB, binW, addW, subW, mulW, fdivW, modW, powW, cmpW, iiW, idxW, slcW, revW, negW, biW, itW, bindT, bindTs, wipeE, bW, ifW, ints1, isiW, isTy, lcW, topf, kOf, als, alss, flD, flDs, flK, disj, elK, lstW, intW, eqW, fzE, mvE, wpBnil, CMul, CPow, sizeLine_eq, -List.getD_eq_getElem?_getD, edOf, e]
  · have h' : ¬ ps = [] := fun e => h (by rw [e]; rfl)
    refine stp ?_; try simp [wpS, wpO, wpE, wpEs, wpB, binW, addW, subW, mulW, fdivW, modW, powW, cmpW, iiW, idxW, slcW, revW, negW, biW, itW, bindT, bindTs, wipeE, bW, ifW, ints1, isiW, isTy, lcW, topf, kOf, als, alss, flD, flDs, flK, disj, elK, lstW, intW, eqW, fzE, mvE, wpBnil, CMul, CPow, sizeLine_eq, -List.getD_eq_getElem?_getD, shaped_int, eqB_int, h, h']
    have hj := lnS_sz (ps := ps) (k := 60) (by decide) hl (by decide) hp
    refine stp ?_
    try simp [wpS, wpO, wpE, wpEs, wpB, binW, addW, subW, mulW, fdivW, modW, powW, cmpW, iiW, idxW, slcW, revW, negW, biW, itW, bindT, bindTs, wipeE, bW, ifW, ints1, isiW, isTy, lcW, topf, kOf, als, alss, flD, flDs, flK, disj, elK, lstW, intW, eqW, fzE, mvE, wpBnil, CMul, CPow, sizeLine_eq, -List.getD_eq_getElem?_getD]
    refine lc_fmK (enc := enc92) (f := fun p => some (D.str (pcS p))) (fun p hq kk hkk => ?_) (by rw [sizeLine_eq]; simp; omega) ?_
    · have hb := hp p hq
      have lg := log_of hb.1
      obtain ⟨a1, a2, a3, a4, a5, a6⟩ := ln_len hb
      have e0 : Str.length ":" = 1 := by decide +kernel
      unfold enc92
      try simp [wpS, wpO, wpE, wpEs, wpB, binW, addW, subW, mulW, fdivW, modW, powW, cmpW, iiW, idxW, slcW, revW, negW, biW, itW, bindT, bindTs, wipeE, bW, ifW, ints1, isiW, isTy, lcW, topf, kOf, als, alss, flD, flDs, flK, disj, elK, lstW, intW, eqW, fzE, mvE, wpBnil, CMul, CPow, sizeLine_eq, -List.getD_eq_getElem?_getD, bindT, bindTs, lg, e0]
      exact ⟨Nat.le_of_lt_succ a2, a4, hkk⟩
    · rw [List.nil_append, List.filterMap_eq_map']
      refine ⟨ps.map pcS, by rw [List.map_map]; rfl, hj, ?_⟩
      unfold lnS
      rw [if_neg h]
      simp [edOf]
theorem cut92_l (hW : S.T "_law_is_whole" = some spWhole) {a : Option (Kd × D)} : ∀ (ps : List (Int × Str)) (x : Option (Kd × D)) (Dd : Ed), (∀ x, Dd.nx [a, x]) →
    forW (fun D' ρ' => wpB' S b__law_is_cutting92_1 D' ρ') (.nm 1) (ps.map enc92) Dd [a, x]
  | [], x, Dd, h => by simpa [forW] using h x
  | p :: ps, x, Dd, h => by
    rw [List.map_cons]
    unfold forW
    simp only [bindT]
    have i0 : ∀ a b : D, atI [a, b] 0 = some a := fun _ _ => rfl
    have i1 : ∀ a b : D, atI [a, b] 1 = some b := fun _ _ => rfl
    refine unf (by delta b__law_is_cutting92_1; rfl) ?_
    unfold enc92
    refine stp ?_; try simp [wpS, wpO, wpE, wpEs, wpB, binW, addW, subW, mulW, fdivW, modW, powW, cmpW, iiW, idxW, slcW, revW, negW, biW, itW, bindT, bindTs, wipeE, bW, ifW, ints1, isiW, isTy, lcW, topf, kOf, als, alss, flD, flDs, flK, disj, elK, lstW, intW, eqW, fzE, mvE, wpBnil, CMul, CPow, sizeLine_eq, -List.getD_eq_getElem?_getD, shaped_int, eqB_int]
    refine stp ?_; try simp [wpS, wpO, wpE, wpEs, wpB, binW, addW, subW, mulW, fdivW, modW, powW, cmpW, iiW, idxW, slcW, revW, negW, biW, itW, bindT, bindTs, wipeE, bW, ifW, ints1, isiW, isTy, lcW, topf, kOf, als, alss, flD, flDs, flK, disj, elK, lstW, intW, eqW, fzE, mvE, wpBnil, CMul, CPow, sizeLine_eq, -List.getD_eq_getElem?_getD, hW, i0, i1]
    refine ⟨_, ⟨p.1, rfl, rfl⟩, ?_⟩
    try simp [wpS, wpO, wpE, wpEs, wpB, binW, addW, subW, mulW, fdivW, modW, powW, cmpW, iiW, idxW, slcW, revW, negW, biW, itW, bindT, bindTs, wipeE, bW, ifW, ints1, isiW, isTy, lcW, topf, kOf, als, alss, flD, flDs, flK, disj, elK, lstW, intW, eqW, fzE, mvE, wpBnil, CMul, CPow, sizeLine_eq, -List.getD_eq_getElem?_getD, i1]
    exact cut92_l hW ps _ Dd h
def spCut92 : Spec1 := fun ds o => ∃ ps : List (Int × Str), ds = [.lst (ps.map enc92)] ∧ o = .ret .sh (.bl true)
theorem w_cut92 (hW : S.T "_law_is_whole" = some spWhole) : ∀ ds o, spCut92 ds o → wpD S s__law_is_cutting92 N__law_is_cutting92 ds o := by
  rintro _ _ ⟨ps, rfl, rfl⟩
  refine unfD (by delta s__law_is_cutting92; rfl) ?_
  unfold startE
  refine stp ?_; try simp [wpS, wpO, wpE, wpEs, wpB, binW, addW, subW, mulW, fdivW, modW, powW, cmpW, iiW, idxW, slcW, revW, negW, biW, itW, bindT, bindTs, wipeE, bW, ifW, ints1, isiW, isTy, lcW, topf, kOf, als, alss, flD, flDs, flK, disj, elK, lstW, intW, eqW, fzE, mvE, wpBnil, CMul, CPow, sizeLine_eq, -List.getD_eq_getElem?_getD]
  refine stp ?_
  try simp [wpS, wpO, wpE, wpEs, wpB, binW, addW, subW, mulW, fdivW, modW, powW, cmpW, iiW, idxW, slcW, revW, negW, biW, itW, bindT, bindTs, wipeE, bW, ifW, ints1, isiW, isTy, lcW, topf, kOf, als, alss, flD, flDs, flK, disj, elK, lstW, intW, eqW, fzE, mvE, wpBnil, CMul, CPow, sizeLine_eq, -List.getD_eq_getElem?_getD]
  refine cut92_l hW ps _ _ fun x => ?_
  refine stp ?_; try simp [wpS, wpO, wpE, wpEs, wpB, binW, addW, subW, mulW, fdivW, modW, powW, cmpW, iiW, idxW, slcW, revW, negW, biW, itW, bindT, bindTs, wipeE, bW, ifW, ints1, isiW, isTy, lcW, topf, kOf, als, alss, flD, flDs, flK, disj, elK, lstW, intW, eqW, fzE, mvE, wpBnil, CMul, CPow, sizeLine_eq, -List.getD_eq_getElem?_getD, edOf]
end
end SV

set_option Elab.async false
set_option linter.all false
set_option maxRecDepth 100000
set_option maxHeartbeats 4000000
namespace SV
open PySem PySem.Spec PyProof.Rows L2 TL
theorem fOr_P {c : Bool} {a b : Prop} (h : c = true) (x : a) : fOr c a b := by unfold fOr; rw [if_pos h]; exact x
theorem foldT {c : Nat} : ∀ (m : Nat) (acc : Array Nat), ((List.replicate m (#[c] : Array Nat)).foldl (· ++ ·) acc).toList = acc.toList ++ List.replicate m c
  | 0, acc => by simp
  | m + 1, acc => by
    rw [List.replicate_succ, List.foldl_cons, foldT m, List.replicate_succ]
    simp
theorem mulT {c n : Nat} : tl (Txt.mul ⟨#[c]⟩ (n : Nat)) = List.replicate n c := by
  show (Txt.mul ⟨#[c]⟩ (n : Nat)).cps.toList = _
  unfold Txt.mul
  by_cases h : (n : Int) < 1
  · rw [if_pos h, show n = 0 by omega]
    rfl
  · rw [if_neg h]
    by_cases h1 : n = 1
    · subst h1
      rfl
    · rw [if_neg (by
        have e : (Str.mk #[c]).length = 1 := rfl
        rw [e]
        simp
        omega), Int.toNat_natCast]
      have := foldT (c := c) n #[]
      simpa using this
theorem mulT_ok {c n : Nat} (h : 1 ≤ n) (h2 : n ≤ 100) : MulOk ⟨#[c]⟩ (n : Nat) := by
  have e : (Str.mk #[c]).length = 1 := rfl
  refine ⟨by simp; omega, fun _ _ => ?_, fun _ _ => ?_⟩
  · rw [e]
    have := (Int.le_ediv_iff_mul_le (a := 1) (b := 2 ^ 63 - 1) (c := (n : Int)) (by omega)).mpr (by omega)
    omega
  · rw [e, Int.toNat_natCast]
    unfold Builtin.Str.tooLong
    rw [sizeLine_eq]
    simp
    omega
theorem cut_mid {r : List Int} {a m : Nat} (h : a + m ≤ r.length) : cutD (r.map D.int) (some (a : Int)) (some ((a : Int) + (m : Nat))) = (List.range m).map fun j => D.int (r.getD (a + j) 0) := by
  have e1 : HT.sIx (r.map D.int).length 0 (some (a : Int)) = min a (r.map D.int).length := HT.sIx_nat _ _ a
  have e2 : HT.sIx (r.map D.int).length (r.map D.int).length (some ((a : Int) + (m : Nat))) = min (a + m) (r.map D.int).length := HT.sIx_nat _ _ (a + m)
  unfold cutD
  rw [e1, e2]
  have l : (r.map D.int).length = r.length := by simp
  rw [l, Nat.min_eq_left (show a ≤ r.length by omega), Nat.min_eq_left h, show a + m - a = m by omega]
  refine List.ext_getElem? fun i => ?_
  by_cases hi : i < m
  · have h1 : a + i < r.length := by omega
    rw [List.getElem?_take, if_pos hi, List.getElem?_drop, List.getElem?_map, List.getElem?_map]
    simp [h1, hi, List.getD]
  · rw [List.getElem?_take, if_neg hi, List.getElem?_eq_none (by simp; omega)]
theorem lettN : ∀ n, n < 26 → atI abc.cps.toList ((n : Nat) : Int) = some (97 + n) := by decide +kernel
theorem lett {i : Int} (h0 : 0 ≤ i) (h1 : i < 26) : ∃ c, atI abc.cps.toList i = some c ∧ 97 ≤ c ∧ c ≤ 122 := by
  obtain ⟨n, rfl⟩ := Int.eq_ofNat_of_zero_le h0
  exact ⟨97 + n, lettN n (by omega), by omega, by omega⟩
theorem abc_in : ∀ c, c < 123 → 97 ≤ c → c ∈ abc.cps.toList := by decide +kernel
theorem gNm_of {nm : Str} (h1 : 1 ≤ nm.length) (h2 : nm.length ≤ 8) (h : ∀ c ∈ tl nm, 97 ≤ c ∧ c ≤ 122) : gNm nm = true := by
  unfold gNm inABC
  simp only [Bool.and_eq_true, decide_eq_true_eq]
  refine ⟨⟨h1, h2⟩, List.all_eq_true.mpr fun c hc => decide_eq_true ?_⟩
  have := h c hc
  exact Array.mem_toList_iff.mp (abc_in c (by omega) this.1)
theorem tl_cutN {z : Str} {n : Nat} : tl (cutS z none (some (n : Int))) = (tl z).take n := by
  have e : HT.sIx z.length z.length (some (n : Int)) = min n z.length := HT.sIx_nat _ _ n
  unfold cutS
  rw [e, HT.sIx_none, len_tl]
  show ((tl z).drop 0).take (min n (tl z).length - 0) = _
  rw [List.drop_zero, Nat.sub_zero, ← List.take_eq_take_min]
theorem nm92 {c5 c6 c7 : Nat} {x4 : Int} (h5 : 97 ≤ c5 ∧ c5 ≤ 122) (h6 : 97 ≤ c6 ∧ c6 ≤ 122) (h7 : 97 ≤ c7 ∧ c7 ≤ 122) (h0 : 0 ≤ x4) (h1 : x4 < 8) :
    gNm (cutS (⟨#[c5]⟩ ++ Txt.mul ⟨#[c6]⟩ 3 ++ Txt.mul ⟨#[c7]⟩ 4) none (some (1 + x4))) = true := by
  obtain ⟨n, rfl⟩ := Int.eq_ofNat_of_zero_le h0
  have e : tl (⟨#[c5]⟩ ++ Txt.mul ⟨#[c6]⟩ 3 ++ Txt.mul ⟨#[c7]⟩ 4) = [c5] ++ List.replicate 3 c6 ++ List.replicate 4 c7 := by
    rw [tl_append, tl_append]
    have e1 := mulT (c := c6) (n := 3)
    have e2 := mulT (c := c7) (n := 4)
    rw [show ((3 : Nat) : Int) = 3 from rfl] at e1
    rw [show ((4 : Nat) : Int) = 4 from rfl] at e2
    rw [e1, e2]
  have e3 : tl (cutS (⟨#[c5]⟩ ++ Txt.mul ⟨#[c6]⟩ 3 ++ Txt.mul ⟨#[c7]⟩ 4) none (some (1 + ((n : Nat) : Int)))) = ([c5] ++ List.replicate 3 c6 ++ List.replicate 4 c7).take (1 + n) := by
    rw [← e]
    exact tl_cutN (n := 1 + n)
  have el : (cutS (⟨#[c5]⟩ ++ Txt.mul ⟨#[c6]⟩ 3 ++ Txt.mul ⟨#[c7]⟩ 4) none (some (1 + ((n : Nat) : Int)))).length = 1 + n := by
    rw [len_tl, e3, List.length_take]
    simp
    omega
  refine gNm_of (by rw [el]; omega) (by rw [el]; omega) fun c hc => ?_
  rw [e3] at hc
  have hc := List.mem_of_mem_take hc
  rcases List.mem_append.mp hc with hc | hc
  · rcases List.mem_append.mp hc with hc | hc
    · rw [List.mem_singleton.mp hc]; exact h5
    · rw [List.eq_of_mem_replicate hc]; exact h6
  · rw [List.eq_of_mem_replicate hc]; exact h7
/-! ### the law's pieces -/
def base92 : List Int := [2, 4, 200, 1000000000000000000, 8, 26, 26, 26]
def rep92 (n : Nat) : List Int := (List.replicate n base92).flatten
theorem rep92_len (n : Nat) : (rep92 n).length = 8 * n := by
  unfold rep92
  rw [List.length_flatten, List.map_replicate, List.sum_replicate_nat]
  show n * 8 = _
  omega
theorem rep92_at : ∀ (n k j : Nat), k < n → j < 8 → (rep92 n).getD (8 * k + j) 0 = base92.getD j 0
  | 0, k, j, hk, _ => by omega
  | n + 1, k, j, hk, hj => by
    have e : rep92 (n + 1) = base92 ++ rep92 n := by
      unfold rep92
      rw [List.replicate_succ, List.flatten_cons]
    rw [e]
    cases k with
    | zero =>
      have : 8 * 0 + j < base92.length := by show _ < 8; omega
      simp only [List.getD, List.getElem?_append_left this]
      rw [show 8 * 0 + j = j by omega]
    | succ k =>
      have h8 : base92.length = 8 := rfl
      have h := rep92_at n k j (by omega) hj
      simp only [List.getD] at h ⊢
      rw [List.getElem?_append_right (by rw [h8]; omega), h8, show 8 * (k + 1) + j - 8 = 8 * k + j by omega]
      exact h
theorem rep92_ok (n : Nat) : szOk (rep92 n) := fun x hx => by
  obtain ⟨l, hl, hx⟩ := List.mem_flatten.mp hx
  rw [List.eq_of_mem_replicate hl] at hx
  simp [base92] at hx
  omega
theorem rep92_d (n : Nat) : (List.replicate n (base92.map D.int)).flatten = (rep92 n).map D.int := by
  unfold rep92
  rw [List.map_flatten, List.map_replicate]
def anyP92 (k : Kd) (d : D) : Prop := k = .ls .sh ∧ ∃ ps : List (Int × Str), d = .lst (ps.map enc92) ∧ ps.length ≤ 203 ∧ ∀ p ∈ ps, okP p
def spPcs : Spec1 := fun ds o => ∃ ns : List Int, ds = [.scr ns] ∧ o = .any anyP92 (fun _ => False)
section
variable {S : Sg}
theorem pcs_l {r : List Int} {n : Nat} (hr : r.length = 8 * n) (hb : ∀ k j, k < n → j < 8 → 0 ≤ r.getD (8 * k + j) 0 ∧ r.getD (8 * k + j) 0 < base92.getD j 0) {x0 x1 x2 : Option (Kd × D)} {Dd : Ed} :
    ∀ (m k : Nat) (ps : List (Int × Str)) (x6 x7 x8 x9 : Option (Kd × D)), k + m = n → n ≤ 203 → ps.length = k → (∀ p ∈ ps, okP p) →
    (∀ (ps : List (Int × Str)) (x6 x7 x8 x9 : Option (Kd × D)), ps.length = n → (∀ p ∈ ps, okP p) → Dd.nx [x0, x1, x2, some (.ls .sh, .lst (r.map .int)), some (.sh, .str abc), some (.ls .sh, .lst (ps.map enc92)), x6, x7, x8, x9]) →
    forW (fun D' ρ' => wpB' S b__law_pieces92_1 D' ρ') (.nm 6) ((List.range' k m).map fun i : Nat => .int i) Dd [x0, x1, x2, some (.ls .sh, .lst (r.map .int)), some (.sh, .str abc), some (.ls .sh, .lst (ps.map enc92)), x6, x7, x8, x9]
  | 0, k, ps, x6, x7, x8, x9, hk, hn, hp, ho, h => by
    simpa [forW] using h ps x6 x7 x8 x9 (by omega) ho
  | m + 1, k, ps, x6, x7, x8, x9, hk, hn, hp, ho, h => by
    rw [List.range'_succ, List.map_cons]
    unfold forW
    simp only [bindT]
    have q := fun j hj => hb k j (by omega) hj
    have e : cutD (r.map D.int) (some (8 * (k : Int))) (some (8 * (k : Int) + 8)) = (List.range 8).map fun j => D.int (r.getD (8 * k + j) 0) := by
      have := cut_mid (r := r) (a := 8 * k) (m := 8) (by omega)
      rw [show (((8 * k : Nat) : Nat) : Int) = 8 * (k : Int) by omega] at this
      exact this
    have e8 : ((List.range 8).map fun j => D.int (r.getD (8 * k + j) 0)) = [.int (r.getD (8 * k + 0) 0), .int (r.getD (8 * k + 1) 0), .int (r.getD (8 * k + 2) 0), .int (r.getD (8 * k + 3) 0), .int (r.getD (8 * k + 4) 0), .int (r.getD (8 * k + 5) 0), .int (r.getD (8 * k + 6) 0), .int (r.getD (8 * k + 7) 0)] := rfl
    rw [e8] at e
    have q0 := q 0 (by decide)
    have q1 := q 1 (by decide)
    have q2 := q 2 (by decide)
    have q3 := q 3 (by decide)
    have q4 := q 4 (by decide)
    have q5 := q 5 (by decide)
    have q6 := q 6 (by decide)
    have q7 := q 7 (by decide)
    simp only [base92, List.getD_cons_zero, List.getD_cons_succ] at q0 q1 q2 q3 q4 q5 q6 q7
    generalize r.getD (8 * k + 0) 0 = y0 at *
    generalize r.getD (8 * k + 1) 0 = y1 at *
    generalize r.getD (8 * k + 2) 0 = y2 at *
    generalize r.getD (8 * k + 3) 0 = y3 at *
    generalize r.getD (8 * k + 4) 0 = y4 at *
    generalize r.getD (8 * k + 5) 0 = y5 at *
    generalize r.getD (8 * k + 6) 0 = y6 at *
    generalize r.getD (8 * k + 7) 0 = y7 at *
    have i0 : ∀ a b c d e f g h : D, atI [a, b, c, d, e, f, g, h] 0 = some a := fun _ _ _ _ _ _ _ _ => rfl
    have i1 : ∀ a b c d e f g h : D, atI [a, b, c, d, e, f, g, h] 1 = some b := fun _ _ _ _ _ _ _ _ => rfl
    have i2 : ∀ a b c d e f g h : D, atI [a, b, c, d, e, f, g, h] 2 = some c := fun _ _ _ _ _ _ _ _ => rfl
    have i3 : ∀ a b c d e f g h : D, atI [a, b, c, d, e, f, g, h] 3 = some d := fun _ _ _ _ _ _ _ _ => rfl
    have i4 : ∀ a b c d e f g h : D, atI [a, b, c, d, e, f, g, h] 4 = some e := fun _ _ _ _ _ _ _ _ => rfl
    have i5 : ∀ a b c d e f g h : D, atI [a, b, c, d, e, f, g, h] 5 = some f := fun _ _ _ _ _ _ _ _ => rfl
    have i6 : ∀ a b c d e f g h : D, atI [a, b, c, d, e, f, g, h] 6 = some g := fun _ _ _ _ _ _ _ _ => rfl
    have i7 : ∀ a b c d e f g h : D, atI [a, b, c, d, e, f, g, h] 7 = some h := fun _ _ _ _ _ _ _ _ => rfl
    obtain ⟨v, hv, hv0, hv1⟩ : ∃ v : Int, atI [D.int 0, .int y2, .int y2, .int (99000000000000000000 + y3)] y1 = some (.int v) ∧ 0 ≤ v ∧ v < 100000000000000000000 := by
      rcases (by omega : y1 = 0 ∨ y1 = 1 ∨ y1 = 2 ∨ y1 = 3) with rfl | rfl | rfl | rfl
      · exact ⟨0, rfl, by omega, by omega⟩
      · exact ⟨y2, rfl, by omega, by omega⟩
      · exact ⟨y2, rfl, by omega, by omega⟩
      · exact ⟨_, rfl, by omega, by omega⟩
    obtain ⟨u, hu, hu1⟩ : ∃ u : Int, atI [D.int v, .int (-v)] y0 = some (.int u) ∧ u.natAbs < 100000000000000000000 := by
      rcases (by omega : y0 = 0 ∨ y0 = 1) with rfl | rfl
      · exact ⟨v, rfl, by omega⟩
      · exact ⟨-v, rfl, by omega⟩
    obtain ⟨c5, g5, l5⟩ := lett q5.1 q5.2
    obtain ⟨c6, g6, l6⟩ := lett q6.1 q6.2
    obtain ⟨c7, g7, l7⟩ := lett q7.1 q7.2
    have m3 : MulOk ⟨#[c6]⟩ 3 := mulT_ok (c := c6) (n := 3) (by decide) (by decide)
    have m4 : MulOk ⟨#[c7]⟩ 4 := mulT_ok (c := c7) (n := 4) (by decide) (by decide)
    have za : abc.length ≤ 16777216 := by decide +kernel
    refine unf (by delta b__law_pieces92_1; rfl) ?_
    refine stp ?_; try simp [wpS, wpO, wpE, wpEs, wpB, binW, addW, subW, mulW, fdivW, modW, powW, cmpW, iiW, idxW, slcW, revW, negW, biW, itW, bindT, bindTs, wipeE, bW, ifW, ints1, isiW, isTy, lcW, topf, kOf, als, alss, flD, flDs, flK, disj, elK, lstW, intW, eqW, fzE, mvE, wpBnil, CMul, CPow, sizeLine_eq, -List.getD_eq_getElem?_getD, e]
    refine stp ?_; try simp [wpS, wpO, wpE, wpEs, wpB, binW, addW, subW, mulW, fdivW, modW, powW, cmpW, iiW, idxW, slcW, revW, negW, biW, itW, bindT, bindTs, wipeE, bW, ifW, ints1, isiW, isTy, lcW, topf, kOf, als, alss, flD, flDs, flK, disj, elK, lstW, intW, eqW, fzE, mvE, wpBnil, CMul, CPow, sizeLine_eq, -List.getD_eq_getElem?_getD, i1, i2, i3]
    refine ⟨_, hv, ?_⟩
    refine fOr_P rfl ?_
    refine stp ?_; try simp [wpS, wpO, wpE, wpEs, wpB, binW, addW, subW, mulW, fdivW, modW, powW, cmpW, iiW, idxW, slcW, revW, negW, biW, itW, bindT, bindTs, wipeE, bW, ifW, ints1, isiW, isTy, lcW, topf, kOf, als, alss, flD, flDs, flK, disj, elK, lstW, intW, eqW, fzE, mvE, wpBnil, CMul, CPow, sizeLine_eq, -List.getD_eq_getElem?_getD, i5, i6, i7, g5, g6, g7, m3, m4, za]
    have n6 : (Txt.mul ⟨#[c6]⟩ 3).length = 3 := by
      have := mulT (c := c6) (n := 3)
      rw [len_tl, show (3 : Int) = ((3 : Nat) : Int) from rfl, this, List.length_replicate]
    have n7 : (Txt.mul ⟨#[c7]⟩ 4).length = 4 := by
      have := mulT (c := c7) (n := 4)
      rw [len_tl, show (4 : Int) = ((4 : Nat) : Int) from rfl, this, List.length_replicate]
    have n5 : (⟨#[c5]⟩ : Str).length = 1 := rfl
    have n56 : ((⟨#[c5]⟩ : Str) ++ Txt.mul ⟨#[c6]⟩ 3).length = 4 := by
      rw [len_tl, tl_append, List.length_append, ← len_tl, ← len_tl, n5, n6]
    have nm := nm92 l5 l6 l7 q4.1 q4.2
    have n9 : ((⟨#[c5]⟩ : Str) ++ Txt.mul ⟨#[c6]⟩ 3 ++ Txt.mul ⟨#[c7]⟩ 4).length ≤ 16777216 := by
      rw [len_tl, tl_append, List.length_append, ← len_tl, ← len_tl, n56, n7]
      decide
    refine ⟨by rw [n5, n6]; decide, by rw [n56, n7]; decide, ?_⟩
    generalize (⟨#[c5]⟩ : Str) ++ Txt.mul ⟨#[c6]⟩ 3 ++ Txt.mul ⟨#[c7]⟩ 4 = Z at *
    refine stp ?_
    simp only [wpS, wpO, wpE, wpEs, negW, idxW, slcW, ints1, binW, addW, List.getElem?_cons_succ, List.getElem?_cons_zero]
    refine ⟨by rw [sizeLine_eq]; simp, _, i0 _ _ _ _ _ _ _ _, _, hu, ?_⟩
    refine fOr_P rfl ?_
    refine ⟨_, i4 _ _ _ _ _ _ _ _, by rw [sizeLine_eq]; exact n9, ?_⟩
    refine fOr_P rfl ⟨rfl, rfl, rfl, by rw [sizeLine_eq]; simp; omega, ?_⟩
    try simp [wpS, wpO, wpE, wpEs, wpB, binW, addW, subW, mulW, fdivW, modW, powW, cmpW, iiW, idxW, slcW, revW, negW, biW, itW, bindT, bindTs, wipeE, bW, ifW, ints1, isiW, isTy, lcW, topf, kOf, als, alss, flD, flDs, flK, disj, elK, lstW, intW, eqW, fzE, mvE, wpBnil, CMul, CPow, sizeLine_eq, -List.getD_eq_getElem?_getD, elK]
    have ih := fun x6 x7 x8 x9 => pcs_l hr hb m (k + 1) (ps ++ [(u, cutS Z none (some (1 + y4)))]) x6 x7 x8 x9 (by omega) hn (by simp; omega) (fun p hp => by
      rcases List.mem_append.mp hp with hp | hp
      · exact ho p hp
      · rw [List.mem_singleton.mp hp]
        exact ⟨by omega, nm⟩) h
    rw [List.map_append] at ih
    exact ih _ _ _ _
theorem w_pcs (hR : S.T "_law_row" = some spRow) : ∀ ds o, spPcs ds o → wpD S s__law_pieces92 N__law_pieces92 ds o := by
  rintro _ _ ⟨ns, rfl, rfl⟩
  refine unfD (by delta s__law_pieces92; rfl) ?_
  unfold startE
  have hs : szOk [13, 8] := by intro x hx; simp at hx; omega
  refine stp ?_; try simp [wpS, wpO, wpE, wpEs, wpB, binW, addW, subW, mulW, fdivW, modW, powW, cmpW, iiW, idxW, slcW, revW, negW, biW, itW, bindT, bindTs, wipeE, bW, ifW, ints1, isiW, isTy, lcW, topf, kOf, als, alss, flD, flDs, flK, disj, elK, lstW, intW, eqW, fzE, mvE, wpBnil, CMul, CPow, sizeLine_eq, -List.getD_eq_getElem?_getD, hR]
  refine ⟨_, ⟨ns, 0, [13, 8], rfl, by decide, hs, by decide, rfl⟩, ?_⟩
  have b0 := rowF_lt (ns := ns) (p := 0) (j := 0) hs (by decide)
  have b1 := rowF_lt (ns := ns) (p := 0) (j := 1) hs (by decide)
  have hlen := rowF_len (ns := ns) (p := 0) (ms := [13, 8])
  generalize rowF ns 0 [13, 8] = r at b0 b1 hlen ⊢
  match r, hlen with
  | [r0, r1], _ =>
    simp at b0 b1
    have i0 : ∀ a b : D, atI [a, b] 0 = some a := fun _ _ => rfl
    have i1 : ∀ a b : D, atI [a, b] 1 = some b := fun _ _ => rfl
    have fin : ∀ n : Nat, n ≤ 203 → wpB' S (s__law_pieces92.drop 3) (edOf (.any anyP92 fun _ => False)) [some (.sh, .scr ns), some (.ls .sh, .lst [.int r0, .int r1]), some (.sh, .int n), none, none, none, none, none, none, none] := fun n hn => by
      refine unf (by delta s__law_pieces92; rfl) ?_
      refine stp ?_; try simp [wpS, wpO, wpE, wpEs, wpB, binW, addW, subW, mulW, fdivW, modW, powW, cmpW, iiW, idxW, slcW, revW, negW, biW, itW, bindT, bindTs, wipeE, bW, ifW, ints1, isiW, isTy, lcW, topf, kOf, als, alss, flD, flDs, flK, disj, elK, lstW, intW, eqW, fzE, mvE, wpBnil, CMul, CPow, sizeLine_eq, -List.getD_eq_getElem?_getD, hR]
      refine ⟨by omega, by omega, _, ⟨ns, 1, rep92 n, by rw [← rep92_d]; rfl, by decide, rep92_ok n, by rw [rep92_len]; omega, rfl⟩, ?_⟩
      have hl2 : (rowF ns 1 (rep92 n)).length = 8 * n := by rw [rowF_len, rep92_len]
      have hb2 : ∀ k j, k < n → j < 8 → 0 ≤ (rowF ns 1 (rep92 n)).getD (8 * k + j) 0 ∧ (rowF ns 1 (rep92 n)).getD (8 * k + j) 0 < base92.getD j 0 := fun k j hk hj => by
        have := rowF_lt (ns := ns) (p := 1) (ms := rep92 n) (j := 8 * k + j) (rep92_ok n) (by rw [rep92_len]; omega)
        rw [rep92_at n k j hk hj] at this
        exact this
      generalize rowF ns 1 (rep92 n) = r at hl2 hb2 ⊢
      try simp [wpS, wpO, wpE, wpEs, wpB, binW, addW, subW, mulW, fdivW, modW, powW, cmpW, iiW, idxW, slcW, revW, negW, biW, itW, bindT, bindTs, wipeE, bW, ifW, ints1, isiW, isTy, lcW, topf, kOf, als, alss, flD, flDs, flK, disj, elK, lstW, intW, eqW, fzE, mvE, wpBnil, CMul, CPow, sizeLine_eq, -List.getD_eq_getElem?_getD]
      refine stp ?_; try simp [wpS, wpO, wpE, wpEs, wpB, binW, addW, subW, mulW, fdivW, modW, powW, cmpW, iiW, idxW, slcW, revW, negW, biW, itW, bindT, bindTs, wipeE, bW, ifW, ints1, isiW, isTy, lcW, topf, kOf, als, alss, flD, flDs, flK, disj, elK, lstW, intW, eqW, fzE, mvE, wpBnil, CMul, CPow, sizeLine_eq, -List.getD_eq_getElem?_getD]
      refine stp ?_; try simp [wpS, wpO, wpE, wpEs, wpB, binW, addW, subW, mulW, fdivW, modW, powW, cmpW, iiW, idxW, slcW, revW, negW, biW, itW, bindT, bindTs, wipeE, bW, ifW, ints1, isiW, isTy, lcW, topf, kOf, als, alss, flD, flDs, flK, disj, elK, lstW, intW, eqW, fzE, mvE, wpBnil, CMul, CPow, sizeLine_eq, -List.getD_eq_getElem?_getD]
      refine stp ?_
      simp only [wpS, wpEs, wpE, itW, List.getElem?_cons_succ, List.getElem?_cons_zero]
      refine ⟨by omega, by omega, ?_⟩
      have e : ((List.range (((n : Nat) : Int)).toNat).map fun i : Nat => D.int (0 + i)) = (List.range' 0 n).map fun i : Nat => D.int i := by
        rw [Int.toNat_natCast, List.range_eq_range']
        simp only [Int.zero_add]
      rw [e]
      refine pcs_l hl2 hb2 n 0 [] _ _ _ _ (by omega) hn rfl (fun p hp => nomatch hp) fun ps x6 x7 x8 x9 h1 h2 => ?_
      refine stp ?_
      try simp [wpS, wpO, wpE, wpEs, wpB, binW, addW, subW, mulW, fdivW, modW, powW, cmpW, iiW, idxW, slcW, revW, negW, biW, itW, bindT, bindTs, wipeE, bW, ifW, ints1, isiW, isTy, lcW, topf, kOf, als, alss, flD, flDs, flK, disj, elK, lstW, intW, eqW, fzE, mvE, wpBnil, CMul, CPow, sizeLine_eq, -List.getD_eq_getElem?_getD]
      exact ⟨_, ⟨rfl, ps, rfl, by omega, h2⟩, .inl rfl⟩
    try simp [wpS, wpO, wpE, wpEs, wpB, binW, addW, subW, mulW, fdivW, modW, powW, cmpW, iiW, idxW, slcW, revW, negW, biW, itW, bindT, bindTs, wipeE, bW, ifW, ints1, isiW, isTy, lcW, topf, kOf, als, alss, flD, flDs, flK, disj, elK, lstW, intW, eqW, fzE, mvE, wpBnil, CMul, CPow, sizeLine_eq, -List.getD_eq_getElem?_getD]
    refine stp ?_; try simp [wpS, wpO, wpE, wpEs, wpB, binW, addW, subW, mulW, fdivW, modW, powW, cmpW, iiW, idxW, slcW, revW, negW, biW, itW, bindT, bindTs, wipeE, bW, ifW, ints1, isiW, isTy, lcW, topf, kOf, als, alss, flD, flDs, flK, disj, elK, lstW, intW, eqW, fzE, mvE, wpBnil, CMul, CPow, sizeLine_eq, -List.getD_eq_getElem?_getD, i0]
    by_cases c : r1 = 0
    · subst c
      refine stp ?_; try simp [wpS, wpO, wpE, wpEs, wpB, binW, addW, subW, mulW, fdivW, modW, powW, cmpW, iiW, idxW, slcW, revW, negW, biW, itW, bindT, bindTs, wipeE, bW, ifW, ints1, isiW, isTy, lcW, topf, kOf, als, alss, flD, flDs, flK, disj, elK, lstW, intW, eqW, fzE, mvE, wpBnil, CMul, CPow, sizeLine_eq, -List.getD_eq_getElem?_getD, i1, shaped_int, eqB_int]
      refine stp ?_; try simp [wpS, wpO, wpE, wpEs, wpB, binW, addW, subW, mulW, fdivW, modW, powW, cmpW, iiW, idxW, slcW, revW, negW, biW, itW, bindT, bindTs, wipeE, bW, ifW, ints1, isiW, isTy, lcW, topf, kOf, als, alss, flD, flDs, flK, disj, elK, lstW, intW, eqW, fzE, mvE, wpBnil, CMul, CPow, sizeLine_eq, -List.getD_eq_getElem?_getD]
      exact fin 203 (by decide)
    · refine stp ?_; try simp [wpS, wpO, wpE, wpEs, wpB, binW, addW, subW, mulW, fdivW, modW, powW, cmpW, iiW, idxW, slcW, revW, negW, biW, itW, bindT, bindTs, wipeE, bW, ifW, ints1, isiW, isTy, lcW, topf, kOf, als, alss, flD, flDs, flK, disj, elK, lstW, intW, eqW, fzE, mvE, wpBnil, CMul, CPow, sizeLine_eq, -List.getD_eq_getElem?_getD, i1, c, shaped_int, eqB_int]
      have := fin r0.toNat (by omega)
      rw [Int.toNat_of_nonneg b0.1] at this
      exact this
end
end SV

set_option Elab.async false
set_option linter.all false
set_option maxRecDepth 100000
set_option maxHeartbeats 4000000
namespace SV
open PySem PySem.Spec PyProof.Rows L2 TL
def farP (p : Int × Str) : Int × Str := (p.1 * 1000000000000000000000000000000 - 1, p.2)
section
variable {S : Sg}
theorem l92 (hS : S.T "show_cutting" = some spLn) (hL : S.T "_law_line" = some spLn) (hR : S.T "read_cutting" = some spRc) (hC : S.T "_law_is_cutting" = some spCut92) {ps : List (Int × Str)} (hl : ps.length ≤ 203) (hp : ∀ p ∈ ps, okP p) {x0 x7 x8 : Option (Kd × D)} {Dd : Ed} :
    ∀ (l : List D) (x3 x4 x5 x6 : Option (Kd × D)), (∀ x3 x4 x5 x6, Dd.nx [x0, some (.ls .sh, .lst (ps.map enc92)), some (.ls .sh, .lst (ps.map (enc92 ∘ farP))), x3, x4, x5, x6, x7, x8]) →
    forW (fun D' ρ' => wpB' S b_law92_1 D' ρ') (.nm 3) l Dd [x0, some (.ls .sh, .lst (ps.map enc92)), some (.ls .sh, .lst (ps.map (enc92 ∘ farP))), x3, x4, x5, x6, x7, x8]
  | [], x3, x4, x5, x6, h => by simpa [forW] using h x3 x4 x5 x6
  | d :: l, x3, x4, x5, x6, h => by
    unfold forW
    simp only [bindT]
    have b1 : ∀ p ∈ ps, p.1.natAbs < 10 ^ 60 ∧ gNm p.2 = true := fun p q => ⟨Nat.lt_of_lt_of_le (hp p q).1 (by decide), (hp p q).2⟩
    have b2 : ∀ p ∈ ps.map farP, p.1.natAbs < 10 ^ 60 ∧ gNm p.2 = true := fun p q => by
      obtain ⟨z, hz, rfl⟩ := List.mem_map.mp q
      have h1 := (hp z hz).1
      refine ⟨?_, (hp z hz).2⟩
      show (z.1 * 1000000000000000000000000000000 - 1).natAbs < 10 ^ 60
      omega
    have fl3 : ps.all ((fun x => flD x) ∘ enc92) = true := List.all_eq_true.mpr fun p q => rfl
    have s1 := sh92 (ps := ps) fun p q => gNm_ok (hp p q).2
    have s2 := shaped_str (lnS_ok (ps := ps) fun p q => (hp p q).2)
    have s3 := shaped_str (lnS_ok (ps := ps.map farP) fun p q => (b2 p q).2)
    have q1 := eqB_refl (.lst (ps.map enc92))
    refine unf (by delta b_law92_1; rfl) ?_
    refine stp ?_; try simp [wpS, wpO, wpE, wpEs, wpB, binW, addW, subW, mulW, fdivW, modW, powW, cmpW, iiW, idxW, slcW, revW, negW, biW, itW, bindT, bindTs, wipeE, bW, ifW, ints1, isiW, isTy, lcW, topf, kOf, als, alss, flD, flDs, flK, disj, elK, lstW, intW, eqW, fzE, mvE, wpBnil, CMul, CPow, sizeLine_eq, -List.getD_eq_getElem?_getD]
    refine fOr_P fl3 ?_
    refine stp ?_; try simp [wpS, wpO, wpE, wpEs, wpB, binW, addW, subW, mulW, fdivW, modW, powW, cmpW, iiW, idxW, slcW, revW, negW, biW, itW, bindT, bindTs, wipeE, bW, ifW, ints1, isiW, isTy, lcW, topf, kOf, als, alss, flD, flDs, flK, disj, elK, lstW, intW, eqW, fzE, mvE, wpBnil, CMul, CPow, sizeLine_eq, -List.getD_eq_getElem?_getD, hS]
    refine ⟨_, ⟨ps, rfl, by omega, b1, rfl⟩, ?_⟩
    try simp [wpS, wpO, wpE, wpEs, wpB, binW, addW, subW, mulW, fdivW, modW, powW, cmpW, iiW, idxW, slcW, revW, negW, biW, itW, bindT, bindTs, wipeE, bW, ifW, ints1, isiW, isTy, lcW, topf, kOf, als, alss, flD, flDs, flK, disj, elK, lstW, intW, eqW, fzE, mvE, wpBnil, CMul, CPow, sizeLine_eq, -List.getD_eq_getElem?_getD]
    refine stp ?_; try simp [wpS, wpO, wpE, wpEs, wpB, binW, addW, subW, mulW, fdivW, modW, powW, cmpW, iiW, idxW, slcW, revW, negW, biW, itW, bindT, bindTs, wipeE, bW, ifW, ints1, isiW, isTy, lcW, topf, kOf, als, alss, flD, flDs, flK, disj, elK, lstW, intW, eqW, fzE, mvE, wpBnil, CMul, CPow, sizeLine_eq, -List.getD_eq_getElem?_getD, hL]
    refine ⟨_, ⟨ps, rfl, by omega, b1, rfl⟩, ?_⟩
    try simp [wpS, wpO, wpE, wpEs, wpB, binW, addW, subW, mulW, fdivW, modW, powW, cmpW, iiW, idxW, slcW, revW, negW, biW, itW, bindT, bindTs, wipeE, bW, ifW, ints1, isiW, isTy, lcW, topf, kOf, als, alss, flD, flDs, flK, disj, elK, lstW, intW, eqW, fzE, mvE, wpBnil, CMul, CPow, sizeLine_eq, -List.getD_eq_getElem?_getD, s1, s2, q1, eqB_str]
    refine stp ?_; try simp [wpS, wpO, wpE, wpEs, wpB, binW, addW, subW, mulW, fdivW, modW, powW, cmpW, iiW, idxW, slcW, revW, negW, biW, itW, bindT, bindTs, wipeE, bW, ifW, ints1, isiW, isTy, lcW, topf, kOf, als, alss, flD, flDs, flK, disj, elK, lstW, intW, eqW, fzE, mvE, wpBnil, CMul, CPow, sizeLine_eq, -List.getD_eq_getElem?_getD, hR]
    refine ⟨_, ⟨ps, rfl, by omega, hp, rfl⟩, ?_⟩
    try simp [wpS, wpO, wpE, wpEs, wpB, binW, addW, subW, mulW, fdivW, modW, powW, cmpW, iiW, idxW, slcW, revW, negW, biW, itW, bindT, bindTs, wipeE, bW, ifW, ints1, isiW, isTy, lcW, topf, kOf, als, alss, flD, flDs, flK, disj, elK, lstW, intW, eqW, fzE, mvE, wpBnil, CMul, CPow, sizeLine_eq, -List.getD_eq_getElem?_getD]
    refine stp ?_; try simp [wpS, wpO, wpE, wpEs, wpB, binW, addW, subW, mulW, fdivW, modW, powW, cmpW, iiW, idxW, slcW, revW, negW, biW, itW, bindT, bindTs, wipeE, bW, ifW, ints1, isiW, isTy, lcW, topf, kOf, als, alss, flD, flDs, flK, disj, elK, lstW, intW, eqW, fzE, mvE, wpBnil, CMul, CPow, sizeLine_eq, -List.getD_eq_getElem?_getD, hC]
    refine ⟨_, ⟨ps, rfl, rfl⟩, ?_⟩
    try simp [wpS, wpO, wpE, wpEs, wpB, binW, addW, subW, mulW, fdivW, modW, powW, cmpW, iiW, idxW, slcW, revW, negW, biW, itW, bindT, bindTs, wipeE, bW, ifW, ints1, isiW, isTy, lcW, topf, kOf, als, alss, flD, flDs, flK, disj, elK, lstW, intW, eqW, fzE, mvE, wpBnil, CMul, CPow, sizeLine_eq, -List.getD_eq_getElem?_getD, s1, q1]
    refine stp ?_; try simp [wpS, wpO, wpE, wpEs, wpB, binW, addW, subW, mulW, fdivW, modW, powW, cmpW, iiW, idxW, slcW, revW, negW, biW, itW, bindT, bindTs, wipeE, bW, ifW, ints1, isiW, isTy, lcW, topf, kOf, als, alss, flD, flDs, flK, disj, elK, lstW, intW, eqW, fzE, mvE, wpBnil, CMul, CPow, sizeLine_eq, -List.getD_eq_getElem?_getD, elK, flD]
    refine ⟨by omega, ?_⟩
    refine stp ?_; try simp [wpS, wpO, wpE, wpEs, wpB, binW, addW, subW, mulW, fdivW, modW, powW, cmpW, iiW, idxW, slcW, revW, negW, biW, itW, bindT, bindTs, wipeE, bW, ifW, ints1, isiW, isTy, lcW, topf, kOf, als, alss, flD, flDs, flK, disj, elK, lstW, intW, eqW, fzE, mvE, wpBnil, CMul, CPow, sizeLine_eq, -List.getD_eq_getElem?_getD, hS, hL]
    refine ⟨_, ⟨ps.map farP, by rw [List.map_map], by rw [List.length_map]; omega, b2, rfl⟩, ?_⟩
    try simp [wpS, wpO, wpE, wpEs, wpB, binW, addW, subW, mulW, fdivW, modW, powW, cmpW, iiW, idxW, slcW, revW, negW, biW, itW, bindT, bindTs, wipeE, bW, ifW, ints1, isiW, isTy, lcW, topf, kOf, als, alss, flD, flDs, flK, disj, elK, lstW, intW, eqW, fzE, mvE, wpBnil, CMul, CPow, sizeLine_eq, -List.getD_eq_getElem?_getD]
    refine ⟨_, ⟨ps.map farP, by rw [List.map_map], by rw [List.length_map]; omega, b2, rfl⟩, ?_⟩
    try simp [wpS, wpO, wpE, wpEs, wpB, binW, addW, subW, mulW, fdivW, modW, powW, cmpW, iiW, idxW, slcW, revW, negW, biW, itW, bindT, bindTs, wipeE, bW, ifW, ints1, isiW, isTy, lcW, topf, kOf, als, alss, flD, flDs, flK, disj, elK, lstW, intW, eqW, fzE, mvE, wpBnil, CMul, CPow, sizeLine_eq, -List.getD_eq_getElem?_getD, s3, eqB_str]
    exact l92 hS hL hR hC hl hp l _ _ _ _ h
theorem w_law92 (hP : S.T "_law_pieces" = some spPcs) (hS : S.T "show_cutting" = some spLn) (hL : S.T "_law_line" = some spLn) (hR : S.T "read_cutting" = some spRc) (hC : S.T "_law_is_cutting" = some spCut92) : ∀ ds o, lawSp 63 ds o → wpD S s_law92 N_law92 ds o := by
  rintro _ _ ⟨ns, hn, rfl, rfl⟩
  refine unfD (by delta s_law92; rfl) ?_
  unfold startE
  refine stp ?_; try simp [wpS, wpO, wpE, wpEs, wpB, binW, addW, subW, mulW, fdivW, modW, powW, cmpW, iiW, idxW, slcW, revW, negW, biW, itW, bindT, bindTs, wipeE, bW, ifW, ints1, isiW, isTy, lcW, topf, kOf, als, alss, flD, flDs, flK, disj, elK, lstW, intW, eqW, fzE, mvE, wpBnil, CMul, CPow, sizeLine_eq, -List.getD_eq_getElem?_getD, hP]
  refine ⟨_, ⟨ns, rfl, rfl⟩, ?_⟩
  refine ⟨?_, fun x h => h.elim⟩
  rintro _ _ ⟨rfl, ps, rfl, hl, hp⟩
  have fl : flK (.ls .sh) (.lst (ps.map enc92)) = true := by
    show (ps.map enc92).all (flK .sh) = true
    refine List.all_eq_true.mpr fun x hx => ?_
    obtain ⟨p, hq, rfl⟩ := List.mem_map.mp hx
    rfl
  refine stp ?_
  try simp [wpS, wpO, wpE, wpEs, wpB, binW, addW, subW, mulW, fdivW, modW, powW, cmpW, iiW, idxW, slcW, revW, negW, biW, itW, bindT, bindTs, wipeE, bW, ifW, ints1, isiW, isTy, lcW, topf, kOf, als, alss, flD, flDs, flK, disj, elK, lstW, intW, eqW, fzE, mvE, wpBnil, CMul, CPow, sizeLine_eq, -List.getD_eq_getElem?_getD]
  refine lc_fmK (enc := enc92) (f := fun p => some (enc92 (farP p))) (fun p hq kk hkk => ?_) (by rw [sizeLine_eq]; simp; omega) ?_
  · have h1 := (hp p hq).1
    unfold enc92
    try simp [wpS, wpO, wpE, wpEs, wpB, binW, addW, subW, mulW, fdivW, modW, powW, cmpW, iiW, idxW, slcW, revW, negW, biW, itW, bindT, bindTs, wipeE, bW, ifW, ints1, isiW, isTy, lcW, topf, kOf, als, alss, flD, flDs, flK, disj, elK, lstW, intW, eqW, fzE, mvE, wpBnil, CMul, CPow, sizeLine_eq, -List.getD_eq_getElem?_getD, bindT, bindTs]
    refine ⟨.inr ?_, hkk⟩
    have a1 := log_of (n := p.1) (Nat.lt_of_lt_of_le h1 (by decide))
    have a2 : (1000000000000000000000000000000 : Int).natAbs.log2 < 1920 := by decide +kernel
    unfold CMulW
    omega
  · rw [List.nil_append, List.filterMap_eq_map']
    refine fOr_P (List.all_eq_true.mpr fun x hx => by
      obtain ⟨p, hq, rfl⟩ := List.mem_map.mp hx
      rfl) ?_
    refine stp ?_
    simp only [wpS, wpEs, wpE, itW]
    refine ⟨by decide, by decide, ?_⟩
    refine l92 hS hL hR hC hl hp _ _ _ _ _ fun x3 x4 x5 x6 => ?_
    have s0 : SeqAt.shaped (toP (.lst [])) = true := shaped_of (n := 1) (by simp [shB]) (by decide)
    have e0 := eqB_refl (.lst [])
    refine stp ?_; try simp [wpS, wpO, wpE, wpEs, wpB, binW, addW, subW, mulW, fdivW, modW, powW, cmpW, iiW, idxW, slcW, revW, negW, biW, itW, bindT, bindTs, wipeE, bW, ifW, ints1, isiW, isTy, lcW, topf, kOf, als, alss, flD, flDs, flK, disj, elK, lstW, intW, eqW, fzE, mvE, wpBnil, CMul, CPow, sizeLine_eq, -List.getD_eq_getElem?_getD, hR]
    refine ⟨_, ⟨[], rfl, by decide, (fun p hp => nomatch hp), rfl⟩, ?_⟩
    try simp [wpS, wpO, wpE, wpEs, wpB, binW, addW, subW, mulW, fdivW, modW, powW, cmpW, iiW, idxW, slcW, revW, negW, biW, itW, bindT, bindTs, wipeE, bW, ifW, ints1, isiW, isTy, lcW, topf, kOf, als, alss, flD, flDs, flK, disj, elK, lstW, intW, eqW, fzE, mvE, wpBnil, CMul, CPow, sizeLine_eq, -List.getD_eq_getElem?_getD, s0, e0, edOf]
end
end SV

set_option Elab.async false
set_option linter.all false
set_option maxRecDepth 100000
set_option maxHeartbeats 1000000
namespace SV
open PySem PySem.Spec PyProof.Rows L2
/-! ### a law's signatures, its head -/
def lk {α : Type} : List (Str × α) → Str → Option α
  | [], _ => none
  | p :: l, g => if p.1 = g then some p.2 else lk l g
theorem lk_mem {α : Type} : ∀ {l : List (Str × α)} {g : Str} {a : α}, lk l g = some a → (g, a) ∈ l
  | [], _, _, h => nomatch h
  | p :: l, g, a, h => by
    unfold lk at h
    split at h
    · rename_i e
      cases h; subst e
      exact List.mem_cons_self ..
    · exact List.mem_cons_of_mem _ (lk_mem h)
theorem lk_0 {α : Type} {l : List (Str × α)} {g : Str} {a : α} : lk ((g, a) :: l) g = some a := if_pos rfl
theorem lk_s {α : Type} {l : List (Str × α)} {p : Str × α} {g : Str} {a : α} (h : p.1 ≠ g) (t : lk l g = some a) : lk (p :: l) g = some a := (if_neg h).trans t
def lk2 : List (Str × Str × Bool) → Str → Str → Option Bool
  | [], _, _ => none
  | p :: l, x, y => if p.1 = x ∧ p.2.1 = y then some p.2.2 else lk2 l x y
theorem lk2_mem : ∀ {l : List (Str × Str × Bool)} {x y : Str} {b : Bool}, lk2 l x y = some b → (x, y, b) ∈ l
  | [], _, _, _, h => nomatch h
  | p :: l, x, y, b, h => by
    unfold lk2 at h
    split at h
    · rename_i e
      obtain ⟨p1, p2, p3⟩ := p
      obtain ⟨rfl, rfl⟩ := e
      cases h
      exact List.mem_cons_self ..
    · exact List.mem_cons_of_mem _ (lk2_mem h)
def mkS (t : List (Str × Spec1)) (g : List (Str × D) := []) (x : List Str := []) (sb : List (Str × Str × Bool) := []) (fl : List (Str × Str) := []) (mi : List (Str × Str) := []) : Sg := { T := lk t, G := lk g, X := fun f => x.contains f, sub := lk2 sb, fld := fun a b => fl.contains (a, b), mi := lk mi }
section
variable {t : List (Str × Spec1)} {g : List (Str × D)} {x : List Str} {sb : List (Str × Str × Bool)} {fl mi : List (Str × Str)}
theorem mkS_T {f : Str} {sp : Spec1} (h : lk t f = some sp) : (mkS t g x sb fl mi).T f = some sp := h
theorem mkS_G {f : Str} {d : D} (h : lk g f = some d) : (mkS t g x sb fl mi).G f = some d := h
theorem mkS_X {f : Str} (h : x.contains f = true) : (mkS t g x sb fl mi).X f = true := h
theorem mkS_sub {a b : Str} {k : Bool} (h : lk2 sb a b = some k) : (mkS t g x sb fl mi).sub a b = some k := h
theorem mkS_fld {a b : Str} (h : fl.contains (a, b) = true) : (mkS t g x sb fl mi).fld a b = true := h
theorem mkS_mi {a b : Str} (h : lk mi a = some b) : (mkS t g x sb fl mi).mi a = some b := h
/-- a module's constant -/
def GloG (K : Fr) (mg : Str → Option Value) (x : Str) (d : D) : Prop := ∃ u v, mg x = some u ∧ RelV v u ∧ (∀ H, Rp K H (fun _ => False) v d) ∧ ∀ ds, d ≠ .lst ds
def ExcG (K : Fr) (mg : Str → Option Value) (f : Str) : Prop := ∃ C, mg f = some (.ref C) ∧ PySem.W.excIn K C veB "ValueError.__new__" = true ∧ PySem.W.keepIn K (.ref C) = true ∧ PySem.W.subIn K (.ref C) (.type "BaseException") = some true ∧ PySem.W.typeIn K (.ref C) = some (.type "type")
theorem mkCtx {P : Program} {w : World} {K : Fr} {mg : Str → Option Value} {base : Heap} {k : Nat} (free : ∀ b ∈ blts, mg b = none) (hg : ∀ p ∈ g, GloG K mg p.1 p.2) (hx : ∀ f ∈ x, ExcG K mg f) (hs : ∀ q ∈ sb, ClsF0 K mg q.1 q.2.1 q.2.2) (hf : ∀ q ∈ fl, FldF0 K mg q.1 q.2) (hm : ∀ q ∈ mi, GMk P w K mg base k q.1 q.2)
    (h : ∀ p ∈ t, GCall P w K mg base k p.1 p.2) : Ctx P w K mg base k (mkS t g x sb fl mi) :=
  ⟨free, fun x d e => hg (x, d) (lk_mem e), fun g sp e => h (g, sp) (lk_mem e), fun f e => hx f (List.contains_iff_mem.mp e), rfl, fun x y b e => hs (x, y, b) (lk2_mem e), fun x f e => hf (x, f) (List.contains_iff_mem.mp e), fun C f e => hm (C, f) (lk_mem e)⟩
end
theorem int_g {K : Fr} {h : Heap} {mg : Str → Option Value} {x : Str} {i : Int} (X : K.In h) (G : h.Ns mainGlobals mg) (c : He.Fa.ok K (.int x i) = true) : GloG K mg x (.int i) := by
  obtain ⟨t, e⟩ := He.int_ok X G c
  exact ⟨_, .int i, e, ⟨_, rfl⟩, fun _ => .int i, fun _ z => nomatch z⟩
theorem str_g {K : Fr} {h : Heap} {mg : Str → Option Value} {x z : Str} (X : K.In h) (G : h.Ns mainGlobals mg) (c : He.Fa.ok K (.str x z) = true) : GloG K mg x (.str z) := by
  obtain ⟨t, e⟩ := He.str_ok X G c
  exact ⟨_, .str z, e, ⟨_, rfl⟩, fun _ => .str z, fun _ z => nomatch z⟩
theorem exc_g {K : Fr} {h : Heap} {mg : Str → Option Value} {x : Str} (X : K.In h) (G : h.Ns mainGlobals mg) (g : He.Fa.ok K (.glo x) = true) (c : He.Fa.ok K (.exc x) = true) : ExcG K mg x := by
  unfold He.Fa.ok at c
  obtain ⟨c1, c⟩ := b2 c
  obtain ⟨c2, c⟩ := b2 c
  obtain ⟨c3, c4⟩ := b2 c
  exact ⟨_, He.glo_ok X G g, c1, c2, of_decide_eq_true c3, of_decide_eq_true c4⟩
/-- a class statement's body, one of its defs -/
def clsDef (s : Stmt) (j : Nat) : Stmt := match s with
  | .ClassDef _ _ _ b _ _ _ _ _ _ _ => b.getD j (.Pass ⟨0, 0, 0, 0⟩)
  | s => s
/-! ### a Hook with a Bool of one's own -/
def SaysE (fa : List He.Fa) (fn : List He.DefD) (ex : Fr → Bool) (K : Fr) : Prop := He.SaysD fa fn K ∧ ex K = true
def obsE (n : Nat) (fa : List He.Fa) (fn : List He.DefD) (ex : Fr → Bool) (g : Addr → Option Obj) : He.AlD × Bool := (He.obsD fa fn (He.frG g (He.asD g n ++ [cStatics])), ex (He.frG g (He.asD g n ++ [cStatics])))
def hookE (n : Nat) (fa : List He.Fa) (fn : List He.DefD) (ex : Fr → Bool) : PySem.W.Hook where
  α := He.AlD × Bool
  obs := fun s => obsE n fa fn ex s.heap.get?
  val := fun _ => (He.valD fn, true)
  says := fun _ h => ∃ K : Fr, K.In h ∧ SaysE fa fn ex K
  of := fun _ _ e => ⟨_, He.frG_in, congrArg (fun z : He.AlD × Bool => z.1) e, congrArg (fun z : He.AlD × Bool => z.2) e⟩
  keeps := fun _ _ _ ⟨K, hK, c⟩ k => ⟨K, PySem.W.Frag.In.keeps hK k, c⟩
theorem obsE_eq {n : Nat} {fa : List He.Fa} {fn : List He.DefD} {ex : Fr → Bool} {g : Addr → Option Obj} {s : Shared} (h : ∀ a, g a = s.heap.get? a) : obsE n fa fn ex g = (hookE n fa fn ex).obs s := by
  have e : g = s.heap.get? := funext h
  rw [e] <;> rfl
theorem all_free {K : Fr} {h : Heap} {mg : Str → Option Value} (X : K.In h) (G : h.Ns mainGlobals mg) {fa : List He.Fa} {fn : List He.DefD} (c : He.SaysD fa fn K) (q : ∀ b ∈ blts, He.Fa.free b ∈ fa) : ∀ b ∈ blts, mg b = none := fun b hb => by
  obtain ⟨i, hi⟩ := List.getElem?_of_mem (q b hb)
  exact He.free_ok X G (c.fact i hi)
theorem GCall.mk' {P : Program} {w : World} {K : Fr} {mg : Str → Option Value} {base : Heap} {j : Nat} {g : Str} {sp : Spec1} {fa : Addr} {fd : FuncData} {ps : List Str} (F : FnOk P w K mg base (L2.CX P w) j fa fd ps (spV K mg sp)) (hm : mg g = some (.ref fa)) (hk : PySem.W.keepIn K (.ref fa) = true) (hb : Binds K fd ps []) {k : Nat} (h : j ≤ k) : GCall P w K mg base k g sp := ⟨⟨fa, fd, ps, j, h, F, hm, hk, hb⟩⟩
end SV

set_option Elab.async false
set_option linter.all false
set_option maxRecDepth 100000
set_option maxHeartbeats 0
namespace SV.Top
open PySem PySem.Spec PyProof.Rows L2
def top (i : Nat) : Stmt := PySem.Challenge.pw_selvage_k92_cuttings_there_and_back.main.body.getD i (.Pass ⟨0, 0, 0, 0⟩)
abbrev FnP (K : PySem.W.Frag) (x : Str) (st : Stmt) (f : Addr) (fd : FuncData) : Prop := FunD K x x (defArgs st) (defBody st) (defScope st) [] [] f fd
abbrev t__law_cell : Stmt := top 16
theorem sc__law_cell : FnScope N__law_cell P__law_cell (defScope t__law_cell) := ⟨rfl, rfl, rfl, by decide +kernel, rfl, by decide +kernel, by decide +kernel⟩
theorem ck__law_cell : chkSs N__law_cell (defScope t__law_cell) false s__law_cell (defBody t__law_cell) = true := by decide +kernel
def d__law_cell : He.DefD := ⟨("_law_cell", none), "_law_cell", "_law_cell", defArgs t__law_cell, defBody t__law_cell, defScope t__law_cell, [], []⟩
abbrev t__law_mix : Stmt := top 17
theorem sc__law_mix : FnScope N__law_mix P__law_mix (defScope t__law_mix) := ⟨rfl, rfl, rfl, by decide +kernel, rfl, by decide +kernel, by decide +kernel⟩
theorem ck__law_mix : chkSs N__law_mix (defScope t__law_mix) false s__law_mix (defBody t__law_mix) = true := by decide +kernel
def d__law_mix : He.DefD := ⟨("_law_mix", none), "_law_mix", "_law_mix", defArgs t__law_mix, defBody t__law_mix, defScope t__law_mix, [], []⟩
abbrev t__law_row : Stmt := top 18
theorem sc__law_row : FnScope N__law_row P__law_row (defScope t__law_row) := ⟨rfl, rfl, rfl, by decide +kernel, rfl, by decide +kernel, by decide +kernel⟩
theorem ck__law_row : chkSs N__law_row (defScope t__law_row) false s__law_row (defBody t__law_row) = true := by decide +kernel
def d__law_row : He.DefD := ⟨("_law_row", none), "_law_row", "_law_row", defArgs t__law_row, defBody t__law_row, defScope t__law_row, [], []⟩
abbrev t__law_is_whole : Stmt := top 19
theorem sc__law_is_whole : FnScope N__law_is_whole P__law_is_whole (defScope t__law_is_whole) := ⟨rfl, rfl, rfl, by decide +kernel, rfl, by decide +kernel, by decide +kernel⟩
theorem ck__law_is_whole : chkSs N__law_is_whole (defScope t__law_is_whole) false s__law_is_whole (defBody t__law_is_whole) = true := by decide +kernel
def d__law_is_whole : He.DefD := ⟨("_law_is_whole", none), "_law_is_whole", "_law_is_whole", defArgs t__law_is_whole, defBody t__law_is_whole, defScope t__law_is_whole, [], []⟩
abbrev t_good_name : Stmt := top 6
theorem sc_good_name : FnScope N_good_name11 P_good_name11 (defScope t_good_name) := ⟨rfl, rfl, rfl, by decide +kernel, rfl, by decide +kernel, by decide +kernel⟩
theorem ck_good_name : chkSs N_good_name11 (defScope t_good_name) false s_good_name11 (defBody t_good_name) = true := by decide +kernel
def d_good_name : He.DefD := ⟨("good_name", none), "good_name", "good_name", defArgs t_good_name, defBody t_good_name, defScope t_good_name, [], []⟩
abbrev t_read_whole : Stmt := top 11
theorem sc_read_whole : FnScope N_read_whole92 P_read_whole92 (defScope t_read_whole) := ⟨rfl, rfl, rfl, by decide +kernel, rfl, by decide +kernel, by decide +kernel⟩
theorem ck_read_whole : chkSs N_read_whole92 (defScope t_read_whole) false s_read_whole92 (defBody t_read_whole) = true := by decide +kernel
def d_read_whole : He.DefD := ⟨("read_whole", none), "read_whole", "read_whole", defArgs t_read_whole, defBody t_read_whole, defScope t_read_whole, [], []⟩
abbrev t_read_name : Stmt := top 12
theorem sc_read_name : FnScope N_read_name92 P_read_name92 (defScope t_read_name) := ⟨rfl, rfl, rfl, by decide +kernel, rfl, by decide +kernel, by decide +kernel⟩
theorem ck_read_name : chkSs N_read_name92 (defScope t_read_name) false s_read_name92 (defBody t_read_name) = true := by decide +kernel
def d_read_name : He.DefD := ⟨("read_name", none), "read_name", "read_name", defArgs t_read_name, defBody t_read_name, defScope t_read_name, [], []⟩
abbrev t_read_piece : Stmt := top 13
theorem sc_read_piece : FnScope N_read_piece92 P_read_piece92 (defScope t_read_piece) := ⟨rfl, rfl, rfl, by decide +kernel, rfl, by decide +kernel, by decide +kernel⟩
theorem ck_read_piece : chkSs N_read_piece92 (defScope t_read_piece) false s_read_piece92 (defBody t_read_piece) = true := by decide +kernel
def d_read_piece : He.DefD := ⟨("read_piece", none), "read_piece", "read_piece", defArgs t_read_piece, defBody t_read_piece, defScope t_read_piece, [], []⟩
abbrev t_read_cutting : Stmt := top 14
theorem sc_read_cutting : FnScope N_read_cutting92 P_read_cutting92 (defScope t_read_cutting) := ⟨rfl, rfl, rfl, by decide +kernel, rfl, by decide +kernel, by decide +kernel⟩
theorem ck_read_cutting : chkSs N_read_cutting92 (defScope t_read_cutting) false s_read_cutting92 (defBody t_read_cutting) = true := by decide +kernel
def d_read_cutting : He.DefD := ⟨("read_cutting", none), "read_cutting", "read_cutting", defArgs t_read_cutting, defBody t_read_cutting, defScope t_read_cutting, [], []⟩
abbrev t_show_cutting : Stmt := top 10
theorem sc_show_cutting : FnScope N_show_cutting92 P_show_cutting92 (defScope t_show_cutting) := ⟨rfl, rfl, rfl, by decide +kernel, rfl, by decide +kernel, by decide +kernel⟩
theorem ck_show_cutting : chkSs N_show_cutting92 (defScope t_show_cutting) false s_show_cutting92 (defBody t_show_cutting) = true := by decide +kernel
def d_show_cutting : He.DefD := ⟨("show_cutting", none), "show_cutting", "show_cutting", defArgs t_show_cutting, defBody t_show_cutting, defScope t_show_cutting, [], []⟩
abbrev t__law_line : Stmt := top 21
theorem sc__law_line : FnScope N__law_line92 P__law_line92 (defScope t__law_line) := ⟨rfl, rfl, rfl, by decide +kernel, rfl, by decide +kernel, by decide +kernel⟩
theorem ck__law_line : chkSs N__law_line92 (defScope t__law_line) false s__law_line92 (defBody t__law_line) = true := by decide +kernel
def d__law_line : He.DefD := ⟨("_law_line", none), "_law_line", "_law_line", defArgs t__law_line, defBody t__law_line, defScope t__law_line, [], []⟩
abbrev t__law_is_cutting : Stmt := top 20
theorem sc__law_is_cutting : FnScope N__law_is_cutting92 P__law_is_cutting92 (defScope t__law_is_cutting) := ⟨rfl, rfl, rfl, by decide +kernel, rfl, by decide +kernel, by decide +kernel⟩
theorem ck__law_is_cutting : chkSs N__law_is_cutting92 (defScope t__law_is_cutting) false s__law_is_cutting92 (defBody t__law_is_cutting) = true := by decide +kernel
def d__law_is_cutting : He.DefD := ⟨("_law_is_cutting", none), "_law_is_cutting", "_law_is_cutting", defArgs t__law_is_cutting, defBody t__law_is_cutting, defScope t__law_is_cutting, [], []⟩
abbrev t__law_pieces : Stmt := top 22
theorem sc__law_pieces : FnScope N__law_pieces92 P__law_pieces92 (defScope t__law_pieces) := ⟨rfl, rfl, rfl, by decide +kernel, rfl, by decide +kernel, by decide +kernel⟩
theorem ck__law_pieces : chkSs N__law_pieces92 (defScope t__law_pieces) false s__law_pieces92 (defBody t__law_pieces) = true := by decide +kernel
def d__law_pieces : He.DefD := ⟨("_law_pieces", none), "_law_pieces", "_law_pieces", defArgs t__law_pieces, defBody t__law_pieces, defScope t__law_pieces, [], []⟩
abbrev t_law : Stmt := top 23
theorem sc_law : FnScope N_law92 P_law92 (defScope t_law) := ⟨rfl, rfl, rfl, by decide +kernel, rfl, by decide +kernel, by decide +kernel⟩
theorem ck_law : chkSs N_law92 (defScope t_law) false s_law92 (defBody t_law) = true := by decide +kernel
def d_law : He.DefD := ⟨("law", none), "law", "law", defArgs t_law, defBody t_law, defScope t_law, [], []⟩
def fn : List He.DefD := [d__law_cell, d__law_mix, d__law_row, d__law_is_whole, d_good_name, d_read_whole, d_read_name, d_read_piece, d_read_cutting, d_show_cutting, d__law_line, d__law_is_cutting, d__law_pieces, d_law]
def fa : List He.Fa := [.glo "_law_cell", .glo "_law_mix", .glo "_law_row", .glo "_law_is_whole", .glo "good_name", .glo "read_whole", .glo "read_name", .glo "read_piece", .glo "read_cutting", .glo "show_cutting", .glo "_law_line", .glo "_law_is_cutting", .glo "_law_pieces", .glo "law", .str "LETTERS" "abcdefghijklmnopqrstuvwxyz", .int "LONGEST_NAME" 8, .str "FIGURES" "0123456789", .int "MOST_FIGURES" 20, .glo "NoLine", .exc "NoLine"] ++ blts.map He.Fa.free
def sb : List (Str × Str × Bool) := []
def fl : List (Str × Str) := []
def mi : List (Str × Str) := []
def xx : List Str := ["NoLine"]
def gg : List (Str × D) := [("LETTERS", .str "abcdefghijklmnopqrstuvwxyz"), ("LONGEST_NAME", .int 8), ("FIGURES", .str "0123456789"), ("MOST_FIGURES", .int 20)]
def bas : List Str := []
def ex (K : Fr) : Bool := sb.all (clsB K) && (fl.all (fldB K) && (mi.all (miB K) && bas.all (basB K)))
abbrev R : PySem.W.OpenRow := PySem.W.OpenLaw.row PySem.Challenge.rw_selvage_k92_cuttings_there_and_back
abbrev hk : PySem.W.Hook := hookE 5 fa fn ex
def ob (s : PySem.W.SharedT) : He.AlD × Bool := obsE 5 fa fn ex (HandSHeadRun.getT s)
theorem ob_eq (s : PySem.W.SharedT) : ob s = hk.obs s.abs := obsE_eq (HandSHeadRun.getT_eq s)
theorem run (w : World) : HandSHeadRun.RunEq R (PySem.W.view R.prog [23]) hk ob 4000 ["good_name", "show_cutting", "read_whole", "read_name", "read_piece", "read_cutting", "_law_cell", "_law_mix", "_law_row", "_law_is_whole", "_law_is_cutting", "_law_line", "_law_pieces", "CutError", "NoLine", "LETTERS", "LONGEST_NAME", "FIGURES", "MOST_FIGURES"] w := by
  intro os
  kernel_rfl
theorem hl__law_cell : ∀ ds o, spCell ds o → ds.length = P__law_cell.length := by
  intro ds o h
  first
  | (obtain ⟨_, rfl, _⟩ := h; rfl)
  | (obtain ⟨_, _, rfl, _⟩ := h; rfl)
  | (obtain ⟨_, _, _, rfl, _⟩ := h; rfl)
  | (obtain ⟨_, _, _, _, rfl, _⟩ := h; rfl)
  | (obtain ⟨_, _, _, _, _, rfl, _⟩ := h; rfl)
  | (obtain ⟨_, _, _, _, _, _, rfl, _⟩ := h; rfl)
  | (obtain ⟨_, _, _, _, _, _, _, rfl, _⟩ := h; rfl)
  | (obtain ⟨_, _, _, _, _, _, _, _, rfl, _⟩ := h; rfl)
  | (obtain ⟨_, _, _, _, _, _, _, _, _, rfl, _⟩ := h; rfl)
  | (obtain ⟨_, _, _, _, _, _, _, _, _, _, rfl, _⟩ := h; rfl)
  | (obtain ⟨_, _, _, _, _, _, _, _, _, _, _, rfl, _⟩ := h; rfl)
  | (obtain ⟨_, _, _, _, _, _, _, _, _, _, _, _, rfl, _⟩ := h; rfl)
  | (obtain ⟨_, _, rfl, _⟩ := h; rfl)
  | (obtain ⟨_, _, _, rfl, _⟩ := h; rfl)
theorem hl__law_mix : ∀ ds o, spMix ds o → ds.length = P__law_mix.length := by
  intro ds o h
  first
  | (obtain ⟨_, rfl, _⟩ := h; rfl)
  | (obtain ⟨_, _, rfl, _⟩ := h; rfl)
  | (obtain ⟨_, _, _, rfl, _⟩ := h; rfl)
  | (obtain ⟨_, _, _, _, rfl, _⟩ := h; rfl)
  | (obtain ⟨_, _, _, _, _, rfl, _⟩ := h; rfl)
  | (obtain ⟨_, _, _, _, _, _, rfl, _⟩ := h; rfl)
  | (obtain ⟨_, _, _, _, _, _, _, rfl, _⟩ := h; rfl)
  | (obtain ⟨_, _, _, _, _, _, _, _, rfl, _⟩ := h; rfl)
  | (obtain ⟨_, _, _, _, _, _, _, _, _, rfl, _⟩ := h; rfl)
  | (obtain ⟨_, _, _, _, _, _, _, _, _, _, rfl, _⟩ := h; rfl)
  | (obtain ⟨_, _, _, _, _, _, _, _, _, _, _, rfl, _⟩ := h; rfl)
  | (obtain ⟨_, _, _, _, _, _, _, _, _, _, _, _, rfl, _⟩ := h; rfl)
  | (obtain ⟨_, _, rfl, _⟩ := h; rfl)
  | (obtain ⟨_, _, _, rfl, _⟩ := h; rfl)
theorem hl__law_row : ∀ ds o, spRow ds o → ds.length = P__law_row.length := by
  intro ds o h
  first
  | (obtain ⟨_, rfl, _⟩ := h; rfl)
  | (obtain ⟨_, _, rfl, _⟩ := h; rfl)
  | (obtain ⟨_, _, _, rfl, _⟩ := h; rfl)
  | (obtain ⟨_, _, _, _, rfl, _⟩ := h; rfl)
  | (obtain ⟨_, _, _, _, _, rfl, _⟩ := h; rfl)
  | (obtain ⟨_, _, _, _, _, _, rfl, _⟩ := h; rfl)
  | (obtain ⟨_, _, _, _, _, _, _, rfl, _⟩ := h; rfl)
  | (obtain ⟨_, _, _, _, _, _, _, _, rfl, _⟩ := h; rfl)
  | (obtain ⟨_, _, _, _, _, _, _, _, _, rfl, _⟩ := h; rfl)
  | (obtain ⟨_, _, _, _, _, _, _, _, _, _, rfl, _⟩ := h; rfl)
  | (obtain ⟨_, _, _, _, _, _, _, _, _, _, _, rfl, _⟩ := h; rfl)
  | (obtain ⟨_, _, _, _, _, _, _, _, _, _, _, _, rfl, _⟩ := h; rfl)
  | (obtain ⟨_, _, rfl, _⟩ := h; rfl)
  | (obtain ⟨_, _, _, rfl, _⟩ := h; rfl)
theorem hl__law_is_whole : ∀ ds o, spWhole ds o → ds.length = P__law_is_whole.length := by
  intro ds o h
  first
  | (obtain ⟨_, rfl, _⟩ := h; rfl)
  | (obtain ⟨_, _, rfl, _⟩ := h; rfl)
  | (obtain ⟨_, _, _, rfl, _⟩ := h; rfl)
  | (obtain ⟨_, _, _, _, rfl, _⟩ := h; rfl)
  | (obtain ⟨_, _, _, _, _, rfl, _⟩ := h; rfl)
  | (obtain ⟨_, _, _, _, _, _, rfl, _⟩ := h; rfl)
  | (obtain ⟨_, _, _, _, _, _, _, rfl, _⟩ := h; rfl)
  | (obtain ⟨_, _, _, _, _, _, _, _, rfl, _⟩ := h; rfl)
  | (obtain ⟨_, _, _, _, _, _, _, _, _, rfl, _⟩ := h; rfl)
  | (obtain ⟨_, _, _, _, _, _, _, _, _, _, rfl, _⟩ := h; rfl)
  | (obtain ⟨_, _, _, _, _, _, _, _, _, _, _, rfl, _⟩ := h; rfl)
  | (obtain ⟨_, _, _, _, _, _, _, _, _, _, _, _, rfl, _⟩ := h; rfl)
  | (obtain ⟨_, _, rfl, _⟩ := h; rfl)
  | (obtain ⟨_, _, _, rfl, _⟩ := h; rfl)
theorem hl_good_name : ∀ ds o, spGN ds o → ds.length = P_good_name11.length := by
  intro ds o h
  first
  | (obtain ⟨_, rfl, _⟩ := h; rfl)
  | (obtain ⟨_, _, rfl, _⟩ := h; rfl)
  | (obtain ⟨_, _, _, rfl, _⟩ := h; rfl)
  | (obtain ⟨_, _, _, _, rfl, _⟩ := h; rfl)
  | (obtain ⟨_, _, _, _, _, rfl, _⟩ := h; rfl)
  | (obtain ⟨_, _, _, _, _, _, rfl, _⟩ := h; rfl)
  | (obtain ⟨_, _, _, _, _, _, _, rfl, _⟩ := h; rfl)
  | (obtain ⟨_, _, _, _, _, _, _, _, rfl, _⟩ := h; rfl)
  | (obtain ⟨_, _, _, _, _, _, _, _, _, rfl, _⟩ := h; rfl)
  | (obtain ⟨_, _, _, _, _, _, _, _, _, _, rfl, _⟩ := h; rfl)
  | (obtain ⟨_, _, _, _, _, _, _, _, _, _, _, rfl, _⟩ := h; rfl)
  | (obtain ⟨_, _, _, _, _, _, _, _, _, _, _, _, rfl, _⟩ := h; rfl)
  | (obtain ⟨_, _, rfl, _⟩ := h; rfl)
  | (obtain ⟨_, _, _, rfl, _⟩ := h; rfl)
theorem hl_read_whole : ∀ ds o, spWh ds o → ds.length = P_read_whole92.length := by
  intro ds o h
  first
  | (obtain ⟨_, rfl, _⟩ := h; rfl)
  | (obtain ⟨_, _, rfl, _⟩ := h; rfl)
  | (obtain ⟨_, _, _, rfl, _⟩ := h; rfl)
  | (obtain ⟨_, _, _, _, rfl, _⟩ := h; rfl)
  | (obtain ⟨_, _, _, _, _, rfl, _⟩ := h; rfl)
  | (obtain ⟨_, _, _, _, _, _, rfl, _⟩ := h; rfl)
  | (obtain ⟨_, _, _, _, _, _, _, rfl, _⟩ := h; rfl)
  | (obtain ⟨_, _, _, _, _, _, _, _, rfl, _⟩ := h; rfl)
  | (obtain ⟨_, _, _, _, _, _, _, _, _, rfl, _⟩ := h; rfl)
  | (obtain ⟨_, _, _, _, _, _, _, _, _, _, rfl, _⟩ := h; rfl)
  | (obtain ⟨_, _, _, _, _, _, _, _, _, _, _, rfl, _⟩ := h; rfl)
  | (obtain ⟨_, _, _, _, _, _, _, _, _, _, _, _, rfl, _⟩ := h; rfl)
  | (obtain ⟨_, _, rfl, _⟩ := h; rfl)
  | (obtain ⟨_, _, _, rfl, _⟩ := h; rfl)
theorem hl_read_name : ∀ ds o, spNm ds o → ds.length = P_read_name92.length := by
  intro ds o h
  first
  | (obtain ⟨_, rfl, _⟩ := h; rfl)
  | (obtain ⟨_, _, rfl, _⟩ := h; rfl)
  | (obtain ⟨_, _, _, rfl, _⟩ := h; rfl)
  | (obtain ⟨_, _, _, _, rfl, _⟩ := h; rfl)
  | (obtain ⟨_, _, _, _, _, rfl, _⟩ := h; rfl)
  | (obtain ⟨_, _, _, _, _, _, rfl, _⟩ := h; rfl)
  | (obtain ⟨_, _, _, _, _, _, _, rfl, _⟩ := h; rfl)
  | (obtain ⟨_, _, _, _, _, _, _, _, rfl, _⟩ := h; rfl)
  | (obtain ⟨_, _, _, _, _, _, _, _, _, rfl, _⟩ := h; rfl)
  | (obtain ⟨_, _, _, _, _, _, _, _, _, _, rfl, _⟩ := h; rfl)
  | (obtain ⟨_, _, _, _, _, _, _, _, _, _, _, rfl, _⟩ := h; rfl)
  | (obtain ⟨_, _, _, _, _, _, _, _, _, _, _, _, rfl, _⟩ := h; rfl)
  | (obtain ⟨_, _, rfl, _⟩ := h; rfl)
  | (obtain ⟨_, _, _, rfl, _⟩ := h; rfl)
theorem hl_read_piece : ∀ ds o, spPie ds o → ds.length = P_read_piece92.length := by
  intro ds o h
  first
  | (obtain ⟨_, rfl, _⟩ := h; rfl)
  | (obtain ⟨_, _, rfl, _⟩ := h; rfl)
  | (obtain ⟨_, _, _, rfl, _⟩ := h; rfl)
  | (obtain ⟨_, _, _, _, rfl, _⟩ := h; rfl)
  | (obtain ⟨_, _, _, _, _, rfl, _⟩ := h; rfl)
  | (obtain ⟨_, _, _, _, _, _, rfl, _⟩ := h; rfl)
  | (obtain ⟨_, _, _, _, _, _, _, rfl, _⟩ := h; rfl)
  | (obtain ⟨_, _, _, _, _, _, _, _, rfl, _⟩ := h; rfl)
  | (obtain ⟨_, _, _, _, _, _, _, _, _, rfl, _⟩ := h; rfl)
  | (obtain ⟨_, _, _, _, _, _, _, _, _, _, rfl, _⟩ := h; rfl)
  | (obtain ⟨_, _, _, _, _, _, _, _, _, _, _, rfl, _⟩ := h; rfl)
  | (obtain ⟨_, _, _, _, _, _, _, _, _, _, _, _, rfl, _⟩ := h; rfl)
  | (obtain ⟨_, _, rfl, _⟩ := h; rfl)
  | (obtain ⟨_, _, _, rfl, _⟩ := h; rfl)
theorem hl_read_cutting : ∀ ds o, spRc ds o → ds.length = P_read_cutting92.length := by
  intro ds o h
  first
  | (obtain ⟨_, rfl, _⟩ := h; rfl)
  | (obtain ⟨_, _, rfl, _⟩ := h; rfl)
  | (obtain ⟨_, _, _, rfl, _⟩ := h; rfl)
  | (obtain ⟨_, _, _, _, rfl, _⟩ := h; rfl)
  | (obtain ⟨_, _, _, _, _, rfl, _⟩ := h; rfl)
  | (obtain ⟨_, _, _, _, _, _, rfl, _⟩ := h; rfl)
  | (obtain ⟨_, _, _, _, _, _, _, rfl, _⟩ := h; rfl)
  | (obtain ⟨_, _, _, _, _, _, _, _, rfl, _⟩ := h; rfl)
  | (obtain ⟨_, _, _, _, _, _, _, _, _, rfl, _⟩ := h; rfl)
  | (obtain ⟨_, _, _, _, _, _, _, _, _, _, rfl, _⟩ := h; rfl)
  | (obtain ⟨_, _, _, _, _, _, _, _, _, _, _, rfl, _⟩ := h; rfl)
  | (obtain ⟨_, _, _, _, _, _, _, _, _, _, _, _, rfl, _⟩ := h; rfl)
  | (obtain ⟨_, _, rfl, _⟩ := h; rfl)
  | (obtain ⟨_, _, _, rfl, _⟩ := h; rfl)
theorem hl_show_cutting : ∀ ds o, spLn ds o → ds.length = P_show_cutting92.length := by
  intro ds o h
  first
  | (obtain ⟨_, rfl, _⟩ := h; rfl)
  | (obtain ⟨_, _, rfl, _⟩ := h; rfl)
  | (obtain ⟨_, _, _, rfl, _⟩ := h; rfl)
  | (obtain ⟨_, _, _, _, rfl, _⟩ := h; rfl)
  | (obtain ⟨_, _, _, _, _, rfl, _⟩ := h; rfl)
  | (obtain ⟨_, _, _, _, _, _, rfl, _⟩ := h; rfl)
  | (obtain ⟨_, _, _, _, _, _, _, rfl, _⟩ := h; rfl)
  | (obtain ⟨_, _, _, _, _, _, _, _, rfl, _⟩ := h; rfl)
  | (obtain ⟨_, _, _, _, _, _, _, _, _, rfl, _⟩ := h; rfl)
  | (obtain ⟨_, _, _, _, _, _, _, _, _, _, rfl, _⟩ := h; rfl)
  | (obtain ⟨_, _, _, _, _, _, _, _, _, _, _, rfl, _⟩ := h; rfl)
  | (obtain ⟨_, _, _, _, _, _, _, _, _, _, _, _, rfl, _⟩ := h; rfl)
  | (obtain ⟨_, _, rfl, _⟩ := h; rfl)
  | (obtain ⟨_, _, _, rfl, _⟩ := h; rfl)
theorem hl__law_line : ∀ ds o, spLn ds o → ds.length = P__law_line92.length := by
  intro ds o h
  first
  | (obtain ⟨_, rfl, _⟩ := h; rfl)
  | (obtain ⟨_, _, rfl, _⟩ := h; rfl)
  | (obtain ⟨_, _, _, rfl, _⟩ := h; rfl)
  | (obtain ⟨_, _, _, _, rfl, _⟩ := h; rfl)
  | (obtain ⟨_, _, _, _, _, rfl, _⟩ := h; rfl)
  | (obtain ⟨_, _, _, _, _, _, rfl, _⟩ := h; rfl)
  | (obtain ⟨_, _, _, _, _, _, _, rfl, _⟩ := h; rfl)
  | (obtain ⟨_, _, _, _, _, _, _, _, rfl, _⟩ := h; rfl)
  | (obtain ⟨_, _, _, _, _, _, _, _, _, rfl, _⟩ := h; rfl)
  | (obtain ⟨_, _, _, _, _, _, _, _, _, _, rfl, _⟩ := h; rfl)
  | (obtain ⟨_, _, _, _, _, _, _, _, _, _, _, rfl, _⟩ := h; rfl)
  | (obtain ⟨_, _, _, _, _, _, _, _, _, _, _, _, rfl, _⟩ := h; rfl)
  | (obtain ⟨_, _, rfl, _⟩ := h; rfl)
  | (obtain ⟨_, _, _, rfl, _⟩ := h; rfl)
theorem hl__law_is_cutting : ∀ ds o, spCut92 ds o → ds.length = P__law_is_cutting92.length := by
  intro ds o h
  first
  | (obtain ⟨_, rfl, _⟩ := h; rfl)
  | (obtain ⟨_, _, rfl, _⟩ := h; rfl)
  | (obtain ⟨_, _, _, rfl, _⟩ := h; rfl)
  | (obtain ⟨_, _, _, _, rfl, _⟩ := h; rfl)
  | (obtain ⟨_, _, _, _, _, rfl, _⟩ := h; rfl)
  | (obtain ⟨_, _, _, _, _, _, rfl, _⟩ := h; rfl)
  | (obtain ⟨_, _, _, _, _, _, _, rfl, _⟩ := h; rfl)
  | (obtain ⟨_, _, _, _, _, _, _, _, rfl, _⟩ := h; rfl)
  | (obtain ⟨_, _, _, _, _, _, _, _, _, rfl, _⟩ := h; rfl)
  | (obtain ⟨_, _, _, _, _, _, _, _, _, _, rfl, _⟩ := h; rfl)
  | (obtain ⟨_, _, _, _, _, _, _, _, _, _, _, rfl, _⟩ := h; rfl)
  | (obtain ⟨_, _, _, _, _, _, _, _, _, _, _, _, rfl, _⟩ := h; rfl)
  | (obtain ⟨_, _, rfl, _⟩ := h; rfl)
  | (obtain ⟨_, _, _, rfl, _⟩ := h; rfl)
theorem hl__law_pieces : ∀ ds o, spPcs ds o → ds.length = P__law_pieces92.length := by
  intro ds o h
  first
  | (obtain ⟨_, rfl, _⟩ := h; rfl)
  | (obtain ⟨_, _, rfl, _⟩ := h; rfl)
  | (obtain ⟨_, _, _, rfl, _⟩ := h; rfl)
  | (obtain ⟨_, _, _, _, rfl, _⟩ := h; rfl)
  | (obtain ⟨_, _, _, _, _, rfl, _⟩ := h; rfl)
  | (obtain ⟨_, _, _, _, _, _, rfl, _⟩ := h; rfl)
  | (obtain ⟨_, _, _, _, _, _, _, rfl, _⟩ := h; rfl)
  | (obtain ⟨_, _, _, _, _, _, _, _, rfl, _⟩ := h; rfl)
  | (obtain ⟨_, _, _, _, _, _, _, _, _, rfl, _⟩ := h; rfl)
  | (obtain ⟨_, _, _, _, _, _, _, _, _, _, rfl, _⟩ := h; rfl)
  | (obtain ⟨_, _, _, _, _, _, _, _, _, _, _, rfl, _⟩ := h; rfl)
  | (obtain ⟨_, _, _, _, _, _, _, _, _, _, _, _, rfl, _⟩ := h; rfl)
  | (obtain ⟨_, _, rfl, _⟩ := h; rfl)
  | (obtain ⟨_, _, _, rfl, _⟩ := h; rfl)
theorem hl_law : ∀ ds o, lawSp 63 ds o → ds.length = P_law92.length := by
  intro ds o h
  first
  | (obtain ⟨_, rfl, _⟩ := h; rfl)
  | (obtain ⟨_, _, rfl, _⟩ := h; rfl)
  | (obtain ⟨_, _, _, rfl, _⟩ := h; rfl)
  | (obtain ⟨_, _, _, _, rfl, _⟩ := h; rfl)
  | (obtain ⟨_, _, _, _, _, rfl, _⟩ := h; rfl)
  | (obtain ⟨_, _, _, _, _, _, rfl, _⟩ := h; rfl)
  | (obtain ⟨_, _, _, _, _, _, _, rfl, _⟩ := h; rfl)
  | (obtain ⟨_, _, _, _, _, _, _, _, rfl, _⟩ := h; rfl)
  | (obtain ⟨_, _, _, _, _, _, _, _, _, rfl, _⟩ := h; rfl)
  | (obtain ⟨_, _, _, _, _, _, _, _, _, _, rfl, _⟩ := h; rfl)
  | (obtain ⟨_, _, _, _, _, _, _, _, _, _, _, rfl, _⟩ := h; rfl)
  | (obtain ⟨_, _, _, _, _, _, _, _, _, _, _, _, rfl, _⟩ := h; rfl)
  | (obtain ⟨_, _, rfl, _⟩ := h; rfl)
  | (obtain ⟨_, _, _, rfl, _⟩ := h; rfl)
theorem facts {P : Program} {w : World} {K : PySem.W.Frag} {h : Heap} {mg : Str → Option Value} {f : Addr} (X : K.In h) (G : h.Ns mainGlobals mg) (hfa : mg ("law" : Str) = some (.ref f)) (cE : SaysE fa fn ex K) :
    ∃ fd : FuncData, (∀ (s : Shared) (v : Value), BindsTo s fd ⟨[v], []⟩ [("_law_script", v)]) ∧ ∀ base : Heap, K.In base → base.Ns mainGlobals mg → FnOk P w K mg base CX0 5 f fd P_law92 (spV K mg (lawSp 63)) := by
  obtain ⟨c, cx⟩ := cE
  obtain ⟨cx1, cx⟩ := b2 cx
  obtain ⟨cx2, cx⟩ := b2 cx
  obtain ⟨cx3, cx4⟩ := b2 cx
  have cSB : ∀ q ∈ sb, ClsF0 K mg q.1 q.2.1 q.2.2 := fun q hq => cls_ok X G (List.all_eq_true.mp cx1 q hq)
  have cFL : ∀ q ∈ fl, FldF0 K mg q.1 q.2 := fun q hq => fld_ok X G (List.all_eq_true.mp cx2 q hq)
  have cGG : ∀ q ∈ gg, GloG K mg q.1 q.2 := (by
      intro q hq
      simp only [gg, List.mem_cons, List.not_mem_nil, or_false] at hq
      rcases hq with rfl | rfl | rfl | rfl
      · exact str_g X G (c.fact 14 (f := .str "LETTERS" "abcdefghijklmnopqrstuvwxyz") rfl)
      · exact int_g X G (c.fact 15 (f := .int "LONGEST_NAME" 8) rfl)
      · exact str_g X G (c.fact 16 (f := .str "FIGURES" "0123456789") rfl)
      · exact int_g X G (c.fact 17 (f := .int "MOST_FIGURES" 20) rfl))
  have cXX : ∀ q ∈ xx, ExcG K mg q := (by
      intro q hq
      simp only [xx, List.mem_cons, List.not_mem_nil, or_false] at hq
      rcases hq with rfl
      · exact exc_g X G (c.fact 18 (f := .glo "NoLine") rfl) (c.fact 19 (f := .exc "NoLine") rfl))
  have free := all_free X G c (by intro b hb; exact List.mem_append_right _ (List.mem_map_of_mem hb))
  obtain ⟨fd__law_cell, F__law_cell⟩ := c.def_ 0 (d := d__law_cell) rfl
  have g__law_cell := He.glo_ok X G (c.fact 0 (f := .glo "_law_cell") rfl)
  obtain ⟨fd__law_mix, F__law_mix⟩ := c.def_ 1 (d := d__law_mix) rfl
  have g__law_mix := He.glo_ok X G (c.fact 1 (f := .glo "_law_mix") rfl)
  obtain ⟨fd__law_row, F__law_row⟩ := c.def_ 2 (d := d__law_row) rfl
  have g__law_row := He.glo_ok X G (c.fact 2 (f := .glo "_law_row") rfl)
  obtain ⟨fd__law_is_whole, F__law_is_whole⟩ := c.def_ 3 (d := d__law_is_whole) rfl
  have g__law_is_whole := He.glo_ok X G (c.fact 3 (f := .glo "_law_is_whole") rfl)
  obtain ⟨fd_good_name, F_good_name⟩ := c.def_ 4 (d := d_good_name) rfl
  have g_good_name := He.glo_ok X G (c.fact 4 (f := .glo "good_name") rfl)
  obtain ⟨fd_read_whole, F_read_whole⟩ := c.def_ 5 (d := d_read_whole) rfl
  have g_read_whole := He.glo_ok X G (c.fact 5 (f := .glo "read_whole") rfl)
  obtain ⟨fd_read_name, F_read_name⟩ := c.def_ 6 (d := d_read_name) rfl
  have g_read_name := He.glo_ok X G (c.fact 6 (f := .glo "read_name") rfl)
  obtain ⟨fd_read_piece, F_read_piece⟩ := c.def_ 7 (d := d_read_piece) rfl
  have g_read_piece := He.glo_ok X G (c.fact 7 (f := .glo "read_piece") rfl)
  obtain ⟨fd_read_cutting, F_read_cutting⟩ := c.def_ 8 (d := d_read_cutting) rfl
  have g_read_cutting := He.glo_ok X G (c.fact 8 (f := .glo "read_cutting") rfl)
  obtain ⟨fd_show_cutting, F_show_cutting⟩ := c.def_ 9 (d := d_show_cutting) rfl
  have g_show_cutting := He.glo_ok X G (c.fact 9 (f := .glo "show_cutting") rfl)
  obtain ⟨fd__law_line, F__law_line⟩ := c.def_ 10 (d := d__law_line) rfl
  have g__law_line := He.glo_ok X G (c.fact 10 (f := .glo "_law_line") rfl)
  obtain ⟨fd__law_is_cutting, F__law_is_cutting⟩ := c.def_ 11 (d := d__law_is_cutting) rfl
  have g__law_is_cutting := He.glo_ok X G (c.fact 11 (f := .glo "_law_is_cutting") rfl)
  obtain ⟨fd__law_pieces, F__law_pieces⟩ := c.def_ 12 (d := d__law_pieces) rfl
  have g__law_pieces := He.glo_ok X G (c.fact 12 (f := .glo "_law_pieces") rfl)
  obtain ⟨fd, F⟩ := c.def_ 13 (d := d_law) rfl
  have e := hfa.symm.trans (He.glo_ok X G (c.fact 13 (f := .glo "law") rfl))
  cases e
  have b := FunD.bindsA (ps := P_law92) F fun _ _ _ _ _ _ us hl => match us, hl with | [_], _ => rfl
  refine ⟨fd, fun s v => b s [v] rfl, fun base _ _ => ?_⟩
  have o__law_cell := def_ok (P := P) (w := w) (mg := mg) (base := base) (k := 0) F__law_cell sc__law_cell (mkCtx (t := []) (g := gg) (x := xx) (sb := sb) (fl := fl) (mi := []) free cGG cXX cSB cFL (fun q hq => nomatch hq) (fun p hp => nomatch hp)) ck__law_cell hl__law_cell (w_cell  )
  have b__law_cell : Binds K fd__law_cell P__law_cell [] := F__law_cell.bindsN fun _ _ _ _ _ _ us hl => match us, hl with | [_, _], _ => rfl
  have c__law_cell := fun {k : Nat} (h : 1 ≤ k) => GCall.mk' o__law_cell g__law_cell F__law_cell.kp b__law_cell h
  have o__law_mix := def_ok (P := P) (w := w) (mg := mg) (base := base) (k := 0) F__law_mix sc__law_mix (mkCtx (t := []) (g := gg) (x := xx) (sb := sb) (fl := fl) (mi := []) free cGG cXX cSB cFL (fun q hq => nomatch hq) (fun p hp => nomatch hp)) ck__law_mix hl__law_mix (w_mix  )
  have b__law_mix : Binds K fd__law_mix P__law_mix [] := F__law_mix.bindsN fun _ _ _ _ _ _ us hl => match us, hl with | [_, _], _ => rfl
  have c__law_mix := fun {k : Nat} (h : 1 ≤ k) => GCall.mk' o__law_mix g__law_mix F__law_mix.kp b__law_mix h
  have o__law_row := def_ok (P := P) (w := w) (mg := mg) (base := base) (k := 1) F__law_row sc__law_row (mkCtx (t := [("_law_cell", spCell), ("_law_mix", spMix)]) (g := gg) (x := xx) (sb := sb) (fl := fl) (mi := []) free cGG cXX cSB cFL (fun q hq => nomatch hq) (by
      intro p hp
      simp only [List.mem_cons, List.not_mem_nil, or_false] at hp
      rcases hp with rfl | rfl
      · exact c__law_cell (by decide)
      · exact c__law_mix (by decide))) ck__law_row hl__law_row (w_row  (mkS_T (by repeat first | exact lk_0 | refine lk_s (by decide +kernel) ?_)) (mkS_T (by repeat first | exact lk_0 | refine lk_s (by decide +kernel) ?_)))
  have b__law_row : Binds K fd__law_row P__law_row [] := F__law_row.bindsN fun _ _ _ _ _ _ us hl => match us, hl with | [_, _, _], _ => rfl
  have c__law_row := fun {k : Nat} (h : 2 ≤ k) => GCall.mk' o__law_row g__law_row F__law_row.kp b__law_row h
  have o__law_is_whole := def_ok (P := P) (w := w) (mg := mg) (base := base) (k := 0) F__law_is_whole sc__law_is_whole (mkCtx (t := []) (g := gg) (x := xx) (sb := sb) (fl := fl) (mi := []) free cGG cXX cSB cFL (fun q hq => nomatch hq) (fun p hp => nomatch hp)) ck__law_is_whole hl__law_is_whole (w_whole  )
  have b__law_is_whole : Binds K fd__law_is_whole P__law_is_whole [] := F__law_is_whole.bindsN fun _ _ _ _ _ _ us hl => match us, hl with | [_], _ => rfl
  have c__law_is_whole := fun {k : Nat} (h : 1 ≤ k) => GCall.mk' o__law_is_whole g__law_is_whole F__law_is_whole.kp b__law_is_whole h
  have o_good_name := def_ok (P := P) (w := w) (mg := mg) (base := base) (k := 0) F_good_name sc_good_name (mkCtx (t := []) (g := gg) (x := xx) (sb := sb) (fl := fl) (mi := []) free cGG cXX cSB cFL (fun q hq => nomatch hq) (fun p hp => nomatch hp)) ck_good_name hl_good_name (w_gn (mkS_G (by repeat first | exact lk_0 | refine lk_s (by decide +kernel) ?_)) (mkS_G (by repeat first | exact lk_0 | refine lk_s (by decide +kernel) ?_)) )
  have b_good_name : Binds K fd_good_name P_good_name11 [] := F_good_name.bindsN fun _ _ _ _ _ _ us hl => match us, hl with | [_], _ => rfl
  have c_good_name := fun {k : Nat} (h : 1 ≤ k) => GCall.mk' o_good_name g_good_name F_good_name.kp b_good_name h
  have o_read_whole := def_ok (P := P) (w := w) (mg := mg) (base := base) (k := 0) F_read_whole sc_read_whole (mkCtx (t := []) (g := gg) (x := xx) (sb := sb) (fl := fl) (mi := []) free cGG cXX cSB cFL (fun q hq => nomatch hq) (fun p hp => nomatch hp)) ck_read_whole hl_read_whole (w_wh (mkS_G (by repeat first | exact lk_0 | refine lk_s (by decide +kernel) ?_)) (mkS_G (by repeat first | exact lk_0 | refine lk_s (by decide +kernel) ?_)) )
  have b_read_whole : Binds K fd_read_whole P_read_whole92 [] := F_read_whole.bindsN fun _ _ _ _ _ _ us hl => match us, hl with | [_], _ => rfl
  have c_read_whole := fun {k : Nat} (h : 1 ≤ k) => GCall.mk' o_read_whole g_read_whole F_read_whole.kp b_read_whole h
  have o_read_name := def_ok (P := P) (w := w) (mg := mg) (base := base) (k := 1) F_read_name sc_read_name (mkCtx (t := [("good_name", spGN)]) (g := gg) (x := xx) (sb := sb) (fl := fl) (mi := []) free cGG cXX cSB cFL (fun q hq => nomatch hq) (by
      intro p hp
      simp only [List.mem_cons, List.not_mem_nil, or_false] at hp
      rcases hp with rfl
      · exact c_good_name (by decide))) ck_read_name hl_read_name (w_nm  (mkS_T (by repeat first | exact lk_0 | refine lk_s (by decide +kernel) ?_)))
  have b_read_name : Binds K fd_read_name P_read_name92 [] := F_read_name.bindsN fun _ _ _ _ _ _ us hl => match us, hl with | [_], _ => rfl
  have c_read_name := fun {k : Nat} (h : 2 ≤ k) => GCall.mk' o_read_name g_read_name F_read_name.kp b_read_name h
  have o_read_piece := def_ok (P := P) (w := w) (mg := mg) (base := base) (k := 2) F_read_piece sc_read_piece (mkCtx (t := [("read_whole", spWh), ("read_name", spNm)]) (g := gg) (x := xx) (sb := sb) (fl := fl) (mi := []) free cGG cXX cSB cFL (fun q hq => nomatch hq) (by
      intro p hp
      simp only [List.mem_cons, List.not_mem_nil, or_false] at hp
      rcases hp with rfl | rfl
      · exact c_read_whole (by decide)
      · exact c_read_name (by decide))) ck_read_piece hl_read_piece (w_pie  (mkS_T (by repeat first | exact lk_0 | refine lk_s (by decide +kernel) ?_)) (mkS_T (by repeat first | exact lk_0 | refine lk_s (by decide +kernel) ?_)))
  have b_read_piece : Binds K fd_read_piece P_read_piece92 [] := F_read_piece.bindsN fun _ _ _ _ _ _ us hl => match us, hl with | [_], _ => rfl
  have c_read_piece := fun {k : Nat} (h : 3 ≤ k) => GCall.mk' o_read_piece g_read_piece F_read_piece.kp b_read_piece h
  have o_read_cutting := def_ok (P := P) (w := w) (mg := mg) (base := base) (k := 3) F_read_cutting sc_read_cutting (mkCtx (t := [("read_piece", spPie)]) (g := gg) (x := xx) (sb := sb) (fl := fl) (mi := []) free cGG cXX cSB cFL (fun q hq => nomatch hq) (by
      intro p hp
      simp only [List.mem_cons, List.not_mem_nil, or_false] at hp
      rcases hp with rfl
      · exact c_read_piece (by decide))) ck_read_cutting hl_read_cutting (w_rc  (mkS_T (by repeat first | exact lk_0 | refine lk_s (by decide +kernel) ?_)))
  have b_read_cutting : Binds K fd_read_cutting P_read_cutting92 [] := F_read_cutting.bindsN fun _ _ _ _ _ _ us hl => match us, hl with | [_], _ => rfl
  have c_read_cutting := fun {k : Nat} (h : 4 ≤ k) => GCall.mk' o_read_cutting g_read_cutting F_read_cutting.kp b_read_cutting h
  have o_show_cutting := def_ok (P := P) (w := w) (mg := mg) (base := base) (k := 0) F_show_cutting sc_show_cutting (mkCtx (t := []) (g := gg) (x := xx) (sb := sb) (fl := fl) (mi := []) free cGG cXX cSB cFL (fun q hq => nomatch hq) (fun p hp => nomatch hp)) ck_show_cutting hl_show_cutting (w_sc  )
  have b_show_cutting : Binds K fd_show_cutting P_show_cutting92 [] := F_show_cutting.bindsN fun _ _ _ _ _ _ us hl => match us, hl with | [_], _ => rfl
  have c_show_cutting := fun {k : Nat} (h : 1 ≤ k) => GCall.mk' o_show_cutting g_show_cutting F_show_cutting.kp b_show_cutting h
  have o__law_line := def_ok (P := P) (w := w) (mg := mg) (base := base) (k := 0) F__law_line sc__law_line (mkCtx (t := []) (g := gg) (x := xx) (sb := sb) (fl := fl) (mi := []) free cGG cXX cSB cFL (fun q hq => nomatch hq) (fun p hp => nomatch hp)) ck__law_line hl__law_line (w_ln  )
  have b__law_line : Binds K fd__law_line P__law_line92 [] := F__law_line.bindsN fun _ _ _ _ _ _ us hl => match us, hl with | [_], _ => rfl
  have c__law_line := fun {k : Nat} (h : 1 ≤ k) => GCall.mk' o__law_line g__law_line F__law_line.kp b__law_line h
  have o__law_is_cutting := def_ok (P := P) (w := w) (mg := mg) (base := base) (k := 1) F__law_is_cutting sc__law_is_cutting (mkCtx (t := [("_law_is_whole", spWhole)]) (g := gg) (x := xx) (sb := sb) (fl := fl) (mi := []) free cGG cXX cSB cFL (fun q hq => nomatch hq) (by
      intro p hp
      simp only [List.mem_cons, List.not_mem_nil, or_false] at hp
      rcases hp with rfl
      · exact c__law_is_whole (by decide))) ck__law_is_cutting hl__law_is_cutting (w_cut92  (mkS_T (by repeat first | exact lk_0 | refine lk_s (by decide +kernel) ?_)))
  have b__law_is_cutting : Binds K fd__law_is_cutting P__law_is_cutting92 [] := F__law_is_cutting.bindsN fun _ _ _ _ _ _ us hl => match us, hl with | [_], _ => rfl
  have c__law_is_cutting := fun {k : Nat} (h : 2 ≤ k) => GCall.mk' o__law_is_cutting g__law_is_cutting F__law_is_cutting.kp b__law_is_cutting h
  have o__law_pieces := def_ok (P := P) (w := w) (mg := mg) (base := base) (k := 2) F__law_pieces sc__law_pieces (mkCtx (t := [("_law_row", spRow)]) (g := gg) (x := xx) (sb := sb) (fl := fl) (mi := []) free cGG cXX cSB cFL (fun q hq => nomatch hq) (by
      intro p hp
      simp only [List.mem_cons, List.not_mem_nil, or_false] at hp
      rcases hp with rfl
      · exact c__law_row (by decide))) ck__law_pieces hl__law_pieces (w_pcs  (mkS_T (by repeat first | exact lk_0 | refine lk_s (by decide +kernel) ?_)))
  have b__law_pieces : Binds K fd__law_pieces P__law_pieces92 [] := F__law_pieces.bindsN fun _ _ _ _ _ _ us hl => match us, hl with | [_], _ => rfl
  have c__law_pieces := fun {k : Nat} (h : 3 ≤ k) => GCall.mk' o__law_pieces g__law_pieces F__law_pieces.kp b__law_pieces h
  exact law_ok (k := 4) F sc_law (mkCtx (t := [("_law_pieces", spPcs), ("show_cutting", spLn), ("_law_line", spLn), ("read_cutting", spRc), ("_law_is_cutting", spCut92)]) (g := gg) (x := xx) (sb := sb) (fl := fl) (mi := []) free cGG cXX cSB cFL (fun q hq => nomatch hq) (by
      intro p hp
      simp only [List.mem_cons, List.not_mem_nil, or_false] at hp
      rcases hp with rfl | rfl | rfl | rfl | rfl
      · exact c__law_pieces (by decide)
      · exact c_show_cutting (by decide)
      · exact c__law_line (by decide)
      · exact c_read_cutting (by decide)
      · exact c__law_is_cutting (by decide))) ck_law hl_law (fun ds o h => by obtain ⟨_, _, _, rfl⟩ := h; exact ⟨_, _, rfl⟩) (w_law92  (mkS_T (by repeat first | exact lk_0 | refine lk_s (by decide +kernel) ?_)) (mkS_T (by repeat first | exact lk_0 | refine lk_s (by decide +kernel) ?_)) (mkS_T (by repeat first | exact lk_0 | refine lk_s (by decide +kernel) ?_)) (mkS_T (by repeat first | exact lk_0 | refine lk_s (by decide +kernel) ?_)) (mkS_T (by repeat first | exact lk_0 | refine lk_s (by decide +kernel) ?_)))
end SV.Top
open PySem PySem.W PySem.Calls PyProof.Rows
theorem PySem.Challenge.cw_selvage_k92_cuttings_there_and_back_holds : PySem.Challenge.rw_selvage_k92_cuttings_there_and_back.Holds := by
  w_on; o_law
  refine HandSHeadRun.head_any (r := OpenLaw.row PySem.Challenge.rw_selvage_k92_cuttings_there_and_back) (q := view (OpenLaw.row PySem.Challenge.rw_selvage_k92_cuttings_there_and_back).prog [23]) (H := SV.Top.hk) (ob := SV.Top.ob) (M := 4000) (loose := ["good_name", "show_cutting", "read_whole", "read_name", "read_piece", "read_cutting", "_law_cell", "_law_mix", "_law_row", "_law_is_whole", "_law_is_cutting", "_law_line", "_law_pieces", "CutError", "NoLine", "LETTERS", "LONGEST_NAME", "FIGURES", "MOST_FIGURES"]) (d := HandSHeadRun.topDef (OpenLaw.row PySem.Challenge.rw_selvage_k92_cuttings_there_and_back).prog 23) (kwd := []) SV.Top.ob_eq
    (by kernel_rfl) (fun s => by kernel_rfl) SV.Top.run (by kernel_rfl) (by kernel_rfl) (by kernel_rfl) (by rfl) (by first | assumption | decide +kernel) (by decide +kernel) ⟨rfl, rfl, rfl, rfl, rfl, by decide +kernel⟩ ?hw ?hc
  case hw => w_witness2
  case hc =>
    refine L2.walk_ofE (l := PySem.Challenge.rw_selvage_k92_cuttings_there_and_back) (n := 63) (k := 5) (x := "_law_script") (CX := L2.CX0) rfl (by decide) (by kernel_rfl) ⟨rfl, by decide, by decide⟩ ?F (fun _ _ _ _ z => z)
    intro w mg fa h Y G hmg0
    obtain ⟨K, KX, c⟩ := Y
    have hmg : mg ("law" : PySem.Str) = some (.ref fa) := by
      have e : (HandSHeadRun.topDef (OpenLaw.row PySem.Challenge.rw_selvage_k92_cuttings_there_and_back).prog 23).name = ("law" : PySem.Str) := by kernel_rfl
      rw [← e]
      exact hmg0
    obtain ⟨fd, hb, hF⟩ := SV.Top.facts (P := (PySem.Challenge.rw_selvage_k92_cuttings_there_and_back).prog) (w := w) KX G hmg c
    exact ⟨K, fd, SV.spV K mg (SV.lawSp 63), KX, hb, fun H a ns hl _ hS => SV.law_sp hl hS, hF⟩
